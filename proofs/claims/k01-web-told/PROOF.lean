import PyProof.Rows.All
import Wide.All
import OpenK.AllK
import Wide.FinOn
import HandS.ForMost
import HandS.Exc
import HandS.ExcOwn
import HandS.ExcInit
import HandS.WordsExc
import HandS.Conv
import HandS.Deep
import HandS.DictComp
import HandS.Wide
import HandS.NoneIn
import HandS.CallSlots
import KE.SortData
import KE.DataMinMax
import HandS.IsInst
import HandS.More
import HandS.TupLen
import HandS.Iter
import HandS.Defaults
import HandS.OwnEq
import OpenK.KOps
import HandS.Ends
import HandS.Text
import PySem.Challenge.RW_stretchroad_k01_web_told
set_option Elab.async false
set_option linter.all false
set_option maxRecDepth 100000
set_option maxHeartbeats 4321000
/-! Own layer L3: data without a heap (D), a small store of owned cells, and what a piece of code does to them. -/
namespace L3
open PySem L2 PyProof.Rows

/-! short names -/
theorem inApp {α : Type} {x : α} {l m : List α} (h : x ∈ l ++ m) : x ∈ l ∨ x ∈ m := List.mem_append.mp h
theorem inCons {α : Type} {x y : α} {l : List α} (h : x ∈ y :: l) : x = y ∨ x ∈ l := List.mem_cons.mp h
theorem inOne {α : Type} {x y : α} (h : x ∈ [y]) : x = y := List.mem_singleton.mp h
theorem inMap {α β : Type} {f : α → β} {y : β} {l : List α} (h : y ∈ l.map f) : ∃ x, x ∈ l ∧ f x = y := List.mem_map.mp h
theorem nodTwo {α : Type} {x : α} {l : List α} (h : (x :: l).Nodup) : x ∉ l ∧ l.Nodup := List.nodup_cons.mp h
theorem allTwo {α : Type} {f : α → Bool} {x : α} {l : List α} (h : (x :: l).all f = true) : f x = true ∧ l.all f = true := by simpa using h
theorem atMem {α : Type} {x : α} {l : List α} (h : x ∈ l) : ∃ j, ∃ hj : j < l.length, l[j] = x := List.getElem_of_mem h
theorem two {p q r : Prop} (a : p) (b : q) (c : r) : p ∧ q ∧ r := ⟨a, b, c⟩
theorem dec1 {p : Prop} [Decidable p] (h : p) : decide p = true := decide_eq_true h
/-- frozen data: nobody writes to it any more -/
inductive D where
  | non | bl (b : Bool) | int (i : Int) | str (x : Str) | ty (n : String)
  | lst (xs : List D) | tup (xs : List D) | dct (kvs : List (Key × D)) | dcT (kvs : List (List Key × D))
  | obj (C : Addr) (fs : List (Str × D)) | scr (ns : List Int)

/-- a value: frozen data, or the n-th owned cell -/
inductive Val where
  | d (x : D) | own (n : Nat)
/-- what an owned cell holds -/
inductive Cell where
  | L (xs : List Val) | M (kvs : List (Key × Val)) | T (kvs : List (List Key × Val)) | O (C : Addr) (fs : List (Str × Val))
  | fz (x : D) | no

def dictish : HO → Prop
  | .dK _ => True
  | .dT _ => True
  | _ => False

mutual
inductive Fz (K : PySem.W.Frag) (F : Hp) : V → D → Prop
  | non : Fz K F .non .non
  | bl (b : Bool) : Fz K F (.bl b) (.bl b)
  | int (i : Int) : Fz K F (.int i) (.int i)
  | str (x : Str) : Fz K F (.str x) (.str x)
  | ty (n : String) : Fz K F (.ty n) (.ty n)
  | lst {a : Addr} {vs : List V} {xs : List D} : F a = some (.lst vs) → FzL K F vs xs → Fz K F (.ref a) (.lst xs)
  | tup {a : Addr} {vs : List V} {xs : List D} : F a = some (.tup vs) → FzL K F vs xs → Fz K F (.ref a) (.tup xs)
  | dct {a : Addr} {kv : List (Key × V)} {xs : List (Key × D)} : F a = some (.dK kv) → kv.map (·.1) = xs.map (·.1) → FzL K F (kv.map (·.2)) (xs.map (·.2)) → Fz K F (.ref a) (.dct xs)
  | dcT {a : Addr} {kv : List (List Key × V)} {xs : List (List Key × D)} : F a = some (.dT kv) → kv.map (·.1) = xs.map (·.1) → FzL K F (kv.map (·.2)) (xs.map (·.2)) → Fz K F (.ref a) (.dcT xs)
  | obj {a C dx : Addr} {fv : List (Str × V)} {fs : List (Str × D)} : F a = some (.ins C dx fv) → fv.map (·.1) = fs.map (·.1) → FzL K F (fv.map (·.2)) (fs.map (·.2)) → Fz K F (.ref a) (.obj C fs)
  | scr {a : Addr} {ns : List Int} : SqL K F a (ns.map V.int) → Fz K F (.ref a) (.scr ns)
inductive FzL (K : PySem.W.Frag) (F : Hp) : List V → List D → Prop
  | nil : FzL K F [] []
  | cons {v : V} {vs : List V} {x : D} {xs : List D} : Fz K F v x → FzL K F vs xs → FzL K F (v :: vs) (x :: xs)
end

/-- the frozen part, the owned cells' addresses, what is locked -/
structure Lks where
  l : List Addr
  ob : Addr → Obj
instance : Membership Addr Lks := ⟨fun L a => a ∈ L.l⟩
structure Wd where
  F : Hp
  as : List Addr
  lks : Lks

def VR (K : PySem.W.Frag) (w : Wd) (v : V) : Val → Prop
  | .d x => Fz K w.F v x
  | .own n => ∃ a, w.as[n]? = some a ∧ v = .ref a

/-- a state: the slots, the store, whether a dict is locked -/
structure Gam where
  sl : List (Option Val)
  st : List Cell
  lk : Bool := false

def CellOk (K : PySem.W.Frag) (w : Wd) (H : Hp) (a : Addr) : Cell → Prop
  | .L xs => w.F a = none ∧ ∃ vs, H a = some (.lst vs) ∧ Paired (VR K w) vs xs
  | .M kvs => w.F a = none ∧ ∃ kv, H a = some (.dK kv) ∧ kv.map (·.1) = kvs.map (·.1) ∧ Paired (VR K w) (kv.map (·.2)) (kvs.map (·.2))
  | .T kvs => w.F a = none ∧ ∃ kv, H a = some (.dT kv) ∧ kv.map (·.1) = kvs.map (·.1) ∧ Paired (VR K w) (kv.map (·.2)) (kvs.map (·.2))
  | .O C fs => w.F a = none ∧ ∃ dx fv, H a = some (.ins C dx fv) ∧ fv.map (·.1) = fs.map (·.1) ∧ Paired (VR K w) (fv.map (·.2)) (fs.map (·.2))
  | .fz x => Fz K w.F (.ref a) x
  | .no => True

structure Sub (F H : Hp) (lks : Lks) : Prop where
  ex : ∀ a o, F a = some o → a ∉ lks → H a = some o
  lk0 : ∀ a o, F a = some o → a ∈ lks → dictish o ∧ H a = some (.frz (lks.ob a) o)
  al : ∀ a, a ∈ lks → F a ≠ none
  nf : ∀ a ob u, F a = some (.frz ob u) → ¬ dictish u

structure Sta (K : PySem.W.Frag) (w : Wd) (H : Hp) (σ : L2.St) (Γ : Gam) : Prop where
  sub : Sub w.F H w.lks
  lkd : Γ.lk = false → w.lks.l = []
  nd : w.as.Nodup
  len : w.as.length = Γ.st.length
  cells : ∀ (n : Nat) (c : Cell) (a : Addr), Γ.st[n]? = some c → w.as[n]? = some a → CellOk K w H a c
  alive : ∀ a, a ∈ w.as → H a ≠ none
  slen : σ.length = Γ.sl.length
  slots : ∀ (i : Nat) (x : Val), Γ.sl[i]? = some (some x) → ∃ v, σ[i]? = some (some v) ∧ VR K w v x

structure Grow (w : Wd) (H : Hp) (w' : Wd) (H' : Hp) : Prop where
  le : ∀ a o, w.F a = some o → w'.F a = some o
  as : ∃ more, w'.as = w.as ++ more
  lks : w'.lks = w.lks
  fr : ∀ a o, H a = some o → a ∉ w.as → H' a = some o
  nw : ∀ a, a ∈ w'.as → a ∈ w.as ∨ H a = none
  nf : ∀ a, w'.F a ≠ none → w.F a ≠ none ∨ a ∈ w.as ∨ H a = none ∨ ∃ xs, H a = some (.tup xs)

section
variable {K : PySem.W.Frag} {w w' w'' : Wd} {H H' H'' F F' : Hp} {σ : L2.St} {Γ Γ' : Gam}

theorem Grow.refl (w : Wd) (H : Hp) : Grow w H w H := ⟨fun _ _ h => h, ⟨[], (List.append_nil _).symm⟩, rfl, fun _ _ h _ => h, fun _ h => .inl h, fun _ h => .inl h⟩
theorem Grow.trans (g : Grow w H w' H') (g' : Grow w' H' w'' H'') : Grow w H w'' H'' := by
  have key : ∀ a, H' a = none → a ∈ w.as ∨ H a = none := fun a h => by
    by_cases m : a ∈ w.as
    · exact .inl m
    · cases e : H a with
      | none => exact .inr rfl
      | some o =>
        have := g.fr a o e m
        rw [h] at this
        cases this
  refine ⟨fun a o h => g'.le a o (g.le a o h), ?_, g'.lks.trans g.lks, fun a o h m => g'.fr a o (g.fr a o h m) fun m' => ?_, fun a m => ?_, fun a h => ?_⟩
  · obtain ⟨m1, e1⟩ := g.as
    obtain ⟨m2, e2⟩ := g'.as
    exact ⟨m1 ++ m2, by rw [e2, e1, List.append_assoc]⟩
  · rcases g.nw a m' with z | z
    · exact m z
    · rw [z] at h
      cases h
  · rcases g'.nw a m with z | z
    · exact g.nw a z
    · exact key a z
  · rcases g'.nf a h with z | z | z | ⟨xs, z⟩
    · exact g.nf a z
    · rcases g.nw a z with y | y
      · exact .inr (.inl y)
      · exact .inr (.inr (.inl y))
    · rcases key a z with y | y
      · exact .inr (.inl y)
      · exact .inr (.inr (.inl y))
    · by_cases m : a ∈ w.as
      · exact .inr (.inl m)
      · cases e : H a with
        | none => exact .inr (.inr (.inl rfl))
        | some o =>
          have := g.fr a o e m
          rw [z] at this
          exact .inr (.inr (.inr ⟨xs, by rw [← this]⟩))

theorem rd_le (le : ∀ a o, F a = some o → F' a = some o) {a : Addr} {u : HO} (h : Rd F a u) : Rd F' a u := by
  rcases h with h | ⟨o, h⟩
  · exact .inl (le _ _ h)
  · exact .inr ⟨o, le _ _ h⟩
theorem sql_le (le : ∀ a o, F a = some o → F' a = some o) {a : Addr} {xs : List V} (h : SqL K F a xs) : SqL K F' a xs := by
  rcases h with h | h
  · exact .inl (rd_le le h)
  · exact .inr h
mutual
theorem Fz.le (le : ∀ a o, F a = some o → F' a = some o) : ∀ {v : V} {x : D}, Fz K F v x → Fz K F' v x
  | _, _, .non => .non
  | _, _, .bl b => .bl b
  | _, _, .int i => .int i
  | _, _, .str x => .str x
  | _, _, .ty n => .ty n
  | _, _, .lst h l => .lst (le _ _ h) (FzL.le le l)
  | _, _, .tup h l => .tup (le _ _ h) (FzL.le le l)
  | _, _, .dct h e l => .dct (le _ _ h) e (FzL.le le l)
  | _, _, .dcT h e l => .dcT (le _ _ h) e (FzL.le le l)
  | _, _, .obj h e l => .obj (le _ _ h) e (FzL.le le l)
  | _, _, .scr h => .scr (sql_le le h)
theorem FzL.le (le : ∀ a o, F a = some o → F' a = some o) : ∀ {v : List V} {x : List D}, FzL K F v x → FzL K F' v x
  | _, _, .nil => .nil
  | _, _, .cons h l => .cons (Fz.le le h) (FzL.le le l)
end

theorem Sub.lk {F H : Hp} {lks : Lks} (s : Sub F H lks) (a : Addr) (o : HO) (h : F a = some o) (m : a ∈ lks) : dictish o ∧ ∃ ob, H a = some (.frz ob o) := ⟨(s.lk0 a o h m).1, _, (s.lk0 a o h m).2⟩
theorem not_dictish_lst {xs : List V} : ¬ dictish (.lst xs) := fun h => h
theorem Sub.exact (s : Sub F H lks) {a : Addr} {o : HO} (h : F a = some o) (nd : ¬ dictish o) : H a = some o := by
  by_cases m : a ∈ lks
  · exact absurd (s.lk a o h m).1 nd
  · exact s.ex a o h m
theorem Sub.rd (s : Sub F H lks) {a : Addr} {u : HO} (h : Rd F a u) : Rd H a u := by
  rcases h with h | ⟨o, h⟩
  · by_cases m : a ∈ lks
    · exact .inr (s.lk a u h m).2
    · exact .inl (s.ex a u h m)
  · exact .inr ⟨o, s.exact h (fun z => z)⟩
theorem Sub.sql (s : Sub F H lks) {a : Addr} {xs : List V} (h : SqL K F a xs) : SqL K H a xs := by
  rcases h with h | h
  · exact .inl (s.rd h)
  · exact .inr h
/-- the heap with the locks taken off -/
def unl (H : Hp) : Hp := fun a => match H a with
  | some (.frz _ (.dK kvs)) => some (.dK kvs)
  | some (.frz _ (.dT kvs)) => some (.dT kvs)
  | r => r
theorem Sub.unl (s : Sub F H lks) : ∀ a o, F a = some o → unl H a = some o := fun a o h => by
  unfold L3.unl
  by_cases m : a ∈ lks
  · obtain ⟨d, ob, e⟩ := s.lk a o h m
    rw [e]
    cases o with
    | dK kvs => rfl
    | dT kvs => rfl
    | _ => exact False.elim d
  · rw [s.ex a o h m]
    cases o with
    | frz ob u =>
      have := s.nf a ob u h
      cases u with
      | dK kvs => exact absurd trivial this
      | dT kvs => exact absurd trivial this
      | _ => rfl
    | _ => rfl
theorem unl_lst {a : Addr} {xs : List V} (h : unl H a = some (.lst xs)) : H a = some (.lst xs) := by
  unfold unl at h
  split at h
  · cases h
  · cases h
  · exact h
theorem unl_tup {a : Addr} {xs : List V} (h : unl H a = some (.tup xs)) : H a = some (.tup xs) := by
  unfold unl at h
  split at h
  · cases h
  · cases h
  · exact h
theorem FzL.vr : ∀ {vs : List V} {xs : List D}, FzL K w.F vs xs → Paired (VR K w) vs (xs.map Val.d)
  | _, _, .nil => .nil
  | _, _, .cons h l => .cons h l.vr
theorem FzL.of_vr : ∀ {vs : List V} {xs : List D}, Paired (VR K w) vs (xs.map Val.d) → FzL K w.F vs xs
  | _, [], .nil => .nil
  | _, _ :: _, .cons h l => .cons h (FzL.of_vr l)
theorem VR.grow (g : Grow w H w' H') {v : V} : ∀ {x : Val}, VR K w v x → VR K w' v x
  | .d _, h => Fz.le g.le h
  | .own n, ⟨a, e, r⟩ => by
    obtain ⟨more, em⟩ := g.as
    refine ⟨a, ?_, r⟩
    rw [em, List.getElem?_append_left (List.getElem?_eq_some_iff.mp e).1]
    exact e
theorem vrs_grow (g : Grow w H w' H') : ∀ {vs : List V} {xs : List Val}, Paired (VR K w) vs xs → Paired (VR K w') vs xs
  | _, _, .nil => .nil
  | _, _, .cons h l => .cons (h.grow g) (vrs_grow g l)

/-! ### the moves of a state -/
/-- a cell stays: its address is left alone, the frozen part grows elsewhere -/
theorem CellOk.keep {a : Addr} (le : ∀ b o, w.F b = some o → w'.F b = some o) (as : ∃ more, w'.as = w.as ++ more) (hF : w.F a = none → w'.F a = none) (hH : H' a = H a) : ∀ {c : Cell}, CellOk K w H a c → CellOk K w' H' a c := by
  have vr : ∀ {v : V} {x : Val}, VR K w v x → VR K w' v x := by
    intro v x
    cases x with
    | d x => exact fun h => Fz.le le h
    | own n =>
      rintro ⟨a, e, r⟩
      obtain ⟨more, em⟩ := as
      refine ⟨a, ?_, r⟩
      rw [em, List.getElem?_append_left (List.getElem?_eq_some_iff.mp e).1]
      exact e
  have vrs : ∀ {vs : List V} {xs : List Val}, Paired (VR K w) vs xs → Paired (VR K w') vs xs := by
    intro vs xs h
    induction h with
    | nil => exact .nil
    | cons h _ ih => exact .cons (vr h) ih
  intro c
  cases c with
  | L xs => rintro ⟨h1, vs, h2, h3⟩; exact ⟨hF h1, vs, hH.trans h2, vrs h3⟩
  | M kvs => rintro ⟨h1, vs, h2, e, h3⟩; exact ⟨hF h1, vs, hH.trans h2, e, vrs h3⟩
  | T kvs => rintro ⟨h1, vs, h2, e, h3⟩; exact ⟨hF h1, vs, hH.trans h2, e, vrs h3⟩
  | O C fs => rintro ⟨h1, dx, fv, h2, e, h3⟩; exact ⟨hF h1, dx, fv, hH.trans h2, e, vrs h3⟩
  | fz x => exact fun h => Fz.le le h
  | no => exact fun _ => trivial
theorem Sta.Fnone (S : Sta K w H σ Γ) {p : Addr} (hp : H p = none) : w.F p = none := by
  cases e : w.F p with
  | none => rfl
  | some o =>
    by_cases m : p ∈ w.lks
    · obtain ⟨_, _, h⟩ := S.sub.lk p o e m
      rw [hp] at h
      cases h
    · have := S.sub.ex p o e m
      rw [hp] at this
      cases this
theorem Sta.nolk (S : Sta K w H σ Γ) {p : Addr} (hp : H p = none) : p ∉ w.lks := fun m => by
  have := S.sub.al p m
  rw [S.Fnone hp] at this
  exact this rfl
theorem Sta.fresh (S : Sta K w H σ Γ) {p : Addr} (hp : H p = none) : p ∉ w.as := fun m => S.alive p m hp
theorem upd_le {p : Addr} {o : HO} (h : F p = none) : ∀ b u, F b = some u → upd F p o b = some u := fun b u e => by
  rw [upd_ne (ne_of_none e h)]
  exact e
theorem Sta.slotsG (S : Sta K w H σ Γ) (g : Grow w H w' H') : ∀ (i : Nat) (x : Val), Γ.sl[i]? = some (some x) → ∃ v, σ[i]? = some (some v) ∧ VR K w' v x := fun i x e => by
  obtain ⟨v, e1, r⟩ := S.slots i x e
  exact ⟨v, e1, r.grow g⟩
/-- a new frozen object -/
theorem Sta.newF (S : Sta K w H σ Γ) {p : Addr} {o : HO} (hp : H p = none) (ho : ∀ ob u, o ≠ .frz ob u := by intro _ _ z; cases z) : Sta K { w with F := upd w.F p o } (upd H p o) σ Γ ∧ Grow w H { w with F := upd w.F p o } (upd H p o) := by
  have hF := S.Fnone hp
  have g : Grow w H { w with F := upd w.F p o } (upd H p o) := by
    refine ⟨upd_le hF, ⟨[], (List.append_nil _).symm⟩, rfl, fun a u h _ => upd_le hp a u h, fun _ h => .inl h, fun a h => ?_⟩
    by_cases e : a = p
    · exact .inr (.inr (.inl (e ▸ hp)))
    · refine .inl ?_
      have h' : upd w.F p o a ≠ none := h
      rw [upd_ne e] at h'
      exact h'
  refine ⟨⟨⟨fun a u h m => ?_, fun a u h m => ?_, fun a m z => ?_, fun a ob u h => ?_⟩, S.lkd, S.nd, S.len, fun n c a h1 h2 => ?_, fun a m z => ?_, S.slen, S.slotsG g⟩, g⟩
  · have h' : upd w.F p o a = some u := h
    by_cases e : a = p
    · rw [e, upd_same] at h'
      rw [e, upd_same]
      exact h'
    · rw [upd_ne e] at h'
      rw [upd_ne e]
      exact S.sub.ex a u h' m
  · have h' : upd w.F p o a = some u := h
    have e : a ≠ p := fun e => S.nolk hp (e ▸ m)
    rw [upd_ne e] at h'
    rw [upd_ne e]
    exact S.sub.lk0 a u h' m
  · have e : a ≠ p := fun e => S.nolk hp (e ▸ m)
    have z' : upd w.F p o a = none := z
    rw [upd_ne e] at z'
    exact S.sub.al a m z'
  · have h' : upd w.F p o a = some (.frz ob u) := h
    by_cases e : a = p
    · rw [e, upd_same] at h'
      exact absurd (Option.some.inj h') (ho ob u)
    · rw [upd_ne e] at h'
      exact S.sub.nf a ob u h'
  · have e : a ≠ p := fun e => S.fresh hp (e ▸ List.mem_of_getElem? h2)
    exact (S.cells n c a h1 h2).keep g.le g.as (fun z => (upd_ne e).trans z) (upd_ne e)
  · have e : a ≠ p := fun e => S.fresh hp (e ▸ m)
    rw [upd_ne e] at z
    exact S.alive a m z
/-- a tuple that stands is taken for frozen -/
theorem Sta.tupF (S : Sta K w H σ Γ) {q : Addr} {vs : List V} (hq : H q = some (.tup vs)) : ∃ w', Sta K w' H σ Γ ∧ Grow w H w' H ∧ w'.F q = some (.tup vs) := by
  cases eF : w.F q with
  | some o =>
    have : H q = some o := by
      by_cases m : q ∈ w.lks
      · obtain ⟨_, ob, e⟩ := S.sub.lk q o eF m
        rw [hq] at e
        cases e
      · exact S.sub.ex q o eF m
    rw [hq] at this
    exact ⟨w, S, Grow.refl _ _, by rw [eF, ← this]⟩
  | none =>
    have hl : q ∉ w.lks := fun m => S.sub.al q m eF
    have g : Grow w H { w with F := upd w.F q (.tup vs) } H := by
      refine ⟨upd_le eF, ⟨[], (List.append_nil _).symm⟩, rfl, fun _ _ h _ => h, fun _ h => .inl h, fun b h => ?_⟩
      by_cases e : b = q
      · exact .inr (.inr (.inr ⟨vs, e ▸ hq⟩))
      · have h' : upd w.F q (.tup vs) b ≠ none := h
        rw [upd_ne e] at h'
        exact .inl h'
    refine ⟨{ w with F := upd w.F q (.tup vs) }, ⟨⟨fun b u h m => ?_, fun b u h m => ?_, fun b m z => ?_, fun b ob u h => ?_⟩, S.lkd, S.nd, S.len, fun n c a h1 h2 => ?_, S.alive, S.slen, S.slotsG g⟩, g, upd_same⟩
    · have h' : upd w.F q (.tup vs) b = some u := h
      by_cases e : b = q
      · rw [e, upd_same] at h'
        rw [e, hq]
        exact h'
      · rw [upd_ne e] at h'
        exact S.sub.ex b u h' m
    · have h' : upd w.F q (.tup vs) b = some u := h
      have e : b ≠ q := fun e => hl (e ▸ m)
      rw [upd_ne e] at h'
      exact S.sub.lk0 b u h' m
    · have z' : upd w.F q (.tup vs) b = none := z
      have e : b ≠ q := fun e => hl (e ▸ m)
      rw [upd_ne e] at z'
      exact S.sub.al b m z'
    · have h' : upd w.F q (.tup vs) b = some (.frz ob u) := h
      by_cases e : b = q
      · rw [e, upd_same] at h'
        cases h'
      · rw [upd_ne e] at h'
        exact S.sub.nf b ob u h'
    · have k := S.cells n c a h1 h2
      by_cases e : a = q
      · subst e
        cases c with
        | L xs => obtain ⟨_, vs, e2, _⟩ := k; rw [hq] at e2; cases e2
        | M xs => obtain ⟨_, vs, e2, _⟩ := k; rw [hq] at e2; cases e2
        | T xs => obtain ⟨_, vs, e2, _⟩ := k; rw [hq] at e2; cases e2
        | O C xs => obtain ⟨_, dx, vs, e2, _⟩ := k; rw [hq] at e2; cases e2
        | fz x => exact Fz.le g.le k
        | no => exact trivial
      · exact k.keep g.le g.as (fun z => (upd_ne e).trans z) rfl
/-- a new owned cell -/
theorem Sta.newO (S : Sta K w H σ Γ) {p : Addr} {o : HO} {c : Cell} (hp : H p = none) (hc : CellOk K { w with as := w.as ++ [p] } (upd H p o) p c) :
    Sta K { w with as := w.as ++ [p] } (upd H p o) σ { Γ with st := Γ.st ++ [c] } ∧ Grow w H { w with as := w.as ++ [p] } (upd H p o) := by
  have hF := S.Fnone hp
  have g : Grow w H { w with as := w.as ++ [p] } (upd H p o) := by
    refine ⟨fun _ _ h => h, ⟨[p], rfl⟩, rfl, fun a u h _ => upd_le hp a u h, fun a h => ?_, fun _ h => .inl h⟩
    rcases inApp h with h | h
    · exact .inl h
    · rw [List.mem_singleton.mp h]
      exact .inr hp
  refine ⟨⟨⟨fun a u h m => ?_, fun a u h m => ?_, S.sub.al, S.sub.nf⟩, S.lkd, ?_, ?_, fun n c' a h1 h2 => ?_, fun a m z => ?_, S.slen, S.slotsG g⟩, g⟩
  · rw [upd_ne (ne_of_none h hF)]
    exact S.sub.ex a u h m
  · rw [upd_ne (ne_of_none h hF)]
    exact S.sub.lk0 a u h m
  · show (w.as ++ [p]).Nodup
    refine List.nodup_append.mpr ⟨S.nd, by simp, fun a ha b hb => ?_⟩
    rw [List.mem_singleton.mp hb]
    exact fun e => S.fresh hp (e ▸ ha)
  · show (w.as ++ [p]).length = (Γ.st ++ [c]).length
    rw [List.length_append, List.length_append, S.len]
    rfl
  · have h1' : (Γ.st ++ [c])[n]? = some c' := h1
    have h2' : (w.as ++ [p])[n]? = some a := h2
    by_cases hn : n < Γ.st.length
    · rw [List.getElem?_append_left hn] at h1'
      rw [List.getElem?_append_left (by rw [S.len]; exact hn)] at h2'
      have e : a ≠ p := fun e => S.fresh hp (e ▸ List.mem_of_getElem? h2')
      exact (S.cells n c' a h1' h2').keep g.le g.as (fun z => z) (upd_ne e)
    · have hn2 : n = Γ.st.length := by
        have := (List.getElem?_eq_some_iff.mp h1').1
        rw [List.length_append] at this
        have e1 : [c].length = 1 := rfl
        omega
      subst hn2
      rw [List.getElem?_append_right (Nat.le_refl _), Nat.sub_self] at h1'
      rw [← S.len, List.getElem?_append_right (Nat.le_refl _), Nat.sub_self] at h2'
      cases h1'
      cases h2'
      exact hc
  · have m' : a ∈ w.as ++ [p] := m
    by_cases e : a = p
    · rw [e, upd_same] at z
      cases z
    · rw [upd_ne e] at z
      rcases List.mem_append.mp m' with h | h
      · exact S.alive a h z
      · exact e (List.mem_singleton.mp h)
theorem nodup_at : ∀ {l : List Addr}, l.Nodup → ∀ {i j : Nat} {a : Addr}, l[i]? = some a → l[j]? = some a → i = j
  | [], _, i, j, a, h, _ => by simp at h
  | x :: r, nd, i, j, a, h1, h2 => by
    obtain ⟨n1, n2⟩ := nodTwo nd
    cases i with
    | zero =>
      cases j with
      | zero => rfl
      | succ j =>
        simp at h1 h2
        exact absurd (List.mem_of_getElem? h2) (h1 ▸ n1)
    | succ i =>
      cases j with
      | zero =>
        simp at h1 h2
        exact absurd (List.mem_of_getElem? h1) (h2 ▸ n1)
      | succ j =>
        simp at h1 h2
        rw [nodup_at n2 h1 h2]
theorem Sta.newOR (S : Sta K w H σ Γ) (p : Addr) : ({ w with as := w.as ++ [p] } : Wd).as[Γ.st.length]? = some p := by
  show (w.as ++ [p])[Γ.st.length]? = some p
  rw [← S.len, List.getElem?_append_right (Nat.le_refl _), Nat.sub_self]
  rfl
/-- the cell n is written -/
theorem Sta.mut (S : Sta K w H σ Γ) {n : Nat} {a : Addr} {o : HO} {c : Cell} (ha : w.as[n]? = some a) (hF : w.F a = none) (hc : CellOk K w (upd H a o) a c) :
    Sta K w (upd H a o) σ { Γ with st := Γ.st.set n c } ∧ Grow w H w (upd H a o) := by
  have hm : a ∈ w.as := List.mem_of_getElem? ha
  have g : Grow w H w (upd H a o) := ⟨fun _ _ h => h, ⟨[], (List.append_nil _).symm⟩, rfl, fun b u h m => by
    have hb : b ≠ a := fun e => m (by rw [e]; exact hm)
    rw [upd_ne hb]
    exact h, fun _ h => .inl h, fun _ h => .inl h⟩
  refine ⟨⟨⟨fun b u h m => ?_, fun b u h m => ?_, S.sub.al, S.sub.nf⟩, S.lkd, S.nd, ?_, fun m c' b h1 h2 => ?_, fun b m z => ?_, S.slen, S.slots⟩, g⟩
  · rw [upd_ne (ne_of_none h hF)]
    exact S.sub.ex b u h m
  · rw [upd_ne (ne_of_none h hF)]
    exact S.sub.lk0 b u h m
  · show w.as.length = (Γ.st.set n c).length
    rw [List.length_set]
    exact S.len
  · have h1' : (Γ.st.set n c)[m]? = some c' := h1
    by_cases e : n = m
    · subst e
      rw [ha] at h2
      cases h2
      have hl : n < Γ.st.length := by rw [← S.len]; exact (List.getElem?_eq_some_iff.mp ha).1
      rw [List.getElem?_set_self hl] at h1'
      cases h1'
      exact hc
    · rw [List.getElem?_set_ne e] at h1'
      have hb : b ≠ a := fun eb => e (nodup_at S.nd ha (eb ▸ h2))
      exact (S.cells m c' b h1' h2).keep g.le g.as (fun z => z) (upd_ne hb)
  · by_cases e : b = a
    · rw [e, upd_same] at z
      cases z
    · rw [upd_ne e] at z
      exact S.alive b m z
/-- an owned cell is frozen -/
theorem Sta.freeze (S : Sta K w H σ Γ) {n : Nat} {a : Addr} {o : HO} {x : D} (ha : w.as[n]? = some a) (hF : w.F a = none) (ho : H a = some o) (hx : Fz K (upd w.F a o) (.ref a) x) (hf : ∀ ob u, o ≠ .frz ob u := by intro _ _ z; cases z) :
    Sta K { w with F := upd w.F a o } H σ { Γ with st := Γ.st.set n (.fz x) } ∧ Grow w H { w with F := upd w.F a o } H := by
  have hm : a ∈ w.as := List.mem_of_getElem? ha
  have hl : a ∉ w.lks := fun m => S.sub.al a m hF
  have g : Grow w H { w with F := upd w.F a o } H := by
    refine ⟨upd_le hF, ⟨[], (List.append_nil _).symm⟩, rfl, fun _ _ h _ => h, fun _ h => .inl h, fun b h => ?_⟩
    by_cases e : b = a
    · exact .inr (.inl (e ▸ hm))
    · have h' : upd w.F a o b ≠ none := h
      rw [upd_ne e] at h'
      exact .inl h'
  refine ⟨⟨⟨fun b u h m => ?_, fun b u h m => ?_, fun b m z => ?_, fun b ob u h => ?_⟩, S.lkd, S.nd, ?_, fun m c' b h1 h2 => ?_, S.alive, S.slen, S.slotsG g⟩, g⟩
  · have h' : upd w.F a o b = some u := h
    by_cases e : b = a
    · rw [e, upd_same] at h'
      rw [e, ho]
      exact h'
    · rw [upd_ne e] at h'
      exact S.sub.ex b u h' m
  · have h' : upd w.F a o b = some u := h
    have e : b ≠ a := fun e => hl (e ▸ m)
    rw [upd_ne e] at h'
    exact S.sub.lk0 b u h' m
  · have z' : upd w.F a o b = none := z
    have e : b ≠ a := fun e => hl (e ▸ m)
    rw [upd_ne e] at z'
    exact S.sub.al b m z'
  · have h' : upd w.F a o b = some (.frz ob u) := h
    by_cases e : b = a
    · rw [e, upd_same] at h'
      exact absurd (Option.some.inj h') (hf ob u)
    · rw [upd_ne e] at h'
      exact S.sub.nf b ob u h'
  · show w.as.length = (Γ.st.set n _).length
    rw [List.length_set]
    exact S.len
  · have h1' : (Γ.st.set n (.fz x))[m]? = some c' := h1
    by_cases e : n = m
    · subst e
      have h2' : w.as[n]? = some b := h2
      rw [ha] at h2'
      cases h2'
      have hl : n < Γ.st.length := by rw [← S.len]; exact (List.getElem?_eq_some_iff.mp ha).1
      rw [List.getElem?_set_self hl] at h1'
      cases h1'
      exact hx
    · rw [List.getElem?_set_ne e] at h1'
      have hb : b ≠ a := fun eb => e (nodup_at S.nd ha (eb ▸ h2))
      exact (S.cells m c' b h1' h2).keep g.le g.as (fun z => (upd_ne hb).trans z) rfl
/-- a slot is set -/
theorem Sta.set (S : Sta K w H σ Γ) {i : Nat} {v : V} {x : Val} (r : VR K w v x) : Sta K w H (σ.set i (some v)) { Γ with sl := Γ.sl.set i (some x) } := by
  refine ⟨S.sub, S.lkd, S.nd, S.len, S.cells, S.alive, ?_, fun j y e => ?_⟩
  · show (σ.set i (some v)).length = (Γ.sl.set i (some x)).length
    rw [List.length_set, List.length_set]
    exact S.slen
  · have e' : (Γ.sl.set i (some x))[j]? = some (some y) := e
    by_cases h : i = j
    · subst h
      have hl : i < Γ.sl.length := by
        have := (List.getElem?_eq_some_iff.mp e').1
        rw [List.length_set] at this
        exact this
      rw [List.getElem?_set_self hl] at e'
      cases e'
      exact ⟨v, List.getElem?_set_self (by rw [S.slen]; exact hl), r⟩
    · rw [List.getElem?_set_ne h] at e'
      obtain ⟨u, e1, r1⟩ := S.slots j y e'
      exact ⟨u, by rw [List.getElem?_set_ne h]; exact e1, r1⟩
/-- what is known of the slots may be forgotten -/
theorem Sta.forget (S : Sta K w H σ Γ) {sl : List (Option Val)} {σ' : L2.St} (hl : σ'.length = sl.length) (h : ∀ (i : Nat) (x : Val), sl[i]? = some (some x) → ∃ v, σ'[i]? = some (some v) ∧ VR K w v x) : Sta K w H σ' { Γ with sl := sl } :=
  ⟨S.sub, S.lkd, S.nd, S.len, S.cells, S.alive, hl, h⟩
end

/-! ### trimming: cells made since are let go -/
def Val.ok (m : Nat) : Val → Bool
  | .d _ => true
  | .own n => decide (n < m)
def Cell.ok (m : Nat) : Cell → Bool
  | .L xs => xs.all (Val.ok m)
  | .M kvs => kvs.all fun p => p.2.ok m
  | .T kvs => kvs.all fun p => p.2.ok m
  | .O _ fs => fs.all fun p => p.2.ok m
  | .fz _ => true
  | .no => true
def trimS (m : Nat) : List (Option Val) → List (Option Val)
  | [] => []
  | some x :: r => (if x.ok m = true then some x else none) :: trimS m r
  | none :: r => none :: trimS m r
def trimC (m : Nat) : Nat → List Cell → List Cell
  | 0, _ => []
  | _ + 1, [] => []
  | k + 1, c :: r => (if c.ok m = true then c else .no) :: trimC m k r
def Gam.trim (Γ : Gam) (m : Nat) : Gam := { Γ with sl := trimS m Γ.sl, st := trimC m m Γ.st }
theorem Val.ok_vr {K : PySem.W.Frag} {w : Wd} {m : Nat} {v : V} {F : Hp} : ∀ {x : Val}, x.ok m = true → VR K w v x → VR K { w with as := w.as.take m } v x
  | .d _, _, h => h
  | .own n, ho, ⟨a, e, r⟩ => ⟨a, by
      have hn : n < m := of_decide_eq_true ho
      show (w.as.take m)[n]? = some a
      rw [List.getElem?_take_of_lt hn]
      exact e, r⟩
theorem vals_ok_vr {K : PySem.W.Frag} {w : Wd} {m : Nat} : ∀ {vs : List V} {xs : List Val}, xs.all (Val.ok m) = true → Paired (VR K w) vs xs → Paired (VR K { w with as := w.as.take m }) vs xs
  | _, _, _, .nil => .nil
  | _, x :: xs, h, .cons r l => by
    replace h := allTwo h
    exact .cons (Val.ok_vr (F := w.F) h.1 r) (vals_ok_vr h.2 l)
theorem Cell.ok_at {K : PySem.W.Frag} {w : Wd} {H : Hp} {m : Nat} {a : Addr} {c : Cell} (h : c.ok m = true) (k : CellOk K w H a c) : CellOk K { w with as := w.as.take m } H a c := by
  have mp : ∀ {κ : Type} (l : List (κ × Val)), (l.all fun p => p.2.ok m) = true → (l.map (·.2)).all (Val.ok m) = true := fun l h => by
    rw [List.all_map]
    exact h
  cases c with
  | L xs => obtain ⟨h1, vs, h2, h3⟩ := k; exact ⟨h1, vs, h2, vals_ok_vr h h3⟩
  | M kvs => obtain ⟨h1, vs, h2, e, h3⟩ := k; exact ⟨h1, vs, h2, e, vals_ok_vr (mp _ h) h3⟩
  | T kvs => obtain ⟨h1, vs, h2, e, h3⟩ := k; exact ⟨h1, vs, h2, e, vals_ok_vr (mp _ h) h3⟩
  | O C fs => obtain ⟨h1, dx, fv, h2, e, h3⟩ := k; exact ⟨h1, dx, fv, h2, e, vals_ok_vr (mp _ h) h3⟩
  | fz x => exact k
  | no => trivial
theorem trimS_len (m : Nat) : ∀ l : List (Option Val), (trimS m l).length = l.length
  | [] => rfl
  | some x :: r => by
    show (_ :: trimS m r).length = _
    rw [List.length_cons, trimS_len m r, List.length_cons]
  | none :: r => by
    show (_ :: trimS m r).length = _
    rw [List.length_cons, trimS_len m r, List.length_cons]
theorem trimS_at (m : Nat) : ∀ (l : List (Option Val)) (i : Nat) (x : Val), (trimS m l)[i]? = some (some x) → l[i]? = some (some x) ∧ x.ok m = true
  | [], _, _, h => by simp [trimS] at h
  | some y :: r, 0, x, h => by
    by_cases c : y.ok m = true
    · simp [trimS, c] at h
      subst h
      exact ⟨rfl, c⟩
    · simp [trimS, c] at h
  | none :: r, 0, x, h => by simp [trimS] at h
  | some y :: r, i + 1, x, h => by
    have h' : (trimS m r)[i]? = some (some x) := by simpa [trimS] using h
    obtain ⟨a, b⟩ := trimS_at m r i x h'
    exact ⟨by simpa using a, b⟩
  | none :: r, i + 1, x, h => by
    have h' : (trimS m r)[i]? = some (some x) := by simpa [trimS] using h
    obtain ⟨a, b⟩ := trimS_at m r i x h'
    exact ⟨by simpa using a, b⟩
theorem trimC_len (m : Nat) : ∀ (k : Nat) (l : List Cell), (trimC m k l).length = min k l.length
  | 0, _ => by simp [trimC]
  | _ + 1, [] => by simp [trimC]
  | k + 1, c :: r => by simp [trimC, trimC_len m k r]
theorem trimC_at (m : Nat) : ∀ (k : Nat) (l : List Cell) (i : Nat) (c : Cell), (trimC m k l)[i]? = some c → i < k ∧ (c = .no ∨ (l[i]? = some c ∧ c.ok m = true))
  | 0, _, _, _, h => by simp [trimC] at h
  | _ + 1, [], _, _, h => by simp [trimC] at h
  | k + 1, d :: r, 0, c, h => by
    by_cases e : d.ok m = true
    · simp [trimC, e] at h
      subst h
      exact ⟨Nat.succ_pos _, .inr ⟨rfl, e⟩⟩
    · simp [trimC, e] at h
      exact ⟨Nat.succ_pos _, .inl h.symm⟩
  | k + 1, d :: r, i + 1, c, h => by
    have h' : (trimC m k r)[i]? = some c := by simpa [trimC] using h
    obtain ⟨a, b⟩ := trimC_at m k r i c h'
    exact ⟨by omega, by simpa using b⟩
/-- a state with the cells behind the m-th let go, seen from a state with at most m cells -/
theorem Sta.trim {K : PySem.W.Frag} {w w' : Wd} {H H' : Hp} {σ' : L2.St} {Γ' : Gam} (S : Sta K w' H' σ' Γ') (g : Grow w H w' H') (hw : ∀ a, a ∈ w.as → H a ≠ none) :
    ∃ w2, Sta K w2 H' σ' (Γ'.trim w.as.length) ∧ Grow w H w2 H' := by
  obtain ⟨more, em⟩ := g.as
  have et : w'.as.take w.as.length = w.as := by rw [em, List.take_left']; rfl
  refine ⟨{ w' with as := w'.as.take w.as.length }, ⟨S.sub, S.lkd, ?_, ?_, fun n c a h1 h2 => ?_, fun a m => S.alive a (List.mem_of_mem_take m), ?_, fun i x h => ?_⟩, ⟨g.le, ⟨[], by rw [et, List.append_nil]⟩, g.lks, g.fr, fun a m => g.nw a (List.mem_of_mem_take m), g.nf⟩⟩
  · exact S.nd.sublist (List.take_sublist _ _)
  · show (w'.as.take w.as.length).length = (trimC _ _ Γ'.st).length
    rw [trimC_len, List.length_take, S.len]
  · obtain ⟨hl, hc⟩ := trimC_at _ _ _ _ _ h1
    have h2' : (w'.as.take w.as.length)[n]? = some a := h2
    rw [List.getElem?_take_of_lt hl] at h2'
    rcases hc with rfl | ⟨hc, ok⟩
    · trivial
    · exact Cell.ok_at ok (S.cells n c a hc h2')
  · show σ'.length = (trimS _ Γ'.sl).length
    rw [trimS_len]
    exact S.slen
  · obtain ⟨h1, ok⟩ := trimS_at _ _ _ _ h
    obtain ⟨v, e, r⟩ := S.slots i x h1
    exact ⟨v, e, Val.ok_vr (F := w'.F) ok r⟩
theorem trimS_id {m : Nat} : ∀ {l : List (Option Val)}, (l.all fun o => match o with | some x => x.ok m | none => true) = true → trimS m l = l
  | [], _ => rfl
  | some x :: r, h => by
    replace h := allTwo h
    show (if x.ok m = true then some x else none) :: trimS m r = _
    rw [if_pos h.1, trimS_id h.2]
  | none :: r, h => by
    replace h := allTwo h
    show none :: trimS m r = _
    rw [trimS_id h.2]

/-! ### readings -/
abbrev XC := Addr → List (Str × D) → Gam → Prop
abbrev KE3 := Val → Gam → Prop
abbrev RE := Gam → KE3 → XC → Prop
abbrev RT := Gam → (Bool → Gam → Prop) → XC → Prop
abbrev RA := Gam → (List Val → Gam → Prop) → XC → Prop
structure En where
  nx : Gam → Prop
  rt : KE3
  ex : XC
  bk : Gam → Prop := fun _ => False
  ct : Gam → Prop := fun _ => False
abbrev RS := En → Gam → Prop
/-- an exception: its class, its fields -/
def XR (K : PySem.W.Frag) (w : Wd) (H : Hp) (c : Value) (d : Option Addr) (C : Addr) (fs : List (Str × D)) : Prop :=
  c = .ref C ∧ ((d = none ∧ fs = []) ∨ ∃ dd fv, d = some dd ∧ H dd = some (.xd fv) ∧ fv.map (·.1) = fs.map (·.1) ∧ FzL K w.F (fv.map (·.2)) (fs.map (·.2)))

section
variable (K : PySem.W.Frag) (W : WX)
/-- what follows an expression from (w, H): the reading's k and x are met by Q and W -/
structure BrX (w : Wd) (H : Hp) (σ : L2.St) (x : XC) : Prop where
  ex : ∀ C fs Γ' w' H' c d, x C fs Γ' → Sta K w' H' σ Γ' → XR K w' H' c d C fs → Grow w H w' H' → W c d σ H'
structure SE (te : TE) (re : RE) : Prop where
  go : ∀ (w : Wd) (H : Hp) (σ : L2.St) (Γ : Gam) (Q : VK) (k : KE3) (x : XC), Sta K w H σ Γ → re Γ k x →
    (∀ v w' H' y Γ', k y Γ' → Sta K w' H' σ Γ' → VR K w' v y → Grow w H w' H' → Q v H') → BrX K W w H σ x → te σ H Q
structure ST3 (tt : TT) (rt : RT) : Prop where
  go : ∀ (w : Wd) (H : Hp) (σ : L2.St) (Γ : Gam) (Q : Bool → Hp → Prop) (k : Bool → Gam → Prop) (x : XC), Sta K w H σ Γ → rt Γ k x →
    (∀ b w' H' Γ', k b Γ' → Sta K w' H' σ Γ' → Grow w H w' H' → Q b H') → BrX K W w H σ x → tt σ H Q
structure SA (ta : TA) (ra : RA) : Prop where
  go : ∀ (w : Wd) (H : Hp) (σ : L2.St) (Γ : Gam) (Q : List V → Hp → Prop) (k : List Val → Gam → Prop) (x : XC), Sta K w H σ Γ → ra Γ k x →
    (∀ vs w' H' ys Γ', k ys Γ' → Sta K w' H' σ Γ' → Paired (VR K w') vs ys → Grow w H w' H' → Q vs H') → BrX K W w H σ x → ta σ H Q
structure Br (w : Wd) (H : Hp) (N : En) (D : Ends) : Prop where
  nx : ∀ w' H' σ' Γ', N.nx Γ' → Sta K w' H' σ' Γ' → Grow w H w' H' → D.nx σ' H'
  rt : ∀ v w' H' σ' y Γ', N.rt y Γ' → Sta K w' H' σ' Γ' → VR K w' v y → Grow w H w' H' → D.rt v H'
  bk : ∀ w' H' σ' Γ', N.bk Γ' → Sta K w' H' σ' Γ' → Grow w H w' H' → D.bk σ' H'
  ct : ∀ w' H' σ' Γ', N.ct Γ' → Sta K w' H' σ' Γ' → Grow w H w' H' → D.ct σ' H'
  ex : ∀ σ', BrX K W w H σ' N.ex
structure SS (ts : TS) (rs : RS) : Prop where
  go : ∀ (w : Wd) (H : Hp) (σ : L2.St) (Γ : Gam) (D : Ends) (N : En), Sta K w H σ Γ → rs N Γ → Br K W w H N D → ts D σ H
end
section
variable {K : PySem.W.Frag} {W : WX} {w w' : Wd} {H H' : Hp} {σ : L2.St} {x : XC} {N : En} {D : Ends}
theorem BrX.grow (b : BrX K W w H σ x) (g : Grow w H w' H') : BrX K W w' H' σ x := ⟨fun C fs Γ' w2 H2 c d h S r g2 => b.ex C fs Γ' w2 H2 c d h S r (g.trans g2)⟩
theorem Br.grow (b : Br K W w H N D) (g : Grow w H w' H') : Br K W w' H' N D :=
  ⟨fun w2 H2 σ' Γ' h S g2 => b.nx w2 H2 σ' Γ' h S (g.trans g2), fun v w2 H2 σ' y Γ' h S r g2 => b.rt v w2 H2 σ' y Γ' h S r (g.trans g2), fun w2 H2 σ' Γ' h S g2 => b.bk w2 H2 σ' Γ' h S (g.trans g2),
   fun w2 H2 σ' Γ' h S g2 => b.ct w2 H2 σ' Γ' h S (g.trans g2), fun σ' => (b.ex σ').grow g⟩
end

section
variable (X : Cx) (W : WX)
structure PE3 (e : Expr) (re : RE) : Prop where
  ex : ∃ te, PE X e te ∧ SE X.K W te re
structure PT3 (e : Expr) (rt : RT) : Prop where
  ex : ∃ tt, PT X e tt ∧ ST3 X.K W tt rt
structure PW3 (e : Expr) (rt : RT) : Prop where
  ex : ∃ tt, L2.PW X e tt ∧ ST3 X.K W tt rt
structure PA3 (es : List Expr) (ra : RA) : Prop where
  ex : ∃ ta, PA X es ta ∧ SA X.K W ta ra
structure PS3 (st : Stmt) (rs : RS) : Prop where
  ex : ∃ ts, PS X st ts ∧ SS X.K W ts rs
structure PSs3 (st : List Stmt) (rs : RS) : Prop where
  ex : ∃ ts, PSs X st ts ∧ SS X.K W ts rs
end
end L3

namespace L3
open PySem L2 PyProof.Rows

/-! ### shapes -/
inductive Shp where
  | s (x : D) | L (xs : List Val) | U (xs : List Val) | M (kvs : List (Key × Val)) | T (kvs : List (List Key × Val)) | O (C : Addr) (fs : List (Str × Val))
def snd {κ : Type} (l : List (κ × D)) : List (κ × Val) := l.map fun p => (p.1, .d p.2)
def D.shp : D → Shp
  | .lst xs => .L (xs.map .d)
  | .tup xs => .U (xs.map .d)
  | .dct kvs => .M (snd kvs)
  | .dcT kvs => .T (snd kvs)
  | .obj C fs => .O C (snd fs)
  | x => .s x
def Cell.shp : Cell → Shp
  | .L xs => .L xs
  | .M kvs => .M kvs
  | .T kvs => .T kvs
  | .O C fs => .O C fs
  | .fz x => x.shp
  | .no => .s .non
def Gam.shp (Γ : Gam) : Val → Shp
  | .d x => x.shp
  | .own n => match Γ.st[n]? with
    | some c => c.shp
    | none => .s .non
/-- the ends' data, all frozen -/
def dvals : List Val → Option (List D)
  | [] => some []
  | .d x :: r => (dvals r).map (x :: ·)
  | .own _ :: _ => none
theorem dvals_map : ∀ xs : List D, dvals (xs.map .d) = some xs
  | [] => rfl
  | x :: r => by
    show (dvals (r.map .d)).map (x :: ·) = _
    rw [dvals_map r]
    rfl
theorem dvals_eq : ∀ {ys : List Val} {xs : List D}, dvals ys = some xs → ys = xs.map .d
  | [], xs, h => by cases h; rfl
  | .d x :: r, xs, h => by
    have h' : (dvals r).map (x :: ·) = some xs := h
    obtain ⟨l, e1, e2⟩ := Option.map_eq_some_iff.mp h'
    subst e2
    rw [dvals_eq e1]
    rfl
  | .own _ :: _, xs, h => by cases h
/-- a list of frozen items -/
def Gam.dl (Γ : Gam) (y : Val) : Option (List D) := match Γ.shp y with
  | .L xs => dvals xs
  | _ => none
/-- whole data -/
def Cell.dv : Cell → Option D
  | .L xs => (dvals xs).map .lst
  | .fz x => some x
  | _ => none
def Gam.dv (Γ : Gam) : Val → Option D
  | .d x => some x
  | .own n => match Γ.st[n]? with
    | some c => c.dv
    | none => none

section
variable {K : PySem.W.Frag} {w w' : Wd} {H H' : Hp} {σ : L2.St} {Γ : Gam} {v : V} {y : Val}
theorem snd_fst {κ : Type} (l : List (κ × D)) : (snd l).map (·.1) = l.map (·.1) := by
  unfold snd
  rw [List.map_map]
  rfl
theorem snd_snd {κ : Type} (l : List (κ × D)) : (snd l).map (·.2) = (l.map (·.2)).map .d := by
  unfold snd
  simp only [List.map_map]
  rfl
/-- what stands there -/
def ShpOk (K : PySem.W.Frag) (w : Wd) (H : Hp) (v : V) : Shp → Prop
  | .s _ => True
  | .L xs => ∃ a vs, v = .ref a ∧ H a = some (.lst vs) ∧ Paired (VR K w) vs xs
  | .U xs => ∃ a vs, v = .ref a ∧ H a = some (.tup vs) ∧ Paired (VR K w) vs xs
  | .M kvs => ∃ a kv, v = .ref a ∧ Rd H a (.dK kv) ∧ kv.map (·.1) = kvs.map (·.1) ∧ Paired (VR K w) (kv.map (·.2)) (kvs.map (·.2))
  | .T kvs => ∃ a kv, v = .ref a ∧ Rd H a (.dT kv) ∧ kv.map (·.1) = kvs.map (·.1) ∧ Paired (VR K w) (kv.map (·.2)) (kvs.map (·.2))
  | .O C fs => ∃ a dx fv, v = .ref a ∧ H a = some (.ins C dx fv) ∧ fv.map (·.1) = fs.map (·.1) ∧ Paired (VR K w) (fv.map (·.2)) (fs.map (·.2))
theorem Fz.shp (s : Sub w.F H w.lks) : ∀ {x : D} {v : V}, Fz K w.F v x → ShpOk K w H v x.shp
  | .non, _, _ => trivial
  | .bl _, _, _ => trivial
  | .int _, _, _ => trivial
  | .str _, _, _ => trivial
  | .ty _, _, _ => trivial
  | .scr _, _, _ => trivial
  | .lst xs, _, .lst h l => ⟨_, _, rfl, s.exact h (fun z => z), l.vr⟩
  | .tup xs, _, .tup h l => ⟨_, _, rfl, s.exact h (fun z => z), l.vr⟩
  | .dct xs, _, .dct h e l => ⟨_, _, rfl, s.rd (.inl h), by rw [snd_fst]; exact e, by rw [snd_snd]; exact l.vr⟩
  | .dcT xs, _, .dcT h e l => ⟨_, _, rfl, s.rd (.inl h), by rw [snd_fst]; exact e, by rw [snd_snd]; exact l.vr⟩
  | .obj C xs, _, .obj h e l => ⟨_, _, _, rfl, s.exact h (fun z => z), by rw [snd_fst]; exact e, by rw [snd_snd]; exact l.vr⟩
theorem Sta.shp (S : Sta K w H σ Γ) : ∀ {y : Val}, VR K w v y → ShpOk K w H v (Γ.shp y)
  | .d x, r => Fz.shp S.sub r
  | .own n, ⟨a, ha, e⟩ => by
    subst e
    unfold Gam.shp
    simp only
    cases hc : Γ.st[n]? with
    | none => exact trivial
    | some c =>
      have k := S.cells n c a hc ha
      show ShpOk K w H (.ref a) c.shp
      cases c with
      | L xs => obtain ⟨_, vs, h1, h2⟩ := k; exact ⟨a, vs, rfl, h1, h2⟩
      | M xs => obtain ⟨_, vs, h1, e, h2⟩ := k; exact ⟨a, vs, rfl, .inl h1, e, h2⟩
      | T xs => obtain ⟨_, vs, h1, e, h2⟩ := k; exact ⟨a, vs, rfl, .inl h1, e, h2⟩
      | O C xs => obtain ⟨_, dx, vs, h1, e, h2⟩ := k; exact ⟨a, dx, vs, rfl, h1, e, h2⟩
      | fz x => exact Fz.shp S.sub k
      | no => exact trivial
theorem Sta.shpL (S : Sta K w H σ Γ) (r : VR K w v y) {xs : List Val} (e : Γ.shp y = .L xs) : ∃ a vs, v = .ref a ∧ H a = some (.lst vs) ∧ Paired (VR K w) vs xs := by
  have := S.shp r
  rw [e] at this
  exact this
theorem Sta.shpU (S : Sta K w H σ Γ) (r : VR K w v y) {xs : List Val} (e : Γ.shp y = .U xs) : ∃ a vs, v = .ref a ∧ H a = some (.tup vs) ∧ Paired (VR K w) vs xs := by
  have := S.shp r
  rw [e] at this
  exact this
theorem Sta.shpM (S : Sta K w H σ Γ) (r : VR K w v y) {xs : List (Key × Val)} (e : Γ.shp y = .M xs) : ∃ a kv, v = .ref a ∧ Rd H a (.dK kv) ∧ kv.map (·.1) = xs.map (·.1) ∧ Paired (VR K w) (kv.map (·.2)) (xs.map (·.2)) := by
  have := S.shp r
  rw [e] at this
  exact this
theorem Sta.shpT (S : Sta K w H σ Γ) (r : VR K w v y) {xs : List (List Key × Val)} (e : Γ.shp y = .T xs) : ∃ a kv, v = .ref a ∧ Rd H a (.dT kv) ∧ kv.map (·.1) = xs.map (·.1) ∧ Paired (VR K w) (kv.map (·.2)) (xs.map (·.2)) := by
  have := S.shp r
  rw [e] at this
  exact this
theorem Sta.shpO (S : Sta K w H σ Γ) (r : VR K w v y) {C : Addr} {xs : List (Str × Val)} (e : Γ.shp y = .O C xs) : ∃ a dx fv, v = .ref a ∧ H a = some (.ins C dx fv) ∧ fv.map (·.1) = xs.map (·.1) ∧ Paired (VR K w) (fv.map (·.2)) (xs.map (·.2)) := by
  have := S.shp r
  rw [e] at this
  exact this
theorem FzL.sub_vr (S : Sta K w H σ Γ) : ∀ {vs : List V} {xs : List D}, Paired (VR K w) vs (xs.map .d) → FzL K (unl H) vs xs := fun h => (FzL.of_vr h).le S.sub.unl
theorem unl_of {a : Addr} {xs : List V} (h : H a = some (.lst xs)) : unl H a = some (.lst xs) := by
  unfold unl
  rw [h]
theorem Sta.dl (S : Sta K w H σ Γ) (r : VR K w v y) {xs : List D} (e : Γ.dl y = some xs) : ∃ a vs, v = .ref a ∧ H a = some (.lst vs) ∧ FzL K w.F vs xs := by
  unfold Gam.dl at e
  split at e
  · rename_i ys h
    obtain ⟨a, vs, h1, h2, h3⟩ := S.shpL r h
    rw [dvals_eq e] at h3
    exact ⟨a, vs, h1, h2, FzL.of_vr h3⟩
  · cases e
/-- the whole data, read off the heap as it is -/
theorem Sta.dv (S : Sta K w H σ Γ) : ∀ {y : Val}, VR K w v y → ∀ {x : D}, Γ.dv y = some x → Fz K (unl H) v x
  | .d x, r, _, e => by
    cases e
    exact Fz.le S.sub.unl r
  | .own n, ⟨a, ha, e⟩, x, h => by
    subst e
    unfold Gam.dv at h
    simp only at h
    cases hc : Γ.st[n]? with
    | none => simp [hc] at h
    | some c =>
      rw [hc] at h
      have k := S.cells n c a hc ha
      cases c with
      | L xs =>
        obtain ⟨_, vs, h1, h2⟩ := k
        obtain ⟨ds, e1, e2⟩ := Option.map_eq_some_iff.mp (show (dvals xs).map D.lst = some x from h)
        subst e2
        rw [dvals_eq e1] at h2
        exact .lst (unl_of h1) (FzL.sub_vr S h2)
      | fz y =>
        cases (show some y = some x from h)
        exact Fz.le S.sub.unl k
      | M xs => cases h
      | T xs => cases h
      | O C xs => cases h
      | no => cases h
end

/-! ### data as the library's == reads it -/
mutual
def D.py : D → PyData
  | .non => .none
  | .bl b => .bool b
  | .int i => .int i
  | .str x => .str x
  | .lst xs => .list (D.pys xs)
  | .tup xs => .tuple (D.pys xs)
  | _ => .none
def D.pys : List D → List PyData
  | [] => []
  | x :: r => x.py :: D.pys r
end
mutual
def D.flat : D → Bool
  | .non => true
  | .bl _ => true
  | .int _ => true
  | .str x => PyData.strOk x
  | .lst xs => D.flats xs
  | .tup xs => D.flats xs
  | _ => false
def D.flats : List D → Bool
  | [] => true
  | x :: r => x.flat && D.flats r
end
/-- == may be asked -/
def D.eqOk (x : D) : Bool := x.flat && decide (x.py.depth ≤ 64)
def D.eqv (x y : D) : Bool := PyData.eqv x.py y.py
theorem D.pys_map : ∀ xs : List D, D.pys xs = xs.map D.py
  | [] => rfl
  | x :: r => by rw [D.pys, D.pys_map r, List.map_cons]
mutual
theorem D.flat_lay : ∀ {x : D}, x.flat = true → x.py.canLay0 = true
  | .non, _ => rfl
  | .bl _, _ => rfl
  | .int _, _ => rfl
  | .str x, h => h
  | .lst xs, h => by
    show PyData.canLayAll0 (D.pys xs) = true
    exact D.flats_lay h
  | .tup xs, h => by
    show PyData.canLayAll0 (D.pys xs) = true
    exact D.flats_lay h
theorem D.flats_lay : ∀ {xs : List D}, D.flats xs = true → PyData.canLayAll0 (D.pys xs) = true
  | [], _ => rfl
  | x :: r, h => by
    have h' : (x.flat && D.flats r) = true := h
    rw [Bool.and_eq_true] at h'
    show (x.py.canLay0 && PyData.canLayAll0 (D.pys r)) = true
    rw [D.flat_lay h'.1, D.flats_lay h'.2]
    rfl
end
theorem D.eqOk_shaped {x : D} (h : x.eqOk = true) : SeqAt.shaped x.py = true := by
  unfold D.eqOk at h
  rw [Bool.and_eq_true] at h
  unfold SeqAt.shaped
  rw [D.flat_lay h.1, h.2]
  rfl
section
variable {K : PySem.W.Frag} {H : Hp}
mutual
theorem Fz.dp : ∀ {x : D} {v : V}, x.flat = true → Fz K (unl H) v x → Dp K H v x.py
  | .non, _, _, .non => .non
  | .bl _, _, _, .bl b => .bl b
  | .int _, _, _, .int i => .int i
  | .str _, _, _, .str x => .str x
  | .lst xs, _, h, .lst e l => .lst (.inl (.inl (unl_lst e))) (FzL.dp h l)
  | .tup xs, _, h, .tup e l => .tup (.inl (.inl (unl_tup e))) (FzL.dp h l)
theorem FzL.dp : ∀ {xs : List D} {vs : List V}, D.flats xs = true → FzL K (unl H) vs xs → DpAll K H vs (D.pys xs)
  | [], _, _, .nil => .nil
  | x :: r, _, h, .cons a b => by
    have h' : (x.flat && D.flats r) = true := h
    rw [Bool.and_eq_true] at h'
    exact .cons (Fz.dp h'.1 a) (FzL.dp h'.2 b)
end
theorem D.flat_of_eqOk {x : D} (h : x.eqOk = true) : x.flat = true := by
  unfold D.eqOk at h
  rw [Bool.and_eq_true] at h
  exact h.1
end

/-! ### names, constants -/
structure Good (X : Cx) (W : WX) : Prop where
  calm : X.calm = true
  nd : X.N.Nodup
  un : X.A.units + 70 < cLine
  tk : Takes X W
def rVar (i : Nat) : RE := fun Γ k _ => ∃ y, Γ.sl[i]? = some (some y) ∧ k y Γ
def rC (x : D) : RE := fun Γ k _ => k (.d x) Γ
section
variable {K : PySem.W.Frag} {X : Cx} {W : WX}
theorem se_var (i : Nat) : SE K W (tVar i) (rVar i) := ⟨fun w H σ Γ Q k x S h hk _ => by
  obtain ⟨y, e, h⟩ := h
  obtain ⟨v, e1, r⟩ := S.slots i y e
  exact ⟨v, e1, hk v w H y Γ h S r (Grow.refl _ _)⟩⟩
theorem w_var (i : Nat) {x : Str} {pos : Pos} (hN : X.N[i]? = some x := by rfl) (hv : Vis X.env.scope x := by first | exact Or.inl rfl | exact Or.inr (Or.inl rfl) | exact Or.inr (Or.inr rfl)) (hd : (x == ("__debug__" : Str)) = false := by decide)
    (hcd : (x == ("__classdict__" : Str)) = false := by decide) : PE3 X W (.Name x pos) (rVar i) := ⟨_, pe_var hN hv hd hcd, se_var i⟩
theorem se_c {v : V} {x : D} (h : ∀ F, Fz K F v x) : SE K W (tC v) (rC x) := ⟨fun w H σ Γ Q k e S g hk _ => hk v w H (.d x) Γ g S (h _) (Grow.refl _ _)⟩
theorem w_int {i j pos} : PE3 X W (.Constant (.int i) j pos) (rC (.int i)) := ⟨_, pe_int, se_c fun _ => .int i⟩
theorem w_bl {b j pos} : PE3 X W (.Constant (.bool b) j pos) (rC (.bl b)) := ⟨_, pe_bl, se_c fun _ => .bl b⟩
theorem w_non {j pos} : PE3 X W (.Constant .none j pos) (rC .non) := ⟨_, pe_non, se_c fun _ => .non⟩
theorem w_str {x j pos} : PE3 X W (.Constant (.str x) j pos) (rC (.str x)) := ⟨_, pe_str, se_c fun _ => .str x⟩
/-- a constant of the module -/
theorem w_glob {x : Str} {v : V} {u : Value} {d : D} {pos : Pos} (hg : Gl X x) (hm : X.mg x = some u) (r : RelV v u) (h : ∀ F, Fz X.K F v d) (hd : (x == ("__debug__" : Str)) = false := by decide) : PE3 X W (.Name x pos) (rC d) :=
  ⟨_, pe_glob hg hm r hd, se_c h⟩
/-- a built-in class as a value -/
theorem w_ty {x : Str} {n : String} {pos : Pos} (hg : Gl X x) (hm : X.mg x = none) (hv : bootBuiltins x = some (.type n)) (hn : x ≠ "__name__" := by decide) (hd : (x == ("__debug__" : Str)) = false := by decide) : PE3 X W (.Name x pos) (rC (.ty n)) :=
  ⟨_, pe_bltn (v := .ty n) hg hm hv rfl hn hd, se_c fun _ => .ty n⟩
end

/-! ### operators -/
/-- a reading by values met by a heap-free one -/
structure SR2 (K : PySem.W.Frag) (r : R2) (rr : Val → Val → Gam → KE3 → Prop) : Prop where
  go : ∀ (w : Wd) (H : Hp) (σ : L2.St) (Γ : Gam) (Q : VK) (k : KE3) (u v : V) (y z : Val), Sta K w H σ Γ → VR K w u y → VR K w v z → rr y z Γ k →
    (∀ v w' H' y Γ', k y Γ' → Sta K w' H' σ Γ' → VR K w' v y → Grow w H w' H' → Q v H') → r u v H Q
structure Op3 (X : Cx) (f : Value → Value → Sem Value) (rr : Val → Val → Gam → KE3 → Prop) : Prop where
  ex : ∃ r, OpR X f r ∧ SR2 X.K r rr
def rOp (rr : Val → Val → Gam → KE3 → Prop) (ra rb : RE) : RE := fun Γ k x => ra Γ (fun y Γ1 => rb Γ1 (fun z Γ2 => rr y z Γ2 k) x) x
def rTB (re : RE) : RT := fun Γ k x => re Γ (fun y Γ1 => ∃ b, y = .d (.bl b) ∧ k b Γ1) x
section
variable {K : PySem.W.Frag} {X : Cx} {W : WX} {te ta tb : TE} {ra rb re : RE} {r : R2} {rr : Val → Val → Gam → KE3 → Prop} {a b e : Expr} {pos : Pos} {f : Value → Value → Sem Value}
theorem se_op (hr : SR2 K r rr) (ha : SE K W ta ra) (hb : SE K W tb rb) : SE K W (tOp r ta tb) (rOp rr ra rb) := ⟨fun w H σ Γ Q k x S h hk hx => by
  refine ha.go w H σ Γ _ _ x S h (fun u w1 H1 y Γ1 h1 S1 r1 g1 => ?_) hx
  refine hb.go w1 H1 σ Γ1 _ _ x S1 h1 (fun v w2 H2 z Γ2 h2 S2 r2 g2 => ?_) (hx.grow g1)
  exact hr.go w2 H2 σ Γ2 Q k u v y z S2 (r1.grow g2) r2 h2 fun v w' H' y Γ' h S r g => hk v w' H' y Γ' h S r ((g1.trans g2).trans g)⟩
theorem st_b (ha : SE K W te re) : ST3 K W (tTest te) (rTB re) := ⟨fun w H σ Γ Q k x S h hk hx => by
  refine ha.go w H σ Γ _ _ x S h (fun u w1 H1 y Γ1 h1 S1 r1 g1 => ?_) hx
  obtain ⟨b, rfl, h1⟩ := h1
  cases (show Fz K w1.F u (.bl b) from r1)
  exact ⟨b, rfl, hk b w1 H1 Γ1 h1 S1 g1⟩⟩
theorem w_op {op : Operator} (ho : Op3 X (binaryOp op) rr) (ha : PE3 X W a ra) (hb : PE3 X W b rb) : PE3 X W (.BinOp a op b pos) (rOp rr ra rb) := by
  obtain ⟨r, h1, h2⟩ := ho.ex
  obtain ⟨ta, pa, sa⟩ := ha.ex
  obtain ⟨tb, pb, sb⟩ := hb.ex
  exact ⟨_, pe_op h1 pa pb, se_op h2 sa sb⟩
theorem w_cmp {op : CmpOp} (ho : Op3 X (compareOp op) rr) (ha : PE3 X W a ra) (hb : PE3 X W b rb) (hm : behindInMarks op b = false) : PE3 X W (.Compare a [op] [b] pos) (rOp rr ra rb) := by
  obtain ⟨r, h1, h2⟩ := ho.ex
  obtain ⟨ta, pa, sa⟩ := ha.ex
  obtain ⟨tb, pb, sb⟩ := hb.ex
  exact ⟨_, pe_cmpR h1 pa pb hm, se_op h2 sa sb⟩
theorem t_cmp {op : CmpOp} (ho : Op3 X (compareOp op) rr) (ha : PE3 X W a ra) (hb : PE3 X W b rb) (hm : behindInMarks op b = false) : PT3 X W (.Compare a [op] [b] pos) (rTB (rOp rr ra rb)) := by
  obtain ⟨r, h1, h2⟩ := ho.ex
  obtain ⟨ta, pa, sa⟩ := ha.ex
  obtain ⟨tb, pb, sb⟩ := hb.ex
  exact ⟨_, pt_cmpR h1 pa pb hm, st_b (se_op h2 sa sb)⟩
/-- one of two readings -/
theorem OpR.or {r1 r2 : R2} (h1 : OpR X f r1) (h2 : OpR X f r2) : OpR X f (fun x y H Q => r1 x y H Q ∨ r2 x y H Q) := by
  exact fun pins s σ H x y v u Q I rx ry h => h.elim (h1 pins s σ H x y v u Q I rx ry) (h2 pins s σ H x y v u Q I rx ry)
theorem SR2.inl {r1 r2 : R2} (h : SR2 K r1 rr) : SR2 K (fun x y H Q => r1 x y H Q ∨ r2 x y H Q) rr := ⟨fun w H σ Γ Q k u v y z S a b c d => .inl (h.go w H σ Γ Q k u v y z S a b c d)⟩
theorem SR2.inr {r1 r2 : R2} (h : SR2 K r2 rr) : SR2 K (fun x y H Q => r1 x y H Q ∨ r2 x y H Q) rr := ⟨fun w H σ Γ Q k u v y z S a b c d => .inr (h.go w H σ Γ Q k u v y z S a b c d)⟩
end
end L3

namespace L3
open PySem L2 PyProof.Rows

section
variable {K : PySem.W.Frag} {X : Cx} {W : WX}
/-- both are ints -/
def rII (C : Int → Int → Prop) (g : Int → Int → D) : Val → Val → Gam → KE3 → Prop := fun y z Γ k => ∃ i j, y = .d (.int i) ∧ z = .d (.int j) ∧ C i j ∧ k (.d (g i j)) Γ
theorem sr_int {C : Int → Int → Prop} {g : Int → Int → Int} : SR2 K (rI C fun i j => .int (g i j)) (rII C fun i j => .int (g i j)) := ⟨fun w H σ Γ Q k u v y z S r1 r2 h hk => by
  obtain ⟨i, j, rfl, rfl, c, h⟩ := h
  cases (show Fz K w.F u (.int i) from r1)
  cases (show Fz K w.F v (.int j) from r2)
  exact ⟨i, j, rfl, rfl, c, hk _ w H _ Γ h S (Fz.int _) (Grow.refl _ _)⟩⟩
theorem sr_intB {g : Int → Int → Bool} : SR2 K (rI0 fun i j => .bl (g i j)) (rII (fun _ _ => True) fun i j => .bl (g i j)) := ⟨fun w H σ Γ Q k u v y z S r1 r2 h hk => by
  obtain ⟨i, j, rfl, rfl, c, h⟩ := h
  cases (show Fz K w.F u (.int i) from r1)
  cases (show Fz K w.F v (.int j) from r2)
  exact ⟨i, j, rfl, rfl, hk _ w H _ Γ h S (Fz.bl _) (Grow.refl _ _)⟩⟩
theorem sr_int0 {g : Int → Int → Int} : SR2 K (rI0 fun i j => .int (g i j)) (rII (fun _ _ => True) fun i j => .int (g i j)) := ⟨fun w H σ Γ Q k u v y z S r1 r2 h hk => by
  obtain ⟨i, j, rfl, rfl, c, h⟩ := h
  cases (show Fz K w.F u (.int i) from r1)
  cases (show Fz K w.F v (.int j) from r2)
  exact ⟨i, j, rfl, rfl, hk _ w H _ Γ h S (Fz.int _) (Grow.refl _ _)⟩⟩
theorem o_sub : Op3 X (binaryOp .Sub) (rII (fun _ _ => True) fun i j => .int (i - j)) := ⟨_, op_sub, sr_int0⟩
theorem o_mul : Op3 X (binaryOp .Mult) (rII CMul fun i j => .int (i * j)) := ⟨_, op_mul, sr_int⟩
theorem o_mulW : Op3 X (binaryOp .Mult) (rII CMulW fun i j => .int (i * j)) := ⟨_, op_mulW, sr_int⟩
theorem o_mod : Op3 X (binaryOp .Mod) (rII (fun _ j => 0 < j) fun i j => .int (i % j)) := ⟨_, op_mod, sr_int⟩
theorem o_fdiv : Op3 X (binaryOp .FloorDiv) (rII CDiv fun i j => .int (i / j)) := ⟨_, op_fdiv, sr_int⟩
theorem o_pow : Op3 X (binaryOp .Pow) (rII CPow fun i j => .int (i ^ j.toNat)) := ⟨_, op_pow, sr_int⟩
/-- + : ints, texts, lists of frozen items (a new frozen list) -/
def rAdd3 : Val → Val → Gam → KE3 → Prop := fun y z Γ k =>
  (∃ i j, y = .d (.int i) ∧ z = .d (.int j) ∧ k (.d (.int (i + j))) Γ) ∨
  (∃ a b, y = .d (.str a) ∧ z = .d (.str b) ∧ a.length + b.length ≤ sizeLine ∧ k (.d (.str (a ++ b))) Γ) ∨
  ∃ xs ys, Γ.dl y = some xs ∧ Γ.dl z = some ys ∧ xs.length + ys.length ≤ sizeLine ∧ k (.d (.lst (xs ++ ys))) Γ
theorem FzL.length {F : Hp} : ∀ {vs : List V} {xs : List D}, FzL K F vs xs → vs.length = xs.length
  | _, _, .nil => rfl
  | _, _, .cons _ l => by rw [List.length_cons, List.length_cons, l.length]
theorem FzL.append {F : Hp} : ∀ {vs us : List V} {xs ys : List D}, FzL K F vs xs → FzL K F us ys → FzL K F (vs ++ us) (xs ++ ys)
  | _, _, _, _, .nil, h => h
  | _, _, _, _, .cons a l, h => .cons a (FzL.append l h)
theorem o_add : Op3 X (binaryOp .Add) rAdd3 := ⟨_, OpR.or op_add (OpR.or op_add_str op_cat), ⟨fun w H σ Γ Q k u v y z S r1 r2 h hk => by
  rcases h with ⟨i, j, rfl, rfl, h⟩ | ⟨a, b, rfl, rfl, hl, h⟩ | ⟨xs, ys, e1, e2, hl, h⟩
  · cases (show Fz _ w.F u (.int i) from r1)
    cases (show Fz _ w.F v (.int j) from r2)
    exact .inl ⟨i, j, rfl, rfl, hk _ w H _ Γ h S (Fz.int _) (Grow.refl _ _)⟩
  · cases (show Fz _ w.F u (.str a) from r1)
    cases (show Fz _ w.F v (.str b) from r2)
    exact .inr (.inl ⟨a, b, rfl, rfl, hl, hk _ w H _ Γ h S (Fz.str _) (Grow.refl _ _)⟩)
  · obtain ⟨p, vs, rfl, h1, l1⟩ := S.dl r1 e1
    obtain ⟨q, us, rfl, h2, l2⟩ := S.dl r2 e2
    refine .inr (.inr ⟨p, q, vs, us, rfl, rfl, h1, h2, by rw [l1.length, l2.length]; exact hl, fun n hn => ?_⟩)
    obtain ⟨S1, g1⟩ := S.newF (o := .lst (vs ++ us)) hn
    exact hk _ _ _ _ Γ h S1 (Fz.lst upd_same ((l1.append l2).le g1.le)) g1⟩⟩

/-- == -/
def rEq3 : Val → Val → Gam → KE3 → Prop := fun y z Γ k => ∃ a b, Γ.dv y = some a ∧ Γ.dv z = some b ∧ a.eqOk = true ∧ b.eqOk = true ∧ k (.d (.bl (a.eqv b))) Γ
def rNe3 : Val → Val → Gam → KE3 → Prop := fun y z Γ k => ∃ a b, Γ.dv y = some a ∧ Γ.dv z = some b ∧ a.eqOk = true ∧ b.eqOk = true ∧ k (.d (.bl (!a.eqv b))) Γ
theorem o_eq (c : Good X W) : Op3 X (compareOp .Eq) rEq3 := ⟨_, op_eqD (by have := c.un; omega), ⟨fun w H σ Γ Q k u v y z S r1 r2 h hk => by
  obtain ⟨a, b, e1, e2, o1, o2, h⟩ := h
  exact ⟨a.py, b.py, (S.dv r1 e1).dp (D.flat_of_eqOk o1), (S.dv r2 e2).dp (D.flat_of_eqOk o2), D.eqOk_shaped o1, D.eqOk_shaped o2, hk _ w H _ Γ h S (Fz.bl _) (Grow.refl _ _)⟩⟩⟩
theorem o_ne (c : Good X W) : Op3 X (compareOp .NotEq) rNe3 := ⟨_, op_neD (by have := c.un; omega), ⟨fun w H σ Γ Q k u v y z S r1 r2 h hk => by
  obtain ⟨a, b, e1, e2, o1, o2, h⟩ := h
  exact ⟨a.py, b.py, (S.dv r1 e1).dp (D.flat_of_eqOk o1), (S.dv r2 e2).dp (D.flat_of_eqOk o2), D.eqOk_shaped o1, D.eqOk_shaped o2, hk _ w H _ Γ h S (Fz.bl _) (Grow.refl _ _)⟩⟩⟩

/-- < <= > >= of ints, of texts -/
def rOrd (gi : Int → Int → Bool) (gs : Str → Str → Bool) : Val → Val → Gam → KE3 → Prop := fun y z Γ k =>
  (∃ i j, y = .d (.int i) ∧ z = .d (.int j) ∧ k (.d (.bl (gi i j))) Γ) ∨ ∃ a b, y = .d (.str a) ∧ z = .d (.str b) ∧ k (.d (.bl (gs a b))) Γ
theorem sr_ord {gi : Int → Int → Bool} {gs : Str → Str → Bool} : SR2 K (fun x y H Q => rI0 (fun i j => .bl (gi i j)) x y H Q ∨ ∃ i j, x = .str i ∧ y = .str j ∧ Q (.bl (gs i j)) H) (rOrd gi gs) := ⟨fun w H σ Γ Q k u v y z S r1 r2 h hk => by
  rcases h with ⟨i, j, rfl, rfl, h⟩ | ⟨a, b, rfl, rfl, h⟩
  · cases (show Fz _ w.F u (.int i) from r1)
    cases (show Fz _ w.F v (.int j) from r2)
    exact .inl ⟨i, j, rfl, rfl, hk _ w H _ Γ h S (Fz.bl _) (Grow.refl _ _)⟩
  · cases (show Fz _ w.F u (.str a) from r1)
    cases (show Fz _ w.F v (.str b) from r2)
    exact .inr ⟨a, b, rfl, rfl, hk _ w H _ Γ h S (Fz.bl _) (Grow.refl _ _)⟩⟩
def sLt (a b : Str) : Bool := decide (a.cps.toList < b.cps.toList)
theorem o_lt : Op3 X (compareOp .Lt) (rOrd (fun i j => decide (i < j)) sLt) := ⟨_, OpR.or op_lt op_lt_str, sr_ord⟩
theorem o_le : Op3 X (compareOp .LtE) (rOrd (fun i j => decide (i ≤ j)) fun a b => !sLt b a) := ⟨_, OpR.or op_le op_le_str, sr_ord⟩
theorem o_gt : Op3 X (compareOp .Gt) (rOrd (fun i j => decide (j < i)) fun a b => sLt b a) := ⟨_, OpR.or op_gt op_gt_str, sr_ord⟩
theorem o_ge : Op3 X (compareOp .GtE) (rOrd (fun i j => decide (j ≤ i)) fun a b => !sLt a b) := ⟨_, OpR.or op_ge op_ge_str, sr_ord⟩

/-- is None -/
def D.isNon : D → Bool
  | .non => true
  | _ => false
def rIs (neg : Bool) : Val → Val → Gam → KE3 → Prop := fun y z Γ k => z = .d .non ∧ ∃ a, Γ.dv y = some a ∧ k (.d (.bl (if neg then !a.isNon else a.isNon))) Γ
theorem Fz.isNon {F : Hp} {v : V} : ∀ {a : D}, Fz K F v a → decide (v = .non) = a.isNon
  | _, .non => rfl
  | _, .bl _ => rfl
  | _, .int _ => rfl
  | _, .str _ => rfl
  | _, .ty _ => rfl
  | _, .lst _ _ => rfl
  | _, .tup _ _ => rfl
  | _, .dct _ _ _ => rfl
  | _, .dcT _ _ _ => rfl
  | _, .obj _ _ _ => rfl
  | _, .scr _ => rfl
theorem o_is : Op3 X (compareOp .Is) (rIs false) := ⟨_, op_isN, ⟨fun w H σ Γ Q k u v y z S r1 r2 h hk => by
  obtain ⟨rfl, a, e, h⟩ := h
  cases (show Fz _ w.F v .non from r2)
  refine ⟨rfl, ?_⟩
  rw [(S.dv r1 e).isNon]
  exact hk _ w H _ Γ h S (Fz.bl _) (Grow.refl _ _)⟩⟩
theorem o_isnot : Op3 X (compareOp .IsNot) (rIs true) := ⟨_, op_notN, ⟨fun w H σ Γ Q k u v y z S r1 r2 h hk => by
  obtain ⟨rfl, a, e, h⟩ := h
  cases (show Fz _ w.F v .non from r2)
  refine ⟨rfl, ?_⟩
  rw [(S.dv r1 e).isNon]
  exact hk _ w H _ Γ h S (Fz.bl _) (Grow.refl _ _)⟩⟩

/-! ### in, not in -/
/-- a key as data -/
def kD : Key → D
  | .inl i => .int i
  | .inr x => .str x
theorem Fz.key {F : Hp} {v : V} : ∀ {k : Key}, Fz K F v (kD k) → v = kV k
  | .inl _, .int _ => rfl
  | .inr _, .str _ => rfl
theorem FzL.keys {F : Hp} : ∀ {ks : List Key} {vs : List V}, FzL K F vs (ks.map kD) → vs = ks.map kV
  | [], _, .nil => rfl
  | k :: ks, _, .cons h l => by rw [h.key, l.keys, List.map_cons]
theorem op_inK (hu : X.A.units + 1 < cLine) : OpR X (compareOp .In) (fun y x H Q => ∃ a o, x = .ref a ∧ DGet H a y o ∧ Q (.bl o.isSome) H) := by
  intro pins s σ H y x v u Q I ry rx h
  obtain ⟨a, o, rfl, g, q⟩ := h
  cases rx
  exact d_in hu I g ry fun s' I' => ⟨.bl _, H, I', rfl, q⟩
theorem op_ninK (hu : X.A.units + 1 < cLine) : OpR X (compareOp .NotIn) (fun y x H Q => ∃ a o, x = .ref a ∧ DGet H a y o ∧ Q (.bl (!o.isSome)) H) := by
  intro pins s σ H y x v u Q I ry rx h
  obtain ⟨a, o, rfl, g, q⟩ := h
  cases rx
  exact d_notIn hu I g ry fun s' I' => ⟨.bl _, H, I', rfl, q⟩
/-- what a dict holds -/
def look {κ α : Type} [DecidableEq κ] (kvs : List (κ × α)) (k : κ) : Option α := (kvs.find? fun kv => decide (kv.1 = k)).map (·.2)
theorem look_vr {κ : Type} [DecidableEq κ] {w : Wd} {k : κ} : ∀ {kv : List (κ × V)} {xs : List (κ × Val)}, kv.map (·.1) = xs.map (·.1) → Paired (VR K w) (kv.map (·.2)) (xs.map (·.2)) →
    (look xs k = none ∧ valV kv k = none) ∨ ∃ v y, look xs k = some y ∧ valV kv k = some v ∧ VR K w v y
  | [], [], _, _ => .inl ⟨rfl, rfl⟩
  | [], _ :: _, e, _ => by cases e
  | _ :: _, [], e, _ => by cases e
  | (k1, v1) :: kv, (k2, y2) :: xs, e, p => by
    simp only [List.map_cons] at e p
    injection e with e1 e2
    have e1' : k1 = k2 := e1
    subst e1'
    cases p with
    | cons r l =>
      by_cases c : k1 = k
      · subst c
        refine .inr ⟨v1, y2, ?_, ?_, r⟩
        · simp [look]
        · simp [valV]
      · have h1 : look ((k1, y2) :: xs) k = look xs k := by
          unfold look
          rw [List.find?_cons_of_neg (by simpa using c)]
        have h2 : valV ((k1, v1) :: kv) k = valV kv k := by
          unfold valV
          rw [List.find?_cons_of_neg (by simpa using c)]
        rw [h1, h2]
        exact look_vr e2 l
/-- the key that a value is: a simple one, or a tuple's -/
def D.key : D → Option Key
  | .int i => some (.inl i)
  | .str x => some (.inr x)
  | _ => none
def D.keys : List D → Option (List Key)
  | [] => some []
  | x :: r => match x.key, D.keys r with
    | some k, some l => some (k :: l)
    | _, _ => none
theorem D.key_eq : ∀ {x : D} {k : Key}, x.key = some k → x = kD k
  | .int i, _, h => by cases h; rfl
  | .str i, _, h => by cases h; rfl
theorem D.keys_eq : ∀ {xs : List D} {ks : List Key}, D.keys xs = some ks → xs = ks.map kD
  | [], _, h => by cases h; rfl
  | x :: r, ks, h => by
    unfold D.keys at h
    split at h
    · rename_i k l h1 h2
      cases h
      rw [D.key_eq h1, D.keys_eq h2]
      rfl
    · cases h
theorem D.keys_map : ∀ ks : List Key, D.keys (ks.map kD) = some ks
  | [] => rfl
  | .inl i :: r => by
    show (match (kD (.inl i)).key, D.keys (r.map kD) with | some k, some l => some (k :: l) | _, _ => none) = _
    rw [D.keys_map r]
    rfl
  | .inr i :: r => by
    show (match (kD (.inr i)).key, D.keys (r.map kD) with | some k, some l => some (k :: l) | _, _ => none) = _
    rw [D.keys_map r]
    rfl
/-- what the dict z holds at the key y; none: it isn't asked so -/
def Gam.dget (Γ : Gam) (z : Val) (y : Val) : Option (Option Val) := match Γ.shp z, y with
  | .M kvs, .d x => x.key.map (look kvs)
  | .T kvs, .d (.tup xs) => (D.keys xs).map (look kvs)
  | _, _ => none
theorem Sta.dget {w : Wd} {H : Hp} {σ : L2.St} {Γ : Gam} {u v : V} {z y : Val} (S : Sta K w H σ Γ) (r1 : VR K w u z) (r2 : VR K w v y) {o : Option Val} (e : Γ.dget z y = some o) :
    ∃ a o', u = .ref a ∧ DGet H a v o' ∧ ((o = none ∧ o' = none) ∨ ∃ x vx, o = some x ∧ o' = some vx ∧ VR K w vx x) := by
  unfold Gam.dget at e
  split at e
  · rename_i kvs x hs
    obtain ⟨k, ek, el⟩ := Option.map_eq_some_iff.mp e
    obtain ⟨a, kv, rfl, h1, h2, h3⟩ := S.shpM r1 hs
    have ex := D.key_eq ek
    subst ex
    have hv := Fz.key r2
    subst hv
    refine ⟨a, valV kv k, rfl, .inl ⟨kv, k, h1, rfl, rfl⟩, ?_⟩
    subst el
    rcases look_vr (K := K) (w := w) (k := k) h2 h3 with ⟨a1, a2⟩ | ⟨v, y, a1, a2, a3⟩
    · exact .inl ⟨a1, a2⟩
    · exact .inr ⟨y, v, a1, a2, a3⟩
  · rename_i kvs xs hs
    obtain ⟨k, ek, el⟩ := Option.map_eq_some_iff.mp e
    obtain ⟨a, kv, rfl, h1, h2, h3⟩ := S.shpT r1 hs
    have ex := D.keys_eq ek
    subst ex
    cases (show Fz K w.F v (.tup (k.map kD)) from r2) with
    | tup hb l =>
      have hvs := l.keys
      subst hvs
      refine ⟨a, valV kv k, rfl, .inr ⟨kv, k, _, h1, rfl, S.sub.exact hb (fun z => z), rfl⟩, ?_⟩
      subst el
      rcases look_vr (K := K) (w := w) (k := k) h2 h3 with ⟨a1, a2⟩ | ⟨v, y, a1, a2, a3⟩
      · exact .inl ⟨a1, a2⟩
      · exact .inr ⟨y, v, a1, a2, a3⟩
  · cases e
/-- y in z -/
def Gam.has (Γ : Gam) (y z : Val) (b : Bool) : Prop :=
  (∃ a xs, Γ.dv y = some a ∧ Γ.dl z = some xs ∧ a.eqOk = true ∧ (D.lst xs).eqOk = true ∧ b = xs.any fun x => x.eqv a) ∨
  (∃ o, Γ.dget z y = some o ∧ b = o.isSome) ∨
  (∃ s t, y = .d (.str ⟨#[s]⟩) ∧ z = .d (.str t) ∧ b = decide (s ∈ t.cps.toList))
theorem o_in (c : Good X W) : Op3 X (compareOp .In) (fun y z Γ k => ∃ b, Γ.has y z b ∧ k (.d (.bl b)) Γ) :=
  ⟨_, OpR.or (op_inD (by have := c.un; omega)) (OpR.or (op_inK (by have := c.un; omega)) op_in_sign), ⟨fun w H σ Γ Q k u v y z S r1 r2 h hk => by
  obtain ⟨b, hb, h⟩ := h
  have fin : Q (.bl b) H := hk _ w H _ Γ h S (Fz.bl _) (Grow.refl _ _)
  rcases hb with ⟨a, xs, e1, e2, o1, o2, rfl⟩ | ⟨o, e, rfl⟩ | ⟨s, t, rfl, rfl, rfl⟩
  · obtain ⟨p, vs, rfl, h1, l1⟩ := S.dl r2 e2
    refine .inl ⟨a.py, D.pys xs, (S.dv r1 e1).dp (D.flat_of_eqOk o1), (Fz.lst (unl_of h1) (l1.le S.sub.unl)).dp (D.flat_of_eqOk o2), D.eqOk_shaped o1, D.eqOk_shaped o2, ?_⟩
    rw [D.pys_map, List.any_map]
    exact fin
  · obtain ⟨p, o', rfl, g, ho⟩ := S.dget r2 r1 e
    refine .inr (.inl ⟨p, o', rfl, g, ?_⟩)
    rcases ho with ⟨rfl, rfl⟩ | ⟨x, vx, rfl, rfl, _⟩
    · exact fin
    · exact fin
  · cases (show Fz _ w.F u (.str _) from r1)
    cases (show Fz _ w.F v (.str _) from r2)
    exact .inr (.inr ⟨s, t, rfl, rfl, fin⟩)⟩⟩
theorem o_notin (c : Good X W) : Op3 X (compareOp .NotIn) (fun y z Γ k => ∃ b, Γ.has y z b ∧ k (.d (.bl (!b))) Γ) :=
  ⟨_, OpR.or (op_notInD (by have := c.un; omega)) (OpR.or (op_ninK (by have := c.un; omega)) op_notIn_sign), ⟨fun w H σ Γ Q k u v y z S r1 r2 h hk => by
  obtain ⟨b, hb, h⟩ := h
  have fin : Q (.bl (!b)) H := hk _ w H _ Γ h S (Fz.bl _) (Grow.refl _ _)
  rcases hb with ⟨a, xs, e1, e2, o1, o2, rfl⟩ | ⟨o, e, rfl⟩ | ⟨s, t, rfl, rfl, rfl⟩
  · obtain ⟨p, vs, rfl, h1, l1⟩ := S.dl r2 e2
    refine .inl ⟨a.py, D.pys xs, (S.dv r1 e1).dp (D.flat_of_eqOk o1), (Fz.lst (unl_of h1) (l1.le S.sub.unl)).dp (D.flat_of_eqOk o2), D.eqOk_shaped o1, D.eqOk_shaped o2, ?_⟩
    rw [D.pys_map, List.any_map]
    exact fin
  · obtain ⟨p, o', rfl, g, ho⟩ := S.dget r2 r1 e
    refine .inr (.inl ⟨p, o', rfl, g, ?_⟩)
    rcases ho with ⟨rfl, rfl⟩ | ⟨x, vx, rfl, rfl, _⟩
    · exact fin
    · exact fin
  · cases (show Fz _ w.F u (.str _) from r1)
    cases (show Fz _ w.F v (.str _) from r2)
    exact .inr (.inr ⟨s, t, rfl, rfl, fin⟩)⟩⟩
end
end L3

namespace L3
open PySem L2 PyProof.Rows

/-! ### tests, and, or, not, if -/
def rAndV (ra rb : RE) : RE := fun Γ k x => ra Γ (fun y Γ1 => ∃ b, y = .d (.bl b) ∧ (if b = true then rb Γ1 k x else k (.d (.bl false)) Γ1)) x
def rOrV (ra rb : RE) : RE := fun Γ k x => ra Γ (fun y Γ1 => ∃ b, y = .d (.bl b) ∧ (if b = true then k (.d (.bl true)) Γ1 else rb Γ1 k x)) x
def rNotV (ra : RE) : RE := fun Γ k x => ra Γ (fun y Γ1 => ∃ b, y = .d (.bl b) ∧ k (.d (.bl (!b))) Γ1) x
def rIfE (rt : RT) (ra rb : RE) : RE := fun Γ k x => rt Γ (fun b Γ1 => if b = true then ra Γ1 k x else rb Γ1 k x) x
def rAndT (ra rb : RT) : RT := fun Γ k x => ra Γ (fun b Γ1 => if b = true then rb Γ1 k x else k false Γ1) x
def rOrT (ra rb : RT) : RT := fun Γ k x => ra Γ (fun b Γ1 => if b = true then k true Γ1 else rb Γ1 k x) x
def rNotT (ra : RT) : RT := fun Γ k x => ra Γ (fun b Γ1 => k (!b) Γ1) x
/-- a chain a op b op' c -/
def rChain (rr rr' : Val → Val → Gam → KE3 → Prop) (ra rb rc : RE) : RE := fun Γ k x => ra Γ (fun y Γ1 => rb Γ1 (fun z Γ2 => rr y z Γ2 fun q Γ3 => ∃ b, q = .d (.bl b) ∧ (if b = true then rc Γ3 (fun u Γ4 => rr' z u Γ4 k) x else k (.d (.bl false)) Γ3)) x) x
/-- truth of data -/
def Gam.tru (Γ : Gam) (y : Val) : Option Bool := match Γ.shp y with
  | .s .non => match y with | .d _ => some false | _ => none
  | .s (.bl b) => some b
  | .s (.int i) => some (i != 0)
  | .s (.str s) => if s.length ≤ sizeLine then some ((s.length : Int) != 0) else none
  | .L xs => some (!xs.isEmpty)
  | .U xs => some (!xs.isEmpty)
  | .M kvs => if Γ.lk = false then some (!kvs.isEmpty) else none
  | _ => none
def rTru (ra : RE) : RT := fun Γ k x => ra Γ (fun y Γ1 => ∃ b, Γ1.tru y = some b ∧ k b Γ1) x
section
variable {K : PySem.W.Frag} {X : Cx} {W : WX} {w : Wd} {H : Hp} {σ : L2.St} {Γ : Gam} {te ta tb tc : TE} {ra rb rc re : RE} {tA tB' : TT} {rA rB : RT} {r r' : R2} {rr rr' : Val → Val → Gam → KE3 → Prop} {a b c e : Expr} {rest : List Expr} {pos : Pos} {v : V} {y : Val}
theorem SE.andV (ha : SE K W ta ra) (hb : SE K W tb rb) : SE K W (tAndV ta tb) (rAndV ra rb) := ⟨fun w H σ Γ Q k x S h hk hx => by
  refine ha.go w H σ Γ _ _ x S h (fun u w1 H1 y Γ1 h1 S1 r1 g1 => ?_) hx
  obtain ⟨b, rfl, h1⟩ := h1
  cases (show Fz K w1.F u (.bl b) from r1)
  refine ⟨b, rfl, ?_⟩
  cases b with
  | true => exact hb.go w1 H1 σ Γ1 Q k x S1 h1 (fun v w' H' y Γ' h S r g => hk v w' H' y Γ' h S r (g1.trans g)) (hx.grow g1)
  | false => exact hk _ w1 H1 _ Γ1 h1 S1 (Fz.bl _) g1⟩
theorem SE.orV (ha : SE K W ta ra) (hb : SE K W tb rb) : SE K W (tOrV ta tb) (rOrV ra rb) := ⟨fun w H σ Γ Q k x S h hk hx => by
  refine ha.go w H σ Γ _ _ x S h (fun u w1 H1 y Γ1 h1 S1 r1 g1 => ?_) hx
  obtain ⟨b, rfl, h1⟩ := h1
  cases (show Fz K w1.F u (.bl b) from r1)
  refine ⟨b, rfl, ?_⟩
  cases b with
  | false => exact hb.go w1 H1 σ Γ1 Q k x S1 h1 (fun v w' H' y Γ' h S r g => hk v w' H' y Γ' h S r (g1.trans g)) (hx.grow g1)
  | true => exact hk _ w1 H1 _ Γ1 h1 S1 (Fz.bl _) g1⟩
theorem SE.notV (ha : SE K W ta ra) : SE K W (tNotV ta) (rNotV ra) := ⟨fun w H σ Γ Q k x S h hk hx => by
  refine ha.go w H σ Γ _ _ x S h (fun u w1 H1 y Γ1 h1 S1 r1 g1 => ?_) hx
  obtain ⟨b, rfl, h1⟩ := h1
  cases (show Fz K w1.F u (.bl b) from r1)
  exact ⟨b, rfl, hk _ w1 H1 _ Γ1 h1 S1 (Fz.bl _) g1⟩⟩
theorem SE.ifE (ht : ST3 K W tA rA) (ha : SE K W ta ra) (hb : SE K W tb rb) : SE K W (tIf tA ta tb) (rIfE rA ra rb) := ⟨fun w H σ Γ Q k x S h hk hx => by
  refine ht.go w H σ Γ _ _ x S h (fun b w1 H1 Γ1 h1 S1 g1 => ?_) hx
  cases b with
  | true => exact ha.go w1 H1 σ Γ1 Q k x S1 h1 (fun v w' H' y Γ' h S r g => hk v w' H' y Γ' h S r (g1.trans g)) (hx.grow g1)
  | false => exact hb.go w1 H1 σ Γ1 Q k x S1 h1 (fun v w' H' y Γ' h S r g => hk v w' H' y Γ' h S r (g1.trans g)) (hx.grow g1)⟩
theorem ST3.and (ha : ST3 K W tA rA) (hb : ST3 K W tB' rB) : ST3 K W (tAnd tA tB') (rAndT rA rB) := ⟨fun w H σ Γ Q k x S h hk hx => by
  refine ha.go w H σ Γ _ _ x S h (fun b w1 H1 Γ1 h1 S1 g1 => ?_) hx
  cases b with
  | true => exact hb.go w1 H1 σ Γ1 Q k x S1 h1 (fun v w' H' Γ' h S g => hk v w' H' Γ' h S (g1.trans g)) (hx.grow g1)
  | false => exact hk _ w1 H1 Γ1 h1 S1 g1⟩
theorem ST3.or (ha : ST3 K W tA rA) (hb : ST3 K W tB' rB) : ST3 K W (tOr tA tB') (rOrT rA rB) := ⟨fun w H σ Γ Q k x S h hk hx => by
  refine ha.go w H σ Γ _ _ x S h (fun b w1 H1 Γ1 h1 S1 g1 => ?_) hx
  cases b with
  | false => exact hb.go w1 H1 σ Γ1 Q k x S1 h1 (fun v w' H' Γ' h S g => hk v w' H' Γ' h S (g1.trans g)) (hx.grow g1)
  | true => exact hk _ w1 H1 Γ1 h1 S1 g1⟩
theorem ST3.not (ha : ST3 K W tA rA) : ST3 K W (tNot tA) (rNotT rA) := ⟨fun w H σ Γ Q k x S h hk hx =>
  ha.go w H σ Γ _ _ x S h (fun b w1 H1 Γ1 h1 S1 g1 => hk _ w1 H1 Γ1 h1 S1 g1) hx⟩
theorem se_chain (hr : SR2 K r rr) (hr' : SR2 K r' rr') (ha : SE K W ta ra) (hb : SE K W tb rb) (hc : SE K W tc rc) : SE K W (tChain r r' ta tb tc) (rChain rr rr' ra rb rc) := ⟨fun w H σ Γ Q k x S h hk hx => by
  refine ha.go w H σ Γ _ _ x S h (fun u w1 H1 y Γ1 h1 S1 r1 g1 => ?_) hx
  refine hb.go w1 H1 σ Γ1 _ _ x S1 h1 (fun v w2 H2 z Γ2 h2 S2 r2 g2 => ?_) (hx.grow g1)
  refine hr.go w2 H2 σ Γ2 _ _ u v y z S2 (r1.grow g2) r2 h2 fun q w3 H3 qq Γ3 h3 S3 r3 g3 => ?_
  obtain ⟨b, rfl, h3⟩ := h3
  cases (show Fz K w3.F q (.bl b) from r3)
  refine ⟨b, rfl, ?_⟩
  have g := (g1.trans g2).trans g3
  cases b with
  | false => exact hk _ w3 H3 _ Γ3 h3 S3 (Fz.bl _) g
  | true =>
    refine hc.go w3 H3 σ Γ3 _ _ x S3 h3 (fun u4 w4 H4 y4 Γ4 h4 S4 r4 g4 => ?_) (hx.grow g)
    exact hr'.go w4 H4 σ Γ4 Q k v u4 z y4 S4 ((r2.grow g3).grow g4) r4 h4 fun v w' H' y Γ' h S r g5 => hk v w' H' y Γ' h S r ((g.trans g4).trans g5)⟩
theorem w_and (ha : PE3 X W a ra) (hb : PE3 X W (.BoolOp .And (b :: rest) pos) rb) : PE3 X W (.BoolOp .And (a :: b :: rest) pos) (rAndV ra rb) := by
  obtain ⟨ta, pa, sa⟩ := ha.ex
  obtain ⟨tb, pb, sb⟩ := hb.ex
  exact ⟨_, pe_and pa pb, sa.andV sb⟩
theorem w_or (ha : PE3 X W a ra) (hb : PE3 X W (.BoolOp .Or (b :: rest) pos) rb) : PE3 X W (.BoolOp .Or (a :: b :: rest) pos) (rOrV ra rb) := by
  obtain ⟨ta, pa, sa⟩ := ha.ex
  obtain ⟨tb, pb, sb⟩ := hb.ex
  exact ⟨_, pe_or pa pb, sa.orV sb⟩
theorem w_one {op} (ha : PE3 X W a ra) : PE3 X W (.BoolOp op [a] pos) ra := by
  obtain ⟨ta, pa, sa⟩ := ha.ex
  exact ⟨_, pe_one pa, sa⟩
theorem w_not (ha : PE3 X W a ra) : PE3 X W (.UnaryOp .Not a pos) (rNotV ra) := by
  obtain ⟨ta, pa, sa⟩ := ha.ex
  exact ⟨_, pe_not pa, sa.notV⟩
theorem w_ifE (ht : PT3 X W c rA) (ha : PE3 X W a ra) (hb : PE3 X W b rb) : PE3 X W (.IfExp c a b pos) (rIfE rA ra rb) := by
  obtain ⟨tt, pt, st⟩ := ht.ex
  obtain ⟨ta, pa, sa⟩ := ha.ex
  obtain ⟨tb, pb, sb⟩ := hb.ex
  exact ⟨_, pe_ifExp pt pa pb, SE.ifE st sa sb⟩
theorem w_chain {op op' : CmpOp} (ho : Op3 X (compareOp op) rr) (ho' : Op3 X (compareOp op') rr') (ha : PE3 X W a ra) (hb : PE3 X W b rb) (hc : PE3 X W c rc) (hm : lastMarks [op, op'] [b, c] = false := by with_unfolding_all rfl) :
    PE3 X W (.Compare a [op, op'] [b, c] pos) (rChain rr rr' ra rb rc) := by
  obtain ⟨r, h1, h2⟩ := ho.ex
  obtain ⟨r', h1', h2'⟩ := ho'.ex
  obtain ⟨ta, pa, sa⟩ := ha.ex
  obtain ⟨tb, pb, sb⟩ := hb.ex
  obtain ⟨tc, pc, sc⟩ := hc.ex
  exact ⟨_, pe_chain h1 h1' pa pb pc hm, se_chain h2 h2' sa sb sc⟩
theorem t_chain {op op' : CmpOp} (ho : Op3 X (compareOp op) rr) (ho' : Op3 X (compareOp op') rr') (ha : PE3 X W a ra) (hb : PE3 X W b rb) (hc : PE3 X W c rc) (hm : lastMarks [op, op'] [b, c] = false := by with_unfolding_all rfl) :
    PT3 X W (.Compare a [op, op'] [b, c] pos) (rTB (rChain rr rr' ra rb rc)) := by
  obtain ⟨r, h1, h2⟩ := ho.ex
  obtain ⟨r', h1', h2'⟩ := ho'.ex
  obtain ⟨ta, pa, sa⟩ := ha.ex
  obtain ⟨tb, pb, sb⟩ := hb.ex
  obtain ⟨tc, pc, sc⟩ := hc.ex
  exact ⟨_, pt_chain h1 h1' pa pb pc hm, st_b (se_chain h2 h2' sa sb sc)⟩
theorem t_not (ha : PT3 X W a rA) : PT3 X W (.UnaryOp .Not a pos) (rNotT rA) := by
  obtain ⟨ta, pa, sa⟩ := ha.ex
  exact ⟨_, pt_not pa, sa.not⟩
theorem t_and1 (ha : PT3 X W a rA) : PW3 X W (.BoolOp .And [a] pos) rA := by
  obtain ⟨ta, pa, sa⟩ := ha.ex
  exact ⟨_, pw_and1 pa, sa⟩
theorem t_or1 (ha : PT3 X W a rA) : PW3 X W (.BoolOp .Or [a] pos) rA := by
  obtain ⟨ta, pa, sa⟩ := ha.ex
  exact ⟨_, pw_or1 pa, sa⟩
theorem t_and (ha : PT3 X W a rA) (hb : PW3 X W (.BoolOp .And (b :: rest) pos) rB) : PW3 X W (.BoolOp .And (a :: b :: rest) pos) (rAndT rA rB) := by
  obtain ⟨ta, pa, sa⟩ := ha.ex
  obtain ⟨tb, pb, sb⟩ := hb.ex
  exact ⟨_, pw_and pa pb, sa.and sb⟩
theorem t_or (ha : PT3 X W a rA) (hb : PW3 X W (.BoolOp .Or (b :: rest) pos) rB) : PW3 X W (.BoolOp .Or (a :: b :: rest) pos) (rOrT rA rB) := by
  obtain ⟨ta, pa, sa⟩ := ha.ex
  obtain ⟨tb, pb, sb⟩ := hb.ex
  exact ⟨_, pw_or pa pb, sa.or sb⟩
theorem t_w (h : PW3 X W e rA) : PT3 X W e rA := by
  obtain ⟨tt, p, s⟩ := h.ex
  exact ⟨tt, p.pt, s⟩
theorem Sta.shpMx (S : Sta K w H σ Γ) (hl : Γ.lk = false) : ∀ {y : Val} (r : VR K w v y) {xs : List (Key × Val)} (e : Γ.shp y = .M xs), ∃ a kv, v = .ref a ∧ H a = some (.dK kv) ∧ kv.map (·.1) = xs.map (·.1) ∧ Paired (VR K w) (kv.map (·.2)) (xs.map (·.2)) := by
  intro y r xs e
  have hlk : ∀ a, a ∉ w.lks := fun a m => by have m : a ∈ w.lks.l := m; rw [S.lkd hl] at m; cases m
  have go : ∀ {x : D}, Fz K w.F v x → x.shp = .M xs → ∃ a kv, v = .ref a ∧ H a = some (.dK kv) ∧ kv.map (·.1) = xs.map (·.1) ∧ Paired (VR K w) (kv.map (·.2)) (xs.map (·.2)) := by
    intro x f ex
    cases x with
    | dct kvs =>
      cases f with
      | dct h e1 l =>
        cases ex
        exact ⟨_, _, rfl, S.sub.ex _ _ h (hlk _), by rw [snd_fst]; exact e1, by rw [snd_snd]; exact l.vr⟩
    | _ => cases ex
  cases y with
  | d x => exact go r e
  | own n =>
    obtain ⟨a, ha, ev⟩ := r
    subst ev
    unfold Gam.shp at e
    simp only at e
    cases hc : Γ.st[n]? with
    | none => rw [hc] at e; cases e
    | some c =>
      rw [hc] at e
      have k := S.cells n c a hc ha
      cases c with
      | M kvs =>
        cases e
        obtain ⟨_, kv, h1, e1, h2⟩ := k
        exact ⟨a, kv, rfl, h1, e1, h2⟩
      | fz x => exact go k e
      | L xs => cases e
      | T xs => cases e
      | O C xs => cases e
      | no => cases e
theorem isEmpty_vr {vs : List V} {xs : List Val} (p : Paired (VR K w) vs xs) : (!vs.isEmpty) = !xs.isEmpty := by cases p <;> rfl
theorem Sta.tru (S : Sta K w H σ Γ) (r : VR K w v y) {b : Bool} (e : Γ.tru y = some b) : TruV K v H b := by
  unfold Gam.tru at e
  have sc : ∀ {x : D}, Γ.shp y = .s x → x ≠ .non → Fz K w.F v x := by
    intro x ex hx
    have go : ∀ {z : D}, Fz K w.F v z → z.shp = .s x → Fz K w.F v x := by
      intro z f ez
      cases z <;> first | (cases ez; exact f) | cases ez
    cases y with
    | d z => exact go r ex
    | own n =>
      obtain ⟨a, ha, ev⟩ := r
      subst ev
      unfold Gam.shp at ex
      simp only at ex
      cases hc : Γ.st[n]? with
      | none => rw [hc] at ex; cases ex; exact absurd rfl hx
      | some c =>
        rw [hc] at ex
        have k := S.cells n c a hc ha
        cases c with
        | fz z => exact go k ex
        | no => cases ex; exact absurd rfl hx
        | M kvs => cases ex
        | L xs => cases ex
        | T xs => cases ex
        | O C xs => cases ex
  split at e
  · rename_i h1
    split at e
    · rename_i z
      cases e
      cases z <;> first | (cases (show Fz K w.F v .non from r); rfl) | cases h1
    · cases e
  · rename_i c h1
    cases e
    cases sc h1 (fun z => by cases z)
    rfl
  · rename_i c h1
    cases e
    cases sc h1 (fun z => by cases z)
    rfl
  · rename_i c h1
    split at e
    · rename_i hl
      cases e
      cases sc h1 (fun z => by cases z)
      exact ⟨hl, rfl⟩
    · cases e
  · rename_i xs h1
    cases e
    obtain ⟨a, vs, rfl, h2, h3⟩ := S.shpL r h1
    exact .inl ⟨vs, .inl (.inl h2), (isEmpty_vr h3).symm⟩
  · rename_i xs h1
    cases e
    obtain ⟨a, vs, rfl, h2, h3⟩ := S.shpU r h1
    exact .inr (.inl ⟨vs, .inl (.inl h2), (isEmpty_vr h3).symm⟩)
  · rename_i xs h1
    split at e
    · rename_i hl
      cases e
      obtain ⟨a, kv, rfl, h2, h3, h4⟩ := S.shpMx hl r h1
      refine .inr (.inr ⟨kv, h2, ?_⟩)
      have := congrArg List.isEmpty h3
      rw [List.isEmpty_map, List.isEmpty_map] at this
      rw [this]
    · cases e
  · cases e
theorem t_tru (ha : PE3 X W a ra) (he : ∀ whole, isTrue a X.env whole = (do let v ← whole; standAt a.pos; holding [v] (truthy v)) := by intro _; rfl) : PT3 X W a (rTru ra) := by
  obtain ⟨ta, pa, sa⟩ := ha.ex
  refine ⟨_, pt_truth pa he, ⟨fun w H σ Γ Q k x S h hk hx => ?_⟩⟩
  refine sa.go w H σ Γ _ _ x S h (fun u w1 H1 y Γ1 h1 S1 r1 g1 => ?_) hx
  obtain ⟨b, e, h1⟩ := h1
  exact ⟨b, S1.tru r1 e, hk b w1 H1 Γ1 h1 S1 g1⟩
end

/-! ### argument lists -/
def raNil : RA := fun Γ k _ => k [] Γ
def raCons (re : RE) (ra : RA) : RA := fun Γ k x => re Γ (fun y Γ1 => ra Γ1 (fun ys Γ2 => k (y :: ys) Γ2) x) x
section
variable {K : PySem.W.Frag} {X : Cx} {W : WX} {te : TE} {re : RE} {ta : TA} {ra : RA} {e : Expr} {es : List Expr}
theorem sa_nil : SA K W tNil raNil := ⟨fun w H σ Γ Q k x S h hk _ => hk [] w H [] Γ h S .nil (Grow.refl _ _)⟩
theorem sa_cons (he : SE K W te re) (ha : SA K W ta ra) : SA K W (tCons te ta) (raCons re ra) := ⟨fun w H σ Γ Q k x S h hk hx => by
  refine he.go w H σ Γ _ _ x S h (fun u w1 H1 y Γ1 h1 S1 r1 g1 => ?_) hx
  exact ha.go w1 H1 σ Γ1 _ _ x S1 h1 (fun vs w2 H2 ys Γ2 h2 S2 r2 g2 => hk _ w2 H2 _ Γ2 h2 S2 (.cons (r1.grow g2) r2) (g1.trans g2)) (hx.grow g1)⟩
theorem a_nil : PA3 X W [] raNil := ⟨_, pa_nil, sa_nil⟩
theorem a_cons (he : PE3 X W e re) (ha : PA3 X W es ra) (hs : starEach (e :: es) X.env = (false, eval e X.env) :: starEach es X.env := by rfl) : PA3 X W (e :: es) (raCons re ra) := by
  obtain ⟨te, pe, se⟩ := he.ex
  obtain ⟨ta, pa, sa⟩ := ha.ex
  exact ⟨_, pa_cons pe pa hs, sa_cons se sa⟩
end
/-- e, es are plain: no star among them -/
structure Args1 (X : Cx) (pos : Pos) (e : Expr) (es : List Expr) : Prop where
  st : starEach (e :: es) X.env = (false, eval e X.env) :: starEach es X.env
  pl : (backTo pos (starEach es X.env)).any (·.1) = false

/-! ### freezing -/
mutual
def Gam.frz : Nat → Gam → Val → Option (D × Gam)
  | _, Γ, .d x => some (x, Γ)
  | 0, _, .own _ => none
  | f + 1, Γ, .own n => match Γ.st[n]? with
    | some (.fz x) => some (x, Γ)
    | some (.L xs) => match Gam.frzs f Γ xs with
      | some (ds, Γ1) => match Γ1.st[n]? with
        | some (.L _) => some (.lst ds, { Γ1 with st := Γ1.st.set n (.fz (.lst ds)) })
        | _ => none
      | none => none
    | some (.M kvs) => match Gam.frzs f Γ (kvs.map (·.2)) with
      | some (ds, Γ1) => match Γ1.st[n]? with
        | some (.M _) => some (.dct ((kvs.map (·.1)).zip ds), { Γ1 with st := Γ1.st.set n (.fz (.dct ((kvs.map (·.1)).zip ds))) })
        | _ => none
      | none => none
    | some (.T kvs) => match Gam.frzs f Γ (kvs.map (·.2)) with
      | some (ds, Γ1) => match Γ1.st[n]? with
        | some (.T _) => some (.dcT ((kvs.map (·.1)).zip ds), { Γ1 with st := Γ1.st.set n (.fz (.dcT ((kvs.map (·.1)).zip ds))) })
        | _ => none
      | none => none
    | some (.O C fs) => match Gam.frzs f Γ (fs.map (·.2)) with
      | some (ds, Γ1) => match Γ1.st[n]? with
        | some (.O _ _) => some (.obj C ((fs.map (·.1)).zip ds), { Γ1 with st := Γ1.st.set n (.fz (.obj C ((fs.map (·.1)).zip ds))) })
        | _ => none
      | none => none
    | _ => none
def Gam.frzs : Nat → Gam → List Val → Option (List D × Gam)
  | _, Γ, [] => some ([], Γ)
  | f, Γ, y :: r => match Gam.frz f Γ y with
    | some (x, Γ1) => match Gam.frzs f Γ1 r with
      | some (ds, Γ2) => some (x :: ds, Γ2)
      | none => none
    | none => none
end
section
variable {K : PySem.W.Frag} {H : Hp} {σ : L2.St}
theorem zip_fst {α β : Type} : ∀ {l : List α} {m : List β}, l.length = m.length → (l.zip m).map (·.1) = l
  | [], [], _ => rfl
  | a :: l, b :: m, h => by
    rw [List.zip_cons_cons, List.map_cons, zip_fst (by simpa using h)]
theorem zip_snd {α β : Type} : ∀ {l : List α} {m : List β}, l.length = m.length → (l.zip m).map (·.2) = m
  | [], [], _ => rfl
  | a :: l, b :: m, h => by
    rw [List.zip_cons_cons, List.map_cons, zip_snd (by simpa using h)]
theorem frzs_ok {f : Nat} (ih : ∀ (Γ Γ' : Gam) (y : Val) (x : D), Γ.frz f y = some (x, Γ') → ∀ (w : Wd) (v : V), Sta K w H σ Γ → VR K w v y → ∃ w', Sta K w' H σ Γ' ∧ Grow w H w' H ∧ Fz K w'.F v x) :
    ∀ (ys : List Val) (Γ Γ' : Gam) (ds : List D), Gam.frzs f Γ ys = some (ds, Γ') → ∀ (w : Wd), Sta K w H σ Γ → ∃ w', Sta K w' H σ Γ' ∧ Grow w H w' H ∧ ∀ vs, Paired (VR K w) vs ys → FzL K w'.F vs ds
  | [], Γ, Γ', ds, h, w, S => by
    rw [Gam.frzs] at h
    cases h
    exact ⟨w, S, Grow.refl _ _, fun vs p => by cases p; exact .nil⟩
  | y :: r, Γ, Γ', ds, h, w, S => by
    rw [Gam.frzs] at h
    split at h
    · rename_i x Γ1 h1
      split at h
      · rename_i ds' Γ2 h2
        cases h
        have key : ∃ w1, Sta K w1 H σ Γ1 ∧ Grow w H w1 H ∧ ∀ v, VR K w v y → Fz K w1.F v x := by
          cases y with
          | d z =>
            have e : Gam.frz f Γ (.d z) = some (z, Γ) := by cases f <;> rw [Gam.frz]
            rw [e] at h1
            cases h1
            exact ⟨w, S, Grow.refl _ _, fun v r => r⟩
          | own n =>
            by_cases hn : n < w.as.length
            · have ha : w.as[n]? = some w.as[n] := List.getElem?_eq_getElem hn
              obtain ⟨w1, S1, g1, z⟩ := ih Γ Γ1 (.own n) x h1 w (.ref w.as[n]) S ⟨_, ha, rfl⟩
              refine ⟨w1, S1, g1, fun v r => ?_⟩
              obtain ⟨a, e1, e2⟩ := r
              rw [ha] at e1
              cases e1
              rw [e2]
              exact z
            · exfalso
              have e : Γ.st[n]? = none := List.getElem?_eq_none_iff.mpr (by rw [← S.len]; omega)
              cases f with
              | zero => rw [Gam.frz] at h1; cases h1
              | succ f =>
                rw [Gam.frz, e] at h1
                cases h1
        obtain ⟨w1, S1, g1, k1⟩ := key
        obtain ⟨w2, S2, g2, k2⟩ := frzs_ok ih r Γ1 _ _ h2 w1 S1
        refine ⟨w2, S2, g1.trans g2, fun vs p => ?_⟩
        cases p with
        | cons r0 rr => exact .cons ((k1 _ r0).le g2.le) (k2 _ (vrs_grow g1 rr))
      · cases h
    · cases h
theorem as_grow {w w' : Wd} {H H' : Hp} (g : Grow w H w' H') {n : Nat} {a : Addr} (h : w.as[n]? = some a) : w'.as[n]? = some a := by
  obtain ⟨more, em⟩ := g.as
  rw [em, List.getElem?_append_left (List.getElem?_eq_some_iff.mp h).1]
  exact h
theorem frz_ok : ∀ (f : Nat) (Γ Γ' : Gam) (y : Val) (x : D), Γ.frz f y = some (x, Γ') → ∀ (w : Wd) (v : V), Sta K w H σ Γ → VR K w v y → ∃ w', Sta K w' H σ Γ' ∧ Grow w H w' H ∧ Fz K w'.F v x := by
  intro f
  induction f with
  | zero =>
    intro Γ Γ' y x h w v S r
    cases y with
    | d z =>
      rw [Gam.frz] at h
      cases h
      exact ⟨w, S, Grow.refl _ _, r⟩
    | own n => rw [Gam.frz] at h; cases h
  | succ f ih =>
    intro Γ Γ' y x h w v S r
    cases y with
    | d z =>
      rw [Gam.frz] at h
      cases h
      exact ⟨w, S, Grow.refl _ _, r⟩
    | own n =>
      obtain ⟨a, ha, rfl⟩ := r
      rw [Gam.frz] at h
      split at h
      · rename_i z hc
        cases h
        exact ⟨w, S, Grow.refl _ _, S.cells n _ a hc ha⟩
      · rename_i xs hc
        split at h
        · rename_i ds Γ1 h1
          split at h
          · rename_i ys hc1
            cases h
            obtain ⟨_, vs, e1, p⟩ := S.cells n _ a hc ha
            obtain ⟨w1, S1, g1, k⟩ := frzs_ok ih xs Γ Γ1 ds h1 w S
            have ha1 := as_grow g1 ha
            obtain ⟨hF, vs1, e2, _⟩ := S1.cells n _ a hc1 ha1
            obtain ⟨S2, g2⟩ := S1.freeze (x := .lst ds) ha1 hF e1 (.lst upd_same ((k vs p).le (upd_le hF)))
            exact ⟨_, S2, g1.trans g2, .lst upd_same ((k vs p).le (upd_le hF))⟩
          · cases h
        · cases h
      · rename_i kvs hc
        split at h
        · rename_i ds Γ1 h1
          split at h
          · rename_i ys hc1
            cases h
            obtain ⟨_, kv, e1, ek, p⟩ := S.cells n _ a hc ha
            obtain ⟨w1, S1, g1, k⟩ := frzs_ok ih _ Γ Γ1 ds h1 w S
            have ha1 := as_grow g1 ha
            obtain ⟨hF, vs1, e2, _⟩ := S1.cells n _ a hc1 ha1
            have kl := k _ p
            have hl : (kvs.map (·.1)).length = ds.length := by rw [← ek, ← kl.length, List.length_map, List.length_map]
            have z : Fz K (upd w1.F a (.dK kv)) (.ref a) (.dct ((kvs.map (·.1)).zip ds)) := .dct upd_same (by rw [zip_fst hl]; exact ek) (by rw [zip_snd hl]; exact kl.le (upd_le hF))
            obtain ⟨S2, g2⟩ := S1.freeze ha1 hF e1 z
            exact ⟨_, S2, g1.trans g2, z⟩
          · cases h
        · cases h
      · rename_i kvs hc
        split at h
        · rename_i ds Γ1 h1
          split at h
          · rename_i ys hc1
            cases h
            obtain ⟨_, kv, e1, ek, p⟩ := S.cells n _ a hc ha
            obtain ⟨w1, S1, g1, k⟩ := frzs_ok ih _ Γ Γ1 ds h1 w S
            have ha1 := as_grow g1 ha
            obtain ⟨hF, vs1, e2, _⟩ := S1.cells n _ a hc1 ha1
            have kl := k _ p
            have hl : (kvs.map (·.1)).length = ds.length := by rw [← ek, ← kl.length, List.length_map, List.length_map]
            have z : Fz K (upd w1.F a (.dT kv)) (.ref a) (.dcT ((kvs.map (·.1)).zip ds)) := .dcT upd_same (by rw [zip_fst hl]; exact ek) (by rw [zip_snd hl]; exact kl.le (upd_le hF))
            obtain ⟨S2, g2⟩ := S1.freeze ha1 hF e1 z
            exact ⟨_, S2, g1.trans g2, z⟩
          · cases h
        · cases h
      · rename_i C fs hc
        split at h
        · rename_i ds Γ1 h1
          split at h
          · rename_i C' ys hc1
            cases h
            obtain ⟨_, dx, kv, e1, ek, p⟩ := S.cells n _ a hc ha
            obtain ⟨w1, S1, g1, k⟩ := frzs_ok ih _ Γ Γ1 ds h1 w S
            have ha1 := as_grow g1 ha
            obtain ⟨hF, dx1, vs1, e2, _⟩ := S1.cells n _ a hc1 ha1
            have kl := k _ p
            have hl : (fs.map (·.1)).length = ds.length := by rw [← ek, ← kl.length, List.length_map, List.length_map]
            have z : Fz K (upd w1.F a (.ins C dx kv)) (.ref a) (.obj C ((fs.map (·.1)).zip ds)) := .obj upd_same (by rw [zip_fst hl]; exact ek) (by rw [zip_snd hl]; exact kl.le (upd_le hF))
            obtain ⟨S2, g2⟩ := S1.freeze ha1 hF e1 z
            exact ⟨_, S2, g1.trans g2, z⟩
          · cases h
        · cases h
      · cases h
end
/-- the value, frozen -/
def rFrz (re : RE) : RE := fun Γ k x => re Γ (fun y Γ1 => ∃ p, Γ1.frz 4 y = some p ∧ k (.d p.1) p.2) x
theorem w_frz {X : Cx} {W : WX} {e : Expr} {re : RE} (h : PE3 X W e re) : PE3 X W e (rFrz re) := by
  obtain ⟨te, pe, se⟩ := h.ex
  refine ⟨te, pe, ⟨fun w H σ Γ Q k x S h hk hx => ?_⟩⟩
  refine se.go w H σ Γ _ _ x S h (fun u w1 H1 y Γ1 h1 S1 r1 g1 => ?_) hx
  obtain ⟨⟨d, Γ2⟩, e, h1⟩ := h1
  obtain ⟨w2, S2, g2, z⟩ := frz_ok 4 Γ1 Γ2 y d e w1 u S1 r1
  exact hk u w2 H1 (.d d) Γ2 h1 S2 z (g1.trans g2)
/-- the arguments, all frozen -/
def rFrzA (ra : RA) : RA := fun Γ k x => ra Γ (fun ys Γ1 => ∃ p, Gam.frzs 4 Γ1 ys = some p ∧ k (p.1.map .d) p.2) x
end L3

namespace L3
open PySem L2 PyProof.Rows

/-! ### new objects -/
def dkvs {κ : Type} : List (κ × Val) → Option (List (κ × D))
  | [] => some []
  | (k, .d x) :: r => (dkvs r).map ((k, x) :: ·)
  | (_, .own _) :: _ => none
/-- a new cell, owned (o) or frozen at once -/
def Gam.put (o : Bool) (c : Cell) (Γ : Gam) (k : KE3) : Prop := match o with
  | true => k (.own Γ.st.length) { Γ with st := Γ.st ++ [c] }
  | false => ∃ d, c.dv = some d ∧ k (.d d) Γ
section
variable {K : PySem.W.Frag} {w w' : Wd} {H H' : Hp} {σ : L2.St} {Γ : Gam} {Q : VK} {k : KE3}
/-- a new list -/
theorem Sta.putL (S : Sta K w H σ Γ) {o : Bool} {p : Addr} {vs : List V} {xs : List Val} (hp : H p = none) (hv : Paired (VR K w) vs xs) (h : Γ.put o (.L xs) k)
    (hk : ∀ v w' H' y Γ', k y Γ' → Sta K w' H' σ Γ' → VR K w' v y → Grow w H w' H' → Q v H') : Q (.ref p) (upd H p (.lst vs)) := by
  cases o with
  | true =>
    have hF := S.Fnone hp
    have g0 : Grow w H { w with as := w.as ++ [p] } H := ⟨fun _ _ h => h, ⟨[p], rfl⟩, rfl, fun _ _ h _ => h, fun a h => by
      rcases inApp h with h | h
      · exact .inl h
      · rw [List.mem_singleton.mp h]; exact .inr hp, fun _ h => .inl h⟩
    obtain ⟨S1, g1⟩ := S.newO (o := .lst vs) (c := .L xs) hp ⟨hF, vs, upd_same, vrs_grow g0 hv⟩
    exact hk _ _ _ _ _ h S1 ⟨p, S.newOR p, rfl⟩ g1
  | false =>
    obtain ⟨d, e, h⟩ := h
    obtain ⟨ds, e1, rfl⟩ := Option.map_eq_some_iff.mp (show (dvals xs).map D.lst = some d from e)
    rw [dvals_eq e1] at hv
    obtain ⟨S1, g1⟩ := S.newF (o := .lst vs) hp
    exact hk _ _ _ _ Γ h S1 (Fz.lst upd_same ((FzL.of_vr hv).le g1.le)) g1
theorem Sta.putM0 (S : Sta K w H σ Γ) {p : Addr} (hp : H p = none) (h : k (.own Γ.st.length) { Γ with st := Γ.st ++ [.M []] })
    (hk : ∀ v w' H' y Γ', k y Γ' → Sta K w' H' σ Γ' → VR K w' v y → Grow w H w' H' → Q v H') : Q (.ref p) (upd H p (.dK [])) := by
  obtain ⟨S1, g1⟩ := S.newO (o := .dK []) (c := .M []) hp ⟨S.Fnone hp, [], upd_same, rfl, .nil⟩
  exact hk _ _ _ _ _ h S1 ⟨p, S.newOR p, rfl⟩ g1
theorem Sta.putT0 (S : Sta K w H σ Γ) {p : Addr} (hp : H p = none) (h : k (.own Γ.st.length) { Γ with st := Γ.st ++ [.T []] })
    (hk : ∀ v w' H' y Γ', k y Γ' → Sta K w' H' σ Γ' → VR K w' v y → Grow w H w' H' → Q v H') : Q (.ref p) (upd H p (.dT [])) := by
  obtain ⟨S1, g1⟩ := S.newO (o := .dT []) (c := .T []) hp ⟨S.Fnone hp, [], upd_same, rfl, .nil⟩
  exact hk _ _ _ _ _ h S1 ⟨p, S.newOR p, rfl⟩ g1
end
def rLst (o : Bool) (ra : RA) : RE := fun Γ k x => ra Γ (fun ys Γ1 => ys.length ≤ sizeLine ∧ Γ1.put o (.L ys) k) x
def rTup (ra : RA) : RE := fun Γ k x => ra Γ (fun ys Γ1 => ys.length ≤ sizeLine ∧ ∃ ds, dvals ys = some ds ∧ k (.d (.tup ds)) Γ1) x
def rDnewK : RE := fun Γ k _ => k (.own Γ.st.length) { Γ with st := Γ.st ++ [.M []] }
def rDnewT : RE := fun Γ k _ => k (.own Γ.st.length) { Γ with st := Γ.st ++ [.T []] }
section
variable {K : PySem.W.Frag} {X : Cx} {W : WX} {ta : TA} {ra : RA} {es : List Expr} {pos : Pos} {a b e : Expr} {re rb : RE}
theorem vrs_length {w : Wd} {vs : List V} {xs : List Val} (p : Paired (VR K w) vs xs) : vs.length = xs.length := Paired.length p
theorem w_lst (o : Bool) (h : PA3 X W es ra) : PE3 X W (.List es pos) (rLst o ra) := by
  obtain ⟨ta, pa, sa⟩ := h.ex
  refine ⟨_, pe_lst pa, ⟨fun w H σ Γ Q k x S h hk hx => ?_⟩⟩
  refine sa.go w H σ Γ _ _ x S h (fun vs w1 H1 ys Γ1 h1 S1 r1 g1 => ?_) hx
  obtain ⟨hl, h1⟩ := h1
  exact ⟨by rw [vrs_length r1]; exact hl, fun p hp => S1.putL hp r1 h1 fun v w' H' y Γ' h S r g => hk v w' H' y Γ' h S r (g1.trans g)⟩
theorem w_tup {x1} (h : PA3 X W es ra) : PE3 X W (.Tuple es x1 pos) (rTup ra) := by
  obtain ⟨ta, pa, sa⟩ := h.ex
  refine ⟨_, pe_tup pa, ⟨fun w H σ Γ Q k x S h hk hx => ?_⟩⟩
  refine sa.go w H σ Γ _ _ x S h (fun vs w1 H1 ys Γ1 h1 S1 r1 g1 => ?_) hx
  obtain ⟨hl, ds, e, h1⟩ := h1
  refine ⟨by rw [vrs_length r1]; exact hl, fun p hp => ?_⟩
  rw [dvals_eq e] at r1
  obtain ⟨S2, g2⟩ := S1.newF (o := .tup vs) hp
  exact hk _ _ _ _ Γ1 h1 S2 (Fz.tup upd_same ((FzL.of_vr r1).le g2.le)) (g1.trans g2)
theorem w_dnewK : PE3 X W (.Dict [] [] pos) rDnewK := ⟨_, pe_dnewK, ⟨fun w H σ Γ Q k x S h hk hx p hp => S.putM0 hp h hk⟩⟩
theorem w_dnewT : PE3 X W (.Dict [] [] pos) rDnewT := ⟨_, pe_dnewT, ⟨fun w H σ Γ Q k x S h hk hx p hp => S.putT0 hp h hk⟩⟩
end

/-! ### subscripts -/
/-- y[z]: a list's or tuple's item, a text's sign, what a dict holds -/
def Gam.item (Γ : Gam) (y z : Val) (q : Val) : Prop :=
  (∃ xs i, (Γ.shp y = .L xs ∨ Γ.shp y = .U xs) ∧ z = .d (.int i) ∧ atI xs i = some q) ∨
  (∃ s i c, y = .d (.str s) ∧ z = .d (.int i) ∧ s.length ≤ sizeLine ∧ atI s.cps.toList i = some c ∧ q = .d (.str ⟨#[c]⟩)) ∨
  Γ.dget y z = some (some q) ∨
  ∃ ns i n, y = .d (.scr ns) ∧ z = .d (.int i) ∧ atI ns i = some n ∧ q = .d (.int n)
theorem atI_map {α β : Type} {f : α → β} {xs : List α} {i : Int} {x : α} (h : atI xs i = some x) : atI (xs.map f) i = some (f x) := by
  unfold atI at h ⊢
  rw [List.length_map]
  cases e : ixN _ i with
  | none => simp [e] at h
  | some j =>
    rw [e] at h
    have h' : xs[j]? = some x := h
    show (xs.map f)[j]? = some (f x)
    rw [List.getElem?_map, h']
    rfl
def rIx3 : Val → Val → Gam → KE3 → Prop := fun y z Γ k => ∃ q, Γ.item y z q ∧ k q Γ
section
variable {K : PySem.W.Frag} {X : Cx} {W : WX} {a b e : Expr} {ra rb re : RE} {pos : Pos}
theorem atI_vr {w : Wd} {vs : List V} {xs : List Val} (p : Paired (VR K w) vs xs) {i : Int} {q : Val} (h : atI xs i = some q) : ∃ v, atI vs i = some v ∧ VR K w v q := by
  unfold atI at h ⊢
  rw [vrs_length p]
  cases e : ixN _ i with
  | none => simp [e] at h
  | some j =>
    rw [e] at h
    have h' : xs[j]? = some q := h
    have key : ∀ {vs : List V} {xs : List Val}, Paired (VR K w) vs xs → ∀ (j : Nat), xs[j]? = some q → ∃ v, vs[j]? = some v ∧ VR K w v q := by
      intro vs xs p
      induction p with
      | nil => intro j h; simp at h
      | cons r _ ih =>
        intro j h
        cases j with
        | zero => simp at h; subst h; exact ⟨_, rfl, r⟩
        | succ j => simpa using ih j (by simpa using h)
    exact key p j h'
theorem ix_dict (hu : X.A.units + 1 < cLine) : IxR X (fun x y H Q => ∃ a v, x = .ref a ∧ DGet H a y (some v) ∧ Q v H) := by
  rintro _ _ _ s _ H _ y _ _ Q I rx ry ⟨a, z, rfl, g, q⟩ hs
  cases rx
  exact tail_any (dict_typeIs I g) PySem.F.slot_dict_getitem.lookup (d_getItem hu I g ry fun w' s' I' rw' => ⟨z, H, I', rw', q⟩) hs
theorem w_ix (c : Good X W) (ha : PE3 X W a ra) (hb : PE3 X W b rb) (hs : PlainIx b := by intro _ _; rfl) : PE3 X W (.Subscript a b pos) (rOp rIx3 ra rb) := by
  obtain ⟨ta, pa, sa⟩ := ha.ex
  obtain ⟨tb, pb, sb⟩ := hb.ex
  refine ⟨_, pe_ix (ix_seq.or (ix_dict (by have := c.un; omega))) pa pb hs, se_op ⟨fun w H σ Γ Q k u v y z S r1 r2 h hk => ?_⟩ sa sb⟩
  obtain ⟨q, h, hq⟩ := h
  rcases h with ⟨xs, i, h, rfl, e⟩ | ⟨s, i, c, rfl, rfl, hl, e, rfl⟩ | h | ⟨ns, i, n, rfl, rfl, e, rfl⟩
  · cases (show Fz _ w.F v (.int i) from r2)
    rcases h with h | h
    · obtain ⟨p, vs, rfl, h1, h2⟩ := S.shpL r1 h
      obtain ⟨vq, e1, rq⟩ := atI_vr h2 e
      exact .inl (.inl ⟨p, vs, i, vq, rfl, rfl, .inl (.inl h1), e1, hk vq w H q Γ hq S rq (Grow.refl _ _)⟩)
    · obtain ⟨p, vs, rfl, h1, h2⟩ := S.shpU r1 h
      obtain ⟨vq, e1, rq⟩ := atI_vr h2 e
      exact .inl (.inr (.inl ⟨p, vs, i, vq, rfl, rfl, .inl (.inl h1), e1, hk vq w H q Γ hq S rq (Grow.refl _ _)⟩))
  · cases (show Fz _ w.F v (.int i) from r2)
    cases (show Fz _ w.F u (.str s) from r1)
    exact .inl (.inr (.inr ⟨s, i, c, rfl, rfl, hl, e, hk _ w H _ Γ hq S (Fz.str _) (Grow.refl _ _)⟩))
  · obtain ⟨p, o', rfl, g, ho⟩ := S.dget r1 r2 h
    rcases ho with ⟨z, _⟩ | ⟨x, vx, e1, rfl, rq⟩
    · cases z
    · cases e1
      exact .inr ⟨p, vx, rfl, g, hk vx w H q Γ hq S rq (Grow.refl _ _)⟩
  · cases (show Fz _ w.F v (.int i) from r2)
    cases (show Fz _ w.F u (.scr ns) from r1) with
    | scr s => exact .inl (.inl ⟨_, _, i, .int n, rfl, rfl, S.sub.sql s, atI_map e, hk _ w H _ Γ hq S (Fz.int _) (Grow.refl _ _)⟩)
end

/-! ### calls of built-ins, by values -/
structure SC3 (K : PySem.W.Frag) (r : List V → Hp → VK → Prop) (rr : List Val → Gam → KE3 → Prop) : Prop where
  go : ∀ (w : Wd) (H : Hp) (σ : L2.St) (Γ : Gam) (Q : VK) (k : KE3) (us : List V) (ys : List Val), Sta K w H σ Γ → Paired (VR K w) us ys → rr ys Γ k →
    (∀ v w' H' y Γ', k y Γ' → Sta K w' H' σ Γ' → VR K w' v y → Grow w H w' H' → Q v H') → r us H Q
structure Call3 (X : Cx) (f : Value) (rr : List Val → Gam → KE3 → Prop) : Prop where
  ex : ∃ r, CallR X f r ∧ SC3 X.K r rr
structure SM3 (K : PySem.W.Frag) (r : V → List V → Hp → VK → Prop) (rr : Val → List Val → Gam → KE3 → Prop) : Prop where
  go : ∀ (w : Wd) (H : Hp) (σ : L2.St) (Γ : Gam) (Q : VK) (k : KE3) (u : V) (y : Val) (us : List V) (ys : List Val), Sta K w H σ Γ → VR K w u y → Paired (VR K w) us ys → rr y ys Γ k →
    (∀ v w' H' y Γ', k y Γ' → Sta K w' H' σ Γ' → VR K w' v y → Grow w H w' H' → Q v H') → r u us H Q
structure Mt3 (X : Cx) (id : String) (rr : Val → List Val → Gam → KE3 → Prop) : Prop where
  ex : ∃ r, MtR X id r ∧ SM3 X.K r rr
def rCB (rr : List Val → Gam → KE3 → Prop) (ra : RA) : RE := fun Γ k x => ra Γ (fun ys Γ1 => rr ys Γ1 k) x
/-- the value is of that built-in type -/
def Gam.isT (Γ : Gam) (T : String) (y : Val) : Prop := match Γ.shp y with
  | .L _ => T = "list"
  | .M _ => T = "dict" ∧ Γ.lk = false
  | .T _ => T = "dict" ∧ Γ.lk = false
  | _ => match y with
    | .d (.str _) => T = "str"
    | .d (.int _) => T = "int"
    | _ => False
def rBM (T : String) (rr : Val → List Val → Gam → KE3 → Prop) (ro : RE) (ra : RA) : RE := fun Γ k x => ro Γ (fun y Γ1 => Γ1.isT T y ∧ ra Γ1 (fun ys Γ2 => rr y ys Γ2 k) x) x
section
variable {K : PySem.W.Frag} {X : Cx} {W : WX} {ta : TA} {ra : RA} {es : List Expr} {pos p apos cpos : Pos} {a b e o : Expr} {re rb ro : RE} {x name : Str} {id T : String} {rr : List Val → Gam → KE3 → Prop} {rm : Val → List Val → Gam → KE3 → Prop}
theorem w_callB (hc : Call3 X (.builtin id) rr) (hg : Gl X x) (hm : X.mg x = none) (hv : bootBuiltins x = some (.builtin id)) (ha : PA3 X W (e :: es) ra) (hn : x ≠ "__name__" := by decide) (hdb : (x == ("__debug__" : Str)) = false := by decide)
    (hA : Args1 X pos e es := by exact ⟨rfl, rfl⟩) : PE3 X W (.Call (.Name x p) (e :: es) [] pos) (rCB rr ra) := by
  obtain ⟨r, h1, h2⟩ := hc.ex
  obtain ⟨ta, pa, sa⟩ := ha.ex
  refine ⟨_, pe_callB h1 hg hm hv pa hn hdb hA.st hA.pl, ⟨fun w H σ Γ Q k x S h hk hx => ?_⟩⟩
  refine sa.go w H σ Γ _ _ x S h (fun vs w1 H1 ys Γ1 h1 S1 r1 g1 => ?_) hx
  exact h2.go w1 H1 σ Γ1 Q k vs ys S1 r1 h1 fun v w' H' y Γ' h S r g => hk v w' H' y Γ' h S r (g1.trans g)
theorem w_callTy (hc : Call3 X (.type T) rr) (hg : Gl X x) (hm : X.mg x = none) (hv : bootBuiltins x = some (.type T)) (ha : PA3 X W (e :: es) ra) (hn : x ≠ "__name__" := by decide) (hdb : (x == ("__debug__" : Str)) = false := by decide)
    (hA : Args1 X pos e es := by exact ⟨rfl, rfl⟩) : PE3 X W (.Call (.Name x p) (e :: es) [] pos) (rCB rr ra) := by
  obtain ⟨r, h1, h2⟩ := hc.ex
  obtain ⟨ta, pa, sa⟩ := ha.ex
  refine ⟨_, pe_callTy h1 hg hm hv pa hn hdb hA.st hA.pl, ⟨fun w H σ Γ Q k x S h hk hx => ?_⟩⟩
  refine sa.go w H σ Γ _ _ x S h (fun vs w1 H1 ys Γ1 h1 S1 r1 g1 => ?_) hx
  exact h2.go w1 H1 σ Γ1 Q k vs ys S1 r1 h1 fun v w' H' y Γ' h S r g => hk v w' H' y Γ' h S r (g1.trans g)
theorem Sta.shpTx {w : Wd} {H : Hp} {σ : L2.St} {Γ : Gam} {v : V} (S : Sta K w H σ Γ) (hl : Γ.lk = false) : ∀ {y : Val} (r : VR K w v y) {xs : List (List Key × Val)} (e : Γ.shp y = .T xs), ∃ a kv, v = .ref a ∧ H a = some (.dT kv) ∧ kv.map (·.1) = xs.map (·.1) ∧ Paired (VR K w) (kv.map (·.2)) (xs.map (·.2)) := by
  intro y r xs e
  have hlk : ∀ a, a ∉ w.lks := fun a m => by have m : a ∈ w.lks.l := m; rw [S.lkd hl] at m; cases m
  have go : ∀ {x : D}, Fz K w.F v x → x.shp = .T xs → ∃ a kv, v = .ref a ∧ H a = some (.dT kv) ∧ kv.map (·.1) = xs.map (·.1) ∧ Paired (VR K w) (kv.map (·.2)) (xs.map (·.2)) := by
    intro x f ex
    cases x with
    | dcT kvs =>
      cases f with
      | dcT h e1 l =>
        cases ex
        exact ⟨_, _, rfl, S.sub.ex _ _ h (hlk _), by rw [snd_fst]; exact e1, by rw [snd_snd]; exact l.vr⟩
    | _ => cases ex
  cases y with
  | d x => exact go r e
  | own n =>
    obtain ⟨a, ha, ev⟩ := r
    subst ev
    unfold Gam.shp at e
    simp only at e
    cases hc : Γ.st[n]? with
    | none => rw [hc] at e; cases e
    | some c =>
      rw [hc] at e
      have k := S.cells n c a hc ha
      cases c with
      | T kvs =>
        cases e
        obtain ⟨_, kv, h1, e1, h2⟩ := k
        exact ⟨a, kv, rfl, h1, e1, h2⟩
      | fz x => exact go k e
      | L xs => cases e
      | M xs => cases e
      | O C xs => cases e
      | no => cases e
theorem Sta.isT {w : Wd} {H : Hp} {σ : L2.St} {Γ : Gam} {v : V} {y : Val} (S : Sta K w H σ Γ) (r : VR K w v y) (h : Γ.isT T y) : tyV K T v H := by
  unfold Gam.isT at h
  split at h
  · rename_i xs e
    obtain ⟨a, vs, rfl, h1, _⟩ := S.shpL r e
    exact .inl ⟨h, vs, .inl (.inl h1)⟩
  · rename_i xs e
    obtain ⟨a, kv, rfl, h1, _⟩ := S.shpMx h.2 r e
    exact .inr (.inr (.inl ⟨h.1, .inl ⟨kv, h1⟩⟩))
  · rename_i xs e
    obtain ⟨a, kv, rfl, h1, _⟩ := S.shpTx h.2 r e
    exact .inr (.inr (.inl ⟨h.1, .inr ⟨kv, h1⟩⟩))
  · split at h
    · cases (show Fz K w.F v (.str _) from r)
      exact h
    · cases (show Fz K w.F v (.int _) from r)
      exact h
    · exact h.elim
theorem w_bm (pa : PlainAttrs T) (slot : Slot T name id) (hty : typeOf (.builtin id) = pure (.type "method_descriptor")) (hm : Mt3 X id rm) (ho : PE3 X W o ro) (ha : PA3 X W (e :: es) ra)
    (rule : ∀ {r : V → List V → Hp → VK → Prop} {to : TE} {ta : TA}, PlainAttrs T → Slot T name id → typeOf (.builtin id) = pure (.type "method_descriptor") → MtR X id r → PE X o to → PA X (e :: es) ta → PE X (.Call (.Attribute o name apos) (e :: es) [] cpos) (tBM X.K T r to ta) := by intro _ _ _ z1 z2 z3 z4 z5 z6; exact pe_bm z1 z2 z3 z4 z5 z6) :
    PE3 X W (.Call (.Attribute o name apos) (e :: es) [] cpos) (rBM T rm ro ra) := by
  obtain ⟨r, h1, h2⟩ := hm.ex
  obtain ⟨to, po, so⟩ := ho.ex
  obtain ⟨ta, pa', sa⟩ := ha.ex
  refine ⟨_, rule pa slot hty h1 po pa', ⟨fun w H σ Γ Q k x S h hk hx => ?_⟩⟩
  refine so.go w H σ Γ _ _ x S h (fun u w1 H1 y Γ1 h1 S1 r1 g1 => ?_) hx
  obtain ⟨ht, h1⟩ := h1
  refine ⟨S1.isT r1 ht, sa.go w1 H1 σ Γ1 _ _ x S1 h1 (fun vs w2 H2 ys Γ2 h3 S2 r2 g2 => ?_) (hx.grow g1)⟩
  exact h2.go w2 H2 σ Γ2 Q k u y vs ys S2 (r1.grow g2) r2 h3 fun v w' H' y Γ' h S r g => hk v w' H' y Γ' h S r ((g1.trans g2).trans g)
theorem w_bm0 (pa : PlainAttrs T) (slot : Slot T name id) (hty : typeOf (.builtin id) = pure (.type "method_descriptor")) (hm : Mt3 X id rm) (ho : PE3 X W o ro)
    (hbase : attributeBase o name X.env (eval o X.env) = eval o X.env := by rfl) (hline : (apos.endLine == cpos.line) = true := by rfl) : PE3 X W (.Call (.Attribute o name apos) [] [] cpos) (rBM T rm ro raNil) := by
  obtain ⟨r, h1, h2⟩ := hm.ex
  obtain ⟨to, po, so⟩ := ho.ex
  refine ⟨_, pe_bm0 pa slot hty h1 po hbase hline, ⟨fun w H σ Γ Q k x S h hk hx => ?_⟩⟩
  refine so.go w H σ Γ _ _ x S h (fun u w1 H1 y Γ1 h1 S1 r1 g1 => ?_) hx
  obtain ⟨ht, h1⟩ := h1
  exact ⟨S1.isT r1 ht, h2.go w1 H1 σ Γ1 Q k u y [] [] S1 r1 .nil h1 fun v w' H' y Γ' h S r g => hk v w' H' y Γ' h S r (g1.trans g)⟩
end
end L3

namespace L3
open PySem L2 PyProof.Rows

structure GoodS (X : Cx) (W : WX) : Prop extends Good X W where
  ps : PassesOwn (model X.prog X.w) X.A X.env X.xe

/-! ### targets -/
abbrev RG := Val → Gam → (Gam → Prop) → XC → Prop
abbrev RGs := List Val → Gam → (Gam → Prop) → XC → Prop
structure SG (K : PySem.W.Frag) (W : WX) (g : TG) (rg : RG) : Prop where
  go : ∀ (w : Wd) (H : Hp) (σ : L2.St) (Γ : Gam) (v : V) (y : Val) (Q : L2.St → Hp → Prop) (k : Gam → Prop) (x : XC), Sta K w H σ Γ → VR K w v y → rg y Γ k x →
    (∀ w' H' σ' Γ', k Γ' → Sta K w' H' σ' Γ' → Grow w H w' H' → Q σ' H') → (∀ σ', BrX K W w H σ' x) → g v σ H Q
structure SGs (K : PySem.W.Frag) (W : WX) (g : TGs) (rg : RGs) : Prop where
  go : ∀ (w : Wd) (H : Hp) (σ : L2.St) (Γ : Gam) (vs : List V) (ys : List Val) (Q : L2.St → Hp → Prop) (k : Gam → Prop) (x : XC), Sta K w H σ Γ → Paired (VR K w) vs ys → rg ys Γ k x →
    (∀ w' H' σ' Γ', k Γ' → Sta K w' H' σ' Γ' → Grow w H w' H' → Q σ' H') → (∀ σ', BrX K W w H σ' x) → g vs σ H Q
structure PG3 (X : Cx) (W : WX) (tg : Expr) (rg : RG) : Prop where
  ex : ∃ g, PG X tg g ∧ SG X.K W g rg
structure PGs3 (X : Cx) (W : WX) (tg : List Expr) (rg : RGs) : Prop where
  ex : ∃ g, PGs X tg g ∧ SGs X.K W g rg
def rgName (i : Nat) : RG := fun y Γ k _ => k { Γ with sl := Γ.sl.set i (some y) }
def rgNil : RGs := fun ys Γ k _ => ys = [] ∧ k Γ
def rgCons (rg : RG) (rgs : RGs) : RGs := fun ys Γ k x => ∃ y r, ys = y :: r ∧ rg y Γ (fun Γ1 => rgs r Γ1 k x) x
def rgTup (n : Nat) (rgs : RGs) : RG := fun y Γ k x => ∃ ys, Γ.shp y = .U ys ∧ ys.length = n ∧ rgs ys Γ k x
section
variable {K : PySem.W.Frag} {X : Cx} {W : WX} {pos : Pos} {g : TG} {gs : TGs} {rg : RG} {rgs : RGs} {e : Expr} {es : List Expr}
theorem sg_name (i : Nat) : SG K W (gName i) (rgName i) := ⟨fun w H σ Γ v y Q k x S r h hk _ => hk w H _ _ h (S.set r) (Grow.refl _ _)⟩
theorem g_name (c : Good X W) (i : Nat) {x : Str} (hi : X.N[i]? = some x := by rfl) (hx : Loc X.env.scope x := by first | exact .inl rfl | exact .inr rfl) (hf : X.fn x = true ∨ X.env.scope.names.lookup x = some .local := by first | exact .inl rfl | exact .inr rfl | assumption) :
    PG3 X W (.Name x pos) (rgName i) := ⟨_, pg_name c.nd hi hx hf, sg_name i⟩
theorem gs_nil : PGs3 X W [] rgNil := ⟨_, pgs_nil, ⟨fun w H σ Γ vs ys Q k x S r h hk _ => by
  obtain ⟨rfl, h⟩ := h
  cases r
  exact ⟨rfl, hk w H σ Γ h S (Grow.refl _ _)⟩⟩⟩
theorem gs_cons (h1 : PG3 X W e rg) (h2 : PGs3 X W es rgs) (hs : (assignEach (e :: es) X.env).map (·.2) = assign e X.env :: (assignEach es X.env).map (·.2) := by rfl) : PGs3 X W (e :: es) (rgCons rg rgs) := by
  obtain ⟨g, p1, s1⟩ := h1.ex
  obtain ⟨gs, p2, s2⟩ := h2.ex
  refine ⟨_, pgs_cons p1 p2 hs, ⟨fun w H σ Γ vs ys Q k x S r h hk hx => ?_⟩⟩
  obtain ⟨y, ry, rfl, h⟩ := h
  cases r with
  | cons r0 rr =>
    refine ⟨_, _, rfl, s1.go w H σ Γ _ y _ _ x S r0 h (fun w1 H1 σ1 Γ1 h1 S1 g1 => ?_) hx⟩
    exact s2.go w1 H1 σ1 Γ1 _ _ Q k x S1 (vrs_grow g1 rr) h1 (fun w' H' σ' Γ' a b c => hk w' H' σ' Γ' a b (g1.trans c)) fun σ' => (hx σ').grow g1
theorem g_tup {k : Nat} {n : Nat} (c : Good X W) (h : PGs3 X W es rgs) (hn : (assignEach es X.env).length = n := by rfl) (hst : (assignEach es X.env).findIdx? (·.1) = none := by rfl) : PG3 X W (.Tuple es k pos) (rgTup n rgs) := by
  obtain ⟨gs, p, s⟩ := h.ex
  refine ⟨_, pg_tup c.calm p hn hst, ⟨fun w H σ Γ v y Q k x S r h hk hx => ?_⟩⟩
  obtain ⟨ys, e, hl, h⟩ := h
  obtain ⟨a, vs, rfl, h1, h2⟩ := S.shpU r e
  exact ⟨a, vs, rfl, .inl (.inl h1), by rw [vrs_length h2]; exact hl, s.go w H σ Γ vs ys Q k x S h2 h hk hx⟩
end

/-! ### o[i] = v -/
def putD {κ : Type} [DecidableEq κ] (kvs : List (κ × Val)) (k : κ) (y : Val) : List (κ × Val) :=
  if (kvs.any fun p => decide (p.1 = k)) = true then kvs.map fun p => if p.1 = k then (p.1, y) else p else kvs ++ [(k, y)]
theorem putD_vr {K : PySem.W.Frag} {w : Wd} {κ : Type} [DecidableEq κ] {k : κ} {v : V} {y : Val} (r : VR K w v y) {kv : List (κ × V)} {xs : List (κ × Val)} (e : kv.map (·.1) = xs.map (·.1)) (p : Paired (VR K w) (kv.map (·.2)) (xs.map (·.2))) :
    (putK kv k v).map (·.1) = (putD xs k y).map (·.1) ∧ Paired (VR K w) ((putK kv k v).map (·.2)) ((putD xs k y).map (·.2)) := by
  have ea : (kv.any fun p => decide (p.1 = k)) = xs.any fun p => decide (p.1 = k) := by
    have h1 : (kv.any fun p => decide (p.1 = k)) = (kv.map (·.1)).any fun q => decide (q = k) := by rw [List.any_map]; rfl
    have h2 : (xs.any fun p => decide (p.1 = k)) = (xs.map (·.1)).any fun q => decide (q = k) := by rw [List.any_map]; rfl
    rw [h1, h2, e]
  unfold putK putD
  rw [ea]
  split
  · rename_i hh
    clear hh ea
    induction kv generalizing xs with
    | nil =>
      cases xs with
      | nil => exact ⟨rfl, .nil⟩
      | cons x xs => cases e
    | cons q kv ih =>
      cases xs with
      | nil => cases e
      | cons x xs =>
        simp only [List.map_cons] at e p
        injection e with e1 e2
        cases p with
        | cons p1 p2 =>
          have := ih e2 p2
          rw [List.map_cons, List.map_cons, List.map_cons, List.map_cons, List.map_cons, List.map_cons]
          have e1' : q.1 = x.1 := e1
          by_cases c : q.1 = k
          · have c' : x.1 = k := e1'.symm.trans c
            rw [if_pos c, if_pos c']
            exact ⟨by rw [this.1]; exact congrArg (· :: _) e1', .cons r this.2⟩
          · have c' : ¬ x.1 = k := fun z => c (e1'.trans z)
            rw [if_neg c, if_neg c']
            exact ⟨by rw [this.1]; exact congrArg (· :: _) e1', .cons p1 this.2⟩
  · rw [List.map_append, List.map_append, List.map_append, List.map_append, e]
    refine ⟨rfl, ?_⟩
    have snoc : ∀ {vs : List V} {ys : List Val}, Paired (VR K w) vs ys → Paired (VR K w) (vs ++ [v]) (ys ++ [y]) := fun h => Paired.snoc h r
    exact snoc p

def rSt3 : Val → Val → Val → Gam → (Gam → Prop) → Prop := fun o i y Γ k => ∃ n, o = .own n ∧
  ((∃ xs z j, Γ.st[n]? = some (.L xs) ∧ i = .d (.int z) ∧ ixN xs.length z = some j ∧ k { Γ with st := Γ.st.set n (.L (xs.set j y)) }) ∨
   (∃ kvs x q, Γ.st[n]? = some (.M kvs) ∧ i = .d x ∧ x.key = some q ∧ kvs.length < sizeLine ∧ k { Γ with st := Γ.st.set n (.M (putD kvs q y)) }) ∨
   ∃ kvs xs q, Γ.st[n]? = some (.T kvs) ∧ i = .d (.tup xs) ∧ D.keys xs = some q ∧ kvs.length < sizeLine ∧ k { Γ with st := Γ.st.set n (.T (putD kvs q y)) })
structure SSt (K : PySem.W.Frag) (t : TSet) (rr : Val → Val → Val → Gam → (Gam → Prop) → Prop) : Prop where
  go : ∀ (w : Wd) (H : Hp) (σ : L2.St) (Γ : Gam) (Q : Hp → Prop) (k : Gam → Prop) (u v r : V) (y z q : Val), Sta K w H σ Γ → VR K w u y → VR K w v z → VR K w r q → rr y z q Γ k →
    (∀ w' H' Γ', k Γ' → Sta K w' H' σ Γ' → Grow w H w' H' → Q H') → t u v r H Q
theorem PSet.or {X : Cx} {t t' : TSet} (h : PSet X t) (h' : PSet X t') : PSet X (fun o i v H Q => t o i v H Q ∨ t' o i v H Q) := by
  intro pins s σ H o i v ov iv u Q I r1 r2 r3 q
  rcases q with q | q
  · exact h pins s σ H o i v ov iv u Q I r1 r2 r3 q
  · exact h' pins s σ H o i v ov iv u Q I r1 r2 r3 q
theorem set_dict {X : Cx} (hu : X.A.units + 1 < cLine) : PSet X (fun o i v H Q => ∃ a H', o = .ref a ∧ DPut H a i v H' ∧ Q H') := by
  intro pins s σ H o i v ov iv u Q I r1 r2 r3 h
  obtain ⟨a, H', rfl, g, q⟩ := h
  cases r1
  exact d_setItem hu I g r2 r3 fun s' I' => ⟨H', I', q⟩
theorem set_vr {K : PySem.W.Frag} {w : Wd} {v : V} {y : Val} (r : VR K w v y) : ∀ {vs : List V} {xs : List Val} (j : Nat), Paired (VR K w) vs xs → Paired (VR K w) (vs.set j v) (xs.set j y)
  | _, _, _, .nil => .nil
  | _ :: _, _ :: _, 0, .cons _ l => .cons r l
  | _, _, j + 1, .cons a t => .cons a (set_vr r j t)
theorem set_any {X : Cx} {W : WX} (c : Good X W) : ∃ t, PSet X t ∧ SSt X.K t rSt3 := ⟨_, PSet.or set_list (set_dict (by have := c.un; omega)), ⟨fun w H σ Γ Q k u v r y z q S r1 r2 r3 h hk => by
  obtain ⟨n, rfl, h⟩ := h
  obtain ⟨a, ha, rfl⟩ := r1
  rcases h with ⟨xs, i, j, hc, rfl, e, h⟩ | ⟨kvs, x, kk, hc, rfl, e, hl, h⟩ | ⟨kvs, xs, kk, hc, rfl, e, hl, h⟩
  · cases (show Fz _ w.F v (.int i) from r2)
    obtain ⟨hF, vs, h1, h2⟩ := S.cells n _ a hc ha
    obtain ⟨S1, g1⟩ := S.mut (o := .lst (vs.set j r)) (c := .L (xs.set j q)) ha hF ⟨hF, _, upd_same, set_vr r3 j h2⟩
    exact .inl ⟨a, vs, i, j, rfl, rfl, h1, by rw [vrs_length h2]; exact e, hk _ _ _ h S1 g1⟩
  · have ex := D.key_eq e
    subst ex
    have hv := Fz.key r2
    subst hv
    obtain ⟨hF, kv, h1, ek, h2⟩ := S.cells n _ a hc ha
    have p := putD_vr (k := kk) r3 ek h2
    obtain ⟨S1, g1⟩ := S.mut (o := .dK (putK kv kk r)) (c := .M (putD kvs kk q)) ha hF ⟨hF, _, upd_same, p.1, p.2⟩
    have hlen : kv.length = kvs.length := by
      have := congrArg List.length ek
      rwa [List.length_map, List.length_map] at this
    exact .inr ⟨a, _, rfl, .inl ⟨kv, kk, h1, rfl, by rw [hlen]; exact hl, rfl⟩, hk _ _ _ h S1 g1⟩
  · have ex := D.keys_eq e
    subst ex
    cases (show Fz X.K w.F v (.tup (kk.map kD)) from r2) with
    | tup hb l =>
      have hvs := l.keys
      subst hvs
      obtain ⟨hF, kv, h1, ek, h2⟩ := S.cells n _ a hc ha
      have p := putD_vr (k := kk) r3 ek h2
      obtain ⟨S1, g1⟩ := S.mut (o := .dT (putK kv kk r)) (c := .T (putD kvs kk q)) ha hF ⟨hF, _, upd_same, p.1, p.2⟩
      have hlen : kv.length = kvs.length := by
        have := congrArg List.length ek
        rwa [List.length_map, List.length_map] at this
      exact .inr ⟨a, _, rfl, .inr ⟨kv, kk, _, h1, rfl, S.sub.exact hb (fun z => z), by rw [hlen]; exact hl, rfl⟩, hk _ _ _ h S1 g1⟩⟩⟩
def rgSub (ro ri : RE) : RG := fun y Γ k x => ro Γ (fun o Γ1 => ri Γ1 (fun i Γ2 => rSt3 o i y Γ2 k) x) x
section
variable {K : PySem.W.Frag} {X : Cx} {W : WX} {pos : Pos} {o i e : Expr} {ro ri re : RE} {tg : Expr} {rg : RG}
theorem g_sub (c : Good X W) (ho : PE3 X W o ro) (hi : PE3 X W i ri)
    (rule : ∀ {to ti : TE} {t : TSet}, PE X o to → PE X i ti → PSet X t → PG X (.Subscript o i pos) (gSub to ti t) := by intro _ _ _ z1 z2 z3; exact pg_sub z1 z2 z3) : PG3 X W (.Subscript o i pos) (rgSub ro ri) := by
  obtain ⟨to, po, so⟩ := ho.ex
  obtain ⟨ti, pi, si⟩ := hi.ex
  obtain ⟨t, pt, st⟩ := set_any c
  refine ⟨_, rule po pi pt, ⟨fun w H σ Γ v y Q k x S r h hk hx => ?_⟩⟩
  refine so.go w H σ Γ _ _ x S h (fun u w1 H1 y1 Γ1 h1 S1 r1 g1 => ?_) (hx σ)
  refine si.go w1 H1 σ Γ1 _ _ x S1 h1 (fun u2 w2 H2 y2 Γ2 h2 S2 r2 g2 => ?_) ((hx σ).grow g1)
  exact st.go w2 H2 σ Γ2 _ _ u u2 v y1 y2 y S2 (r1.grow g2) r2 ((r.grow g1).grow g2) h2 fun w' H' Γ' a b c => hk w' H' σ Γ' a b ((g1.trans g2).trans c)
def rAsg (re : RE) (rg : RG) : RS := fun N Γ => re Γ (fun y Γ1 => rg y Γ1 N.nx N.ex) N.ex
theorem ss_asg {te : TE} {g : TG} (he : SE K W te re) (hg : SG K W g rg) : SS K W (tAsg te g) (rAsg re rg) := ⟨fun w H σ Γ D N S h b => by
  refine he.go w H σ Γ _ _ N.ex S h (fun v w1 H1 y Γ1 h1 S1 r1 g1 => ?_) (b.ex σ)
  exact hg.go w1 H1 σ Γ1 v y _ N.nx N.ex S1 r1 h1 (fun w' H' σ' Γ' a s c => b.nx w' H' σ' Γ' a s (g1.trans c)) fun σ' => (b.ex σ').grow g1⟩
theorem s_asg (he : PE3 X W e re) (hg : PG3 X W tg rg) (hs : swapsWithSole [tg] e pos.line X.env = pure false := by rfl) (hw : swappedStores [tg] e X.env = pure none := by rfl)
    (h1 : (assignEach [tg] X.env).map (·.2) = [assign tg X.env] := by rfl) : PS3 X W (.Assign [tg] e pos) (rAsg re rg) := by
  obtain ⟨te, pe, se⟩ := he.ex
  obtain ⟨g, pg, sg⟩ := hg.ex
  exact ⟨_, ps_asg pe pg hs hw h1, ss_asg se sg⟩
theorem s_set (c : Good X W) (i : Nat) {x : Str} {pos' : Pos} (he : PE3 X W e re) (hi : X.N[i]? = some x := by rfl) (hx : Loc X.env.scope x := by first | exact .inl rfl | exact .inr rfl) (hs : swapsWith e (some (.Name x pos')) pos.line X.env = pure false := by rfl)
    (hf : X.fn x = true ∨ X.env.scope.names.lookup x = some .local := by first | exact .inl rfl | exact .inr rfl | assumption) : PS3 X W (.Assign [.Name x pos'] e pos) (rAsg re (rgName i)) := by
  obtain ⟨te, pe, se⟩ := he.ex
  exact ⟨_, ps_set c.nd hi hx pe hs hf, ss_asg se (sg_name i)⟩
end

/-! ### statements -/
def rNext : RS := fun N Γ => N.nx Γ
def rSeq (r1 r2 : RS) : RS := fun N Γ => r1 { N with nx := r2 N } Γ
def rBreak : RS := fun N Γ => N.bk Γ
def rCont : RS := fun N Γ => N.ct Γ
def rDrop (re : RE) : RS := fun N Γ => re Γ (fun _ Γ1 => N.nx Γ1) N.ex
def rRet (re : RE) : RS := fun N Γ => re Γ N.rt N.ex
def rRetN : RS := fun N Γ => N.rt (.d .non) Γ
def rIf (rt : RT) (r1 r2 : RS) : RS := fun N Γ => rt Γ (fun b Γ1 => if b = true then r1 N Γ1 else r2 N Γ1) N.ex
section
variable {K : PySem.W.Frag} {X : Cx} {W : WX} {pos : Pos} {e c : Expr} {re : RE} {rt : RT} {r1 r2 : RS} {st : Stmt} {sts a b : List Stmt}
theorem ss_next : SS K W tNext rNext := ⟨fun w H σ Γ D N S h b => b.nx w H σ Γ h S (Grow.refl _ _)⟩
theorem ss_seq {t1 t2 : TS} (h1 : SS K W t1 r1) (h2 : SS K W t2 r2) : SS K W (tSeq t1 t2) (rSeq r1 r2) := ⟨fun w H σ Γ D N S h b => by
  refine h1.go w H σ Γ _ { N with nx := r2 N } S h ⟨fun w1 H1 σ1 Γ1 h1 S1 g1 => ?_, b.rt, b.bk, b.ct, b.ex⟩
  exact h2.go w1 H1 σ1 Γ1 D N S1 h1 (b.grow g1)⟩
theorem ss_nil : PSs3 X W [] rNext := ⟨_, pss_nil, ss_next⟩
theorem ss_cons (h1 : PS3 X W st r1) (h2 : PSs3 X W sts r2) : PSs3 X W (st :: sts) (rSeq r1 r2) := by
  obtain ⟨t1, p1, s1⟩ := h1.ex
  obtain ⟨t2, p2, s2⟩ := h2.ex
  exact ⟨_, pss_cons p1 p2, ss_seq s1 s2⟩
theorem ss_one (h1 : PS3 X W st r1) : PSs3 X W [st] r1 := by
  obtain ⟨t1, p1, s1⟩ := h1.ex
  exact ⟨_, pss_one p1, s1⟩
theorem s_pass : PS3 X W (.Pass pos) rNext := ⟨_, ps_pass, ss_next⟩
theorem s_break : PS3 X W (.Break pos) rBreak := ⟨_, ps_break, ⟨fun w H σ Γ D N S h b => b.bk w H σ Γ h S (Grow.refl _ _)⟩⟩
theorem s_cont : PS3 X W (.Continue pos) rCont := ⟨_, ps_continue, ⟨fun w H σ Γ D N S h b => b.ct w H σ Γ h S (Grow.refl _ _)⟩⟩
theorem s_expr (he : PE3 X W e re) (hs : swapsWith e none pos.line X.env = pure false := by rfl) : PS3 X W (.Expr e pos) (rDrop re) := by
  obtain ⟨te, pe, se⟩ := he.ex
  exact ⟨_, ps_expr pe hs, ⟨fun w H σ Γ D N S h b => se.go w H σ Γ _ _ N.ex S h (fun v w1 H1 y Γ1 h1 S1 r1 g1 => b.nx w1 H1 σ Γ1 h1 S1 g1) (b.ex σ)⟩⟩
theorem s_ret (he : PE3 X W e re) : PS3 X W (.Return (some e) pos) (rRet re) := by
  obtain ⟨te, pe, se⟩ := he.ex
  exact ⟨_, ps_ret pe, ⟨fun w H σ Γ D N S h b => se.go w H σ Γ _ _ N.ex S h (fun v w1 H1 y Γ1 h1 S1 r1 g1 => b.rt v w1 H1 σ y Γ1 h1 S1 r1 g1) (b.ex σ)⟩⟩
theorem s_retN : PS3 X W (.Return none pos) rRetN := ⟨_, ps_retN, ⟨fun w H σ Γ D N S h b => b.rt .non w H σ _ Γ h S (Fz.non) (Grow.refl _ _)⟩⟩
theorem s_if (hc : PT3 X W c rt) (ha : PSs3 X W a r1) (hb : PSs3 X W b r2) : PS3 X W (.If c a b pos) (rIf rt r1 r2) := by
  obtain ⟨tt, pt, st⟩ := hc.ex
  obtain ⟨t1, p1, s1⟩ := ha.ex
  obtain ⟨t2, p2, s2⟩ := hb.ex
  refine ⟨_, ps_if pt p1 p2, ⟨fun w H σ Γ D N S h b => ?_⟩⟩
  refine st.go w H σ Γ _ _ N.ex S h (fun b' w1 H1 Γ1 h1 S1 g1 => ?_) (b.ex σ)
  cases b' with
  | true => exact s1.go w1 H1 σ Γ1 D N S1 h1 (b.grow g1)
  | false => exact s2.go w1 H1 σ Γ1 D N S1 h1 (b.grow g1)
/-- a statement that is never reached -/
def rNever : RS := fun _ _ => False
theorem s_never : PS3 X W st rNever := ⟨_, ps_never, ⟨fun _ _ _ _ _ _ _ h _ => h.elim⟩⟩
end
end L3

namespace L3
open PySem L2 PyProof.Rows

/-! ### what is walked: n turns, the items, what must hold at each turn -/
abbrev KI := Nat → (Nat → Val) → (Gam → Prop) → Gam → Prop
abbrev RI := Gam → KI → XC → Prop
def ItOk (K : PySem.W.Frag) (J : It) (n : Nat) (item : Nat → Val) (ok : Gam → Prop) (w : Wd) (H : Hp) : Prop :=
  ∀ i w2 H2 σ2 Γ2, i ≤ n → Sta K w2 H2 σ2 Γ2 → Grow w H w2 H2 → ok Γ2 → (i = n → J.stop i H2) ∧
    (i < n → J.go i H2 ∧ ∀ v H3, J.yld i H2 v H3 → ∃ w3, Sta K w3 H3 σ2 Γ2 ∧ VR K w3 v (item i) ∧ Grow w2 H2 w3 H3)
structure SI (K : PySem.W.Frag) (W : WX) (wi : TI) (ri : RI) : Prop where
  go : ∀ (w : Wd) (H : Hp) (σ : L2.St) (Γ : Gam) (R : It → Hp → Prop) (k : KI) (x : XC), Sta K w H σ Γ → ri Γ k x →
    (∀ J w' H' n item ok Γ', k n item ok Γ' → Sta K w' H' σ Γ' → Grow w H w' H' → ItOk K J n item ok w' H' → R J H') → BrX K W w H σ x → wi σ H R
structure PI3 (X : Cx) (W : WX) (tg iter : Expr) (ri : RI) : Prop where
  ex : ∃ wi, PI X tg iter wi ∧ SI X.K W wi ri
/-- a list: it stays as it is -/
def riList (re : RE) : RI := fun Γ k x => re Γ (fun y Γ1 => ∃ xs, Γ1.shp y = .L xs ∧ k xs.length (fun i => xs.getD i (.d .non)) (fun Γ2 => Γ2.shp y = .L xs) Γ1) x
def riTup (re : RE) : RI := fun Γ k x => re Γ (fun y Γ1 => ∃ xs, Γ1.shp y = .U xs ∧ k xs.length (fun i => xs.getD i (.d .non)) (fun Γ2 => Γ2.shp y = .U xs) Γ1) x
def riRange1 (ra : RA) : RI := fun Γ k x => ra Γ (fun ys Γ1 => ∃ j : Int, ys = [.d (.int j)] ∧ -(2 ^ 62) ≤ j ∧ j < 2 ^ 62 ∧ k j.toNat (fun i => .d (.int i)) (fun _ => True) Γ1) x
def riRange2 (ra : RA) : RI := fun Γ k x => ra Γ (fun ys Γ1 => ∃ i j : Int, ys = [.d (.int i), .d (.int j)] ∧ (-(2 ^ 62) ≤ i ∧ i < 2 ^ 62 ∧ -(2 ^ 62) ≤ j ∧ j < 2 ^ 62) ∧ k (j - i).toNat (fun m => .d (.int (i + m))) (fun _ => True) Γ1) x
def riStr (re : RE) : RI := fun Γ k x => re Γ (fun y Γ1 => ∃ s : Str, y = .d (.str s) ∧ k s.cps.size (fun i => .d (.str ⟨#[s.cps.getD i 0]⟩)) (fun _ => True) Γ1) x
def riEnum (ra : RA) : RI := fun Γ k x => ra Γ (fun ys Γ1 => ∃ y ds, ys = [y] ∧ Γ1.dl y = some ds ∧ k ds.length (fun i => .d (.tup [.int i, ds.getD i .non])) (fun Γ2 => Γ2.dl y = some ds) Γ1) x
def riZip (ra : RA) : RI := fun Γ k x => ra Γ (fun ys Γ1 => ∃ y z ds es, ys = [y, z] ∧ Γ1.dl y = some ds ∧ Γ1.dl z = some es ∧ ds.length = es.length ∧
  k ds.length (fun i => .d (.tup [ds.getD i .non, es.getD i .non])) (fun Γ2 => Γ2.dl y = some ds ∧ Γ2.dl z = some es) Γ1) x
section
variable {K : PySem.W.Frag} {X : Cx} {W : WX} {pos p : Pos} {e a b tg : Expr} {re : RE} {ra : RA} {te : TE} {ta : TA}
theorem at_vr {w : Wd} {q : Val} : ∀ {vs : List V} {xs : List Val}, Paired (VR K w) vs xs → ∀ {j : Nat} {v : V}, vs[j]? = some v → VR K w v (xs.getD j q)
  | _, _, .nil, _, _, h => by simp at h
  | _, _, .cons r _, 0, _, h => by
    simp at h
    subst h
    simpa using r
  | _, _, .cons _ t, j + 1, v, h => by
    have := at_vr (q := q) t (j := j) (v := v) (by simpa using h)
    simpa using this
theorem si_list (he : SE K W te re) : SI K W (iList K te) (riList re) := ⟨fun w H σ Γ R k x S h hk hx => by
  refine he.go w H σ Γ _ _ x S h (fun v w1 H1 y Γ1 h1 S1 r1 g1 => ?_) hx
  obtain ⟨xs, e, h1⟩ := h1
  obtain ⟨a, vs, rfl, e1, p1⟩ := S1.shpL r1 e
  refine ⟨a, rfl, ⟨vs, .inl (.inl e1)⟩, hk _ w1 H1 _ _ _ Γ1 h1 S1 g1 fun i w2 H2 σ2 Γ2 hi S2 g2 ok => ?_⟩
  obtain ⟨a', vs2, ea, e2, p2⟩ := S2.shpL (r1.grow g2) ok
  cases ea
  refine ⟨fun hn => ⟨vs2, .inl (.inl e2), by rw [vrs_length p2, hn]; exact Nat.le_refl _⟩, fun hn => ?_⟩
  have hl : i < vs2.length := by rw [vrs_length p2]; exact hn
  refine ⟨⟨vs2, vs2[i], .inl (.inl e2), List.getElem?_eq_getElem hl⟩, fun v H3 hy => ?_⟩
  obtain ⟨rfl, hy⟩ := hy
  exact ⟨w2, S2, at_vr p2 (hy vs2 (.inl (.inl e2))), Grow.refl _ _⟩⟩
theorem i_list (he : PE3 X W e re) : PI3 X W tg e (riList re) := by
  obtain ⟨te, pe, se⟩ := he.ex
  exact ⟨_, pi_list pe, si_list se⟩
theorem i_tup (he : PE3 X W e re) : PI3 X W tg e (riTup re) := by
  obtain ⟨te, pe, se⟩ := he.ex
  refine ⟨_, pi_tup pe, ⟨fun w H σ Γ R k x S h hk hx => ?_⟩⟩
  refine se.go w H σ Γ _ _ x S h (fun v w1 H1 y Γ1 h1 S1 r1 g1 => ?_) hx
  obtain ⟨xs, e, h1⟩ := h1
  obtain ⟨a, vs, rfl, e1, p1⟩ := S1.shpU r1 e
  refine ⟨a, rfl, ⟨vs, .inl (.inl e1)⟩, hk _ w1 H1 _ _ _ Γ1 h1 S1 g1 fun i w2 H2 σ2 Γ2 hi S2 g2 ok => ?_⟩
  obtain ⟨a', vs2, ea, e2, p2⟩ := S2.shpU (r1.grow g2) ok
  cases ea
  refine ⟨fun hn => ⟨vs2, .inl (.inl e2), by rw [vrs_length p2, hn]; exact Nat.le_refl _⟩, fun hn => ?_⟩
  have hl : i < vs2.length := by rw [vrs_length p2]; exact hn
  refine ⟨⟨vs2, vs2[i], .inl (.inl e2), List.getElem?_eq_getElem hl⟩, fun v H3 hy => ?_⟩
  obtain ⟨rfl, hy⟩ := hy
  exact ⟨w2, S2, at_vr p2 (hy vs2 (.inl (.inl e2))), Grow.refl _ _⟩
theorem vr_int {w : Wd} {v : V} {i : Int} (r : VR K w v (.d (.int i))) : v = .int i := by cases (show Fz K w.F v (.int i) from r); rfl
theorem vr_str {w : Wd} {v : V} {s : Str} (r : VR K w v (.d (.str s))) : v = .str s := by cases (show Fz K w.F v (.str s) from r); rfl
theorem i_range1 (hg : Gl X "range") (hm : X.mg "range" = none) (ha : PA3 X W [a] ra) (hs : starEach [a] X.env = [(false, eval a X.env)] := by rfl) : PI3 X W tg (.Call (.Name "range" p) [a] [] pos) (riRange1 ra) := by
  obtain ⟨ta, pa, sa⟩ := ha.ex
  refine ⟨_, pi_range1 hg hm pa hs, ⟨fun w H σ Γ R k x S h hk hx => ?_⟩⟩
  refine sa.go w H σ Γ _ _ x S h (fun vs w1 H1 ys Γ1 h1 S1 r1 g1 => ?_) hx
  obtain ⟨j, rfl, l1, l2, h1⟩ := h1
  cases r1 with
  | cons r0 rr =>
    cases rr
    have := vr_int r0
    subst this
    refine ⟨j, rfl, l1, l2, hk _ w1 H1 _ _ _ Γ1 h1 S1 g1 fun i w2 H2 σ2 Γ2 hi S2 g2 _ => ⟨fun hn => (show j.toNat ≤ i from by omega), fun hn => ⟨(show i < j.toNat from hn), fun v H3 hy => ?_⟩⟩⟩
    obtain ⟨rfl, rfl⟩ := hy
    exact ⟨w2, S2, by rw [Int.zero_add]; exact Fz.int _, Grow.refl _ _⟩
theorem i_range2 (hg : Gl X "range") (hm : X.mg "range" = none) (ha : PA3 X W [a, b] ra) (hs : starEach [a, b] X.env = [(false, eval a X.env), (false, eval b X.env)] := by rfl) (hs2 : starEach [b] X.env = [(false, eval b X.env)] := by rfl) : PI3 X W tg (.Call (.Name "range" p) [a, b] [] pos) (riRange2 ra) := by
  obtain ⟨ta, pa, sa⟩ := ha.ex
  refine ⟨_, pi_range2 hg hm pa hs hs2, ⟨fun w H σ Γ R k x S h hk hx => ?_⟩⟩
  refine sa.go w H σ Γ _ _ x S h (fun vs w1 H1 ys Γ1 h1 S1 r1 g1 => ?_) hx
  obtain ⟨i0, j, rfl, l1, h1⟩ := h1
  cases r1 with
  | cons r0 rr =>
    cases rr with
    | cons r01 rr =>
    cases rr
    have := vr_int r0
    subst this
    have := vr_int r01
    subst this
    refine ⟨i0, j, rfl, l1, hk _ w1 H1 _ _ _ Γ1 h1 S1 g1 fun i w2 H2 σ2 Γ2 hi S2 g2 _ => ⟨fun hn => (show (j - i0).toNat ≤ i from by omega), fun hn => ⟨(show i < (j - i0).toNat from hn), fun v H3 hy => ?_⟩⟩⟩
    obtain ⟨rfl, rfl⟩ := hy
    exact ⟨w2, S2, Fz.int _, Grow.refl _ _⟩
theorem i_str (he : PE3 X W e re) : PI3 X W tg e (riStr re) := by
  obtain ⟨te, pe, se⟩ := he.ex
  refine ⟨_, pi_str pe, ⟨fun w H σ Γ R k x S h hk hx => ?_⟩⟩
  refine se.go w H σ Γ _ _ x S h (fun v w1 H1 y Γ1 h1 S1 r1 g1 => ?_) hx
  obtain ⟨s, rfl, h1⟩ := h1
  have := vr_str r1
  subst this
  refine ⟨s, rfl, hk _ w1 H1 _ _ _ Γ1 h1 S1 g1 fun i w2 H2 σ2 Γ2 hi S2 g2 _ => ⟨fun hn => (show s.cps.size ≤ i from by omega), fun hn => ⟨(show i < s.cps.size from hn), fun v H3 hy => ?_⟩⟩⟩
  obtain ⟨rfl, c, hc, rfl⟩ := hy
  refine ⟨w2, S2, ?_, Grow.refl _ _⟩
  have : s.cps.getD i 0 = c := by rw [Array.getD_eq_getD_getElem?, hc]; rfl
  rw [this]
  exact Fz.str _
theorem fz_at {F : Hp} {q : D} : ∀ {vs : List V} {xs : List D}, FzL K F vs xs → ∀ {j : Nat} {v : V}, vs[j]? = some v → Fz K F v (xs.getD j q)
  | _, _, .nil, _, _, h => by simp at h
  | _, _, .cons r _, 0, _, h => by
    simp at h
    subst h
    simpa using r
  | _, _, .cons _ t, j + 1, v, h => by
    have := fz_at (q := q) t (j := j) (v := v) (by simpa using h)
    simpa using this
end
end L3

namespace L3
open PySem L2 PyProof.Rows
section
variable {K : PySem.W.Frag} {X : Cx} {W : WX} {pos p tpos : Pos} {kk : Nat} {elts : List Expr} {e a b tg : Expr} {re : RE} {ra : RA} {te : TE} {ta : TA}
theorem i_enum (hg : Gl X "enumerate") (hm : X.mg "enumerate" = none) (ha : PA3 X W [e] ra) (hs : starEach [e] X.env = [(false, eval e X.env)] := by rfl) : PI3 X W (.Tuple elts kk tpos) (.Call (.Name "enumerate" p) [e] [] pos) (riEnum ra) := by
  obtain ⟨ta, pa, sa⟩ := ha.ex
  refine ⟨_, pi_enum hg hm pa hs, ⟨fun w H σ Γ R k x S h hk hx => ?_⟩⟩
  refine sa.go w H σ Γ _ _ x S h (fun vs w1 H1 ys Γ1 h1 S1 r1 g1 => ?_) hx
  obtain ⟨y, ds, rfl, e1, h1⟩ := h1
  cases r1 with
  | cons r0 rr =>
    cases rr
    obtain ⟨q, us, rfl, hq, l1⟩ := S1.dl r0 e1
    refine ⟨q, us, rfl, .inl (.inl hq), hk _ w1 H1 _ _ _ Γ1 h1 S1 g1 fun i w2 H2 σ2 Γ2 hi S2 g2 ok => ?_⟩
    obtain ⟨q', vs2, ea, e2, l2⟩ := S2.dl (r0.grow g2) ok
    cases ea
    refine ⟨fun hn => ⟨vs2, .inl (.inl e2), by rw [l2.length, hn]; exact Nat.le_refl _⟩, fun hn => ?_⟩
    have hl : i < vs2.length := by rw [l2.length]; exact hn
    refine ⟨⟨vs2, vs2[i], .inl (.inl e2), List.getElem?_eq_getElem hl⟩, fun v H3 hy => ?_⟩
    obtain ⟨T, z, rfl, hT, rfl, hz⟩ := hy
    obtain ⟨S3, g3⟩ := S2.newF (o := .tup [.int (i : Nat), z]) hT
    exact ⟨_, S3, Fz.tup upd_same (.cons (Fz.int _) (.cons ((fz_at l2 (hz vs2 (.inl (.inl e2)))).le g3.le) .nil)), g3⟩
theorem i_zip (hg : Gl X "zip") (hm : X.mg "zip" = none) (ha : PA3 X W [a, b] ra) (hs : starEach [a, b] X.env = (false, eval a X.env) :: starEach [b] X.env := by rfl) (hpl : (backTo pos (starEach [b] X.env)).any (·.1) = false := by rfl) :
    PI3 X W (.Tuple elts kk tpos) (.Call (.Name "zip" p) [a, b] [] pos) (riZip ra) := by
  obtain ⟨ta, pa, sa⟩ := ha.ex
  refine ⟨_, pi_zip hg hm pa hs hpl, ⟨fun w H σ Γ R k x S h hk hx => ?_⟩⟩
  refine sa.go w H σ Γ _ _ x S h (fun vs w1 H1 ys Γ1 h1 S1 r1 g1 => ?_) hx
  obtain ⟨y, z, ds, es, rfl, e1, e1', hlen, h1⟩ := h1
  cases r1 with
  | cons r0 rr =>
    cases rr with
    | cons r01 rr =>
    cases rr
    obtain ⟨q, us, rfl, hq, l1⟩ := S1.dl r0 e1
    obtain ⟨q', us', rfl, hq', l1'⟩ := S1.dl r01 e1'
    refine ⟨q, q', us, us', rfl, .inl (.inl hq), .inl (.inl hq'), hk _ w1 H1 _ _ _ Γ1 h1 S1 g1 fun i w2 H2 σ2 Γ2 hi S2 g2 ok => ?_⟩
    obtain ⟨q2, vs2, ea, e2, l2⟩ := S2.dl (r0.grow g2) ok.1
    cases ea
    obtain ⟨q2, vs3, ea, e3, l3⟩ := S2.dl (r01.grow g2) ok.2
    cases ea
    refine ⟨fun hn => ⟨vs2, vs3, .inl (.inl e2), .inl (.inl e3), .inl (by rw [l2.length, hn]; exact Nat.le_refl _)⟩, fun hn => ?_⟩
    have hl : i < vs2.length := by rw [l2.length]; exact hn
    have hl3 : i < vs3.length := by rw [l3.length, ← hlen]; exact hn
    refine ⟨⟨vs2, vs3, vs2[i], vs3[i], .inl (.inl e2), .inl (.inl e3), List.getElem?_eq_getElem hl, List.getElem?_eq_getElem hl3⟩, fun v H3 hy => ?_⟩
    obtain ⟨T, z1, z2, rfl, hT, rfl, hz1, hz2⟩ := hy
    obtain ⟨S3, g3⟩ := S2.newF (o := .tup [z1, z2]) hT
    exact ⟨_, S3, Fz.tup upd_same (.cons ((fz_at l2 (hz1 vs2 (.inl (.inl e2)))).le g3.le) (.cons ((fz_at l3 (hz2 vs3 (.inl (.inl e3)))).le g3.le) .nil)), g3⟩
end

/-! ### for -/
/-- the loop over n items: Inv is the invariant, m the number of cells that stay -/
def ForW (rg : RG) (body : RS) (N : En) (n : Nat) (item : Nat → Val) (ok : Gam → Prop) (Γ : Gam) : Prop :=
  ∃ Iv : Nat → Gam → Prop, Iv 0 Γ ∧ (∀ i Γ2, i ≤ n → Iv i Γ2 → ok Γ2) ∧
    (∀ i Γ2, i < n → Iv i Γ2 → rg (item i) Γ2 (body { N with nx := fun Γ4 => Iv (i + 1) (Γ4.trim Γ.st.length), ct := fun Γ4 => Iv (i + 1) (Γ4.trim Γ.st.length), bk := fun Γ4 => N.nx (Γ4.trim Γ.st.length) }) N.ex) ∧
    ∀ Γ2, Iv n Γ2 → N.nx Γ2
def rFor (ri : RI) (rg : RG) (body : RS) : RS := fun N Γ => ri Γ (ForW rg body N) N.ex
section
variable {K : PySem.W.Frag} {X : Cx} {W : WX} {pos : Pos} {iter tg : Expr} {body : List Stmt} {ri : RI} {rg : RG} {rb : RS} {wi : TI} {g : TG} {tb : TS}
theorem Sta.alive' {w : Wd} {H : Hp} {σ : L2.St} {Γ : Gam} (S : Sta K w H σ Γ) : ∀ a, a ∈ w.as → H a ≠ none := S.alive
/-- the heart: the iterator J walked -/
theorem for_core (sg : SG K W g rg) (sb : SS K W tb rb) {w : Wd} {H : Hp} {σ : L2.St} {Γ : Gam} {D : Ends} {N : En} {n : Nat} {item : Nat → Val} {ok : Gam → Prop} {J : It} (S : Sta K w H σ Γ) (it : ItOk K J n item ok w H) (h : ForW rg rb N n item ok Γ) (b : Br K W w H N D) :
    tFor (fun _ H1 R => R J H1) g tb D σ H := by
  unfold tFor
  dsimp only
  obtain ⟨Iv, h0, hok, hs, hd⟩ := h
  refine ⟨fun i m σ' H' => m = n - i ∧ i ≤ n ∧ ∃ w' Γ', Sta K w' H' σ' Γ' ∧ Grow w H w' H' ∧ Iv i Γ', ⟨n, by simp, Nat.zero_le _, w, Γ, S, Grow.refl _ _, h0⟩, ?_⟩
  rintro i m σ1 H1 ⟨rfl, hi, w1, Γ1, S1, g1, iv⟩
  obtain ⟨hstop, hgo⟩ := it i w1 H1 σ1 Γ1 hi S1 g1 (hok i Γ1 hi iv)
  by_cases hlt : i < n
  · obtain ⟨go, hy⟩ := hgo hlt
    refine .inr ⟨go, fun σ' H' => ∃ w' Γ', Sta K w' H' σ' Γ' ∧ Grow w H w' H' ∧ Iv (i + 1) Γ', fun σ' H' z => ⟨n - (i + 1), by omega, rfl, hlt, z⟩, fun v H' y => ?_⟩
    obtain ⟨w2, S2, r2, g2⟩ := hy v H' y
    refine sg.go w2 H' σ1 Γ1 v _ _ _ N.ex S2 r2 (hs i Γ1 hlt iv) (fun w3 H3 σ3 Γ3 h3 S3 g3 => ?_) fun σ' => (b.ex σ').grow (g1.trans g2)
    have gg := (g1.trans g2).trans g3
    have fin : ∀ w4 H4 σ4 Γ4, Iv (i + 1) (Γ4.trim Γ.st.length) → Sta K w4 H4 σ4 Γ4 → Grow w3 H3 w4 H4 → ∃ w' Γ', Sta K w' H4 σ4 Γ' ∧ Grow w H w' H4 ∧ Iv (i + 1) Γ' := fun w4 H4 σ4 Γ4 h4 S4 g4 => by
      obtain ⟨w5, S5, g5⟩ := S4.trim (gg.trans g4) S.alive
      rw [S.len] at S5
      exact ⟨w5, _, S5, g5, h4⟩
    refine sb.go w3 H3 σ3 Γ3 _ _ S3 h3 ⟨fun w4 H4 σ4 Γ4 h4 S4 g4 => fin w4 H4 σ4 Γ4 h4 S4 g4, fun v w4 H4 σ4 y4 Γ4 h4 S4 r4 g4 => b.rt v w4 H4 σ4 y4 Γ4 h4 S4 r4 (gg.trans g4), fun w4 H4 σ4 Γ4 h4 S4 g4 => ?_, fun w4 H4 σ4 Γ4 h4 S4 g4 => fin w4 H4 σ4 Γ4 h4 S4 g4, fun σ' => (b.ex σ').grow gg⟩
    obtain ⟨w5, S5, g5⟩ := S4.trim (gg.trans g4) S.alive
    rw [S.len] at S5
    exact b.nx w5 H4 σ4 _ h4 S5 g5
  · have e : i = n := by omega
    subst e
    exact .inl ⟨hstop rfl, b.nx w1 H1 σ1 Γ1 (hd Γ1 iv) S1 g1⟩
theorem s_for (c : GoodS X W) (hi : PI3 X W tg iter ri) (hg : PG3 X W tg rg) (hb : PSs3 X W body rb) (hs : ∀ x, foldedSetIterable iter X.env x = pure x := by intro _; rfl) : PS3 X W (.For tg iter body [] pos) (rFor ri rg rb) := by
  obtain ⟨wi, pi, si⟩ := hi.ex
  obtain ⟨g, pg, sg⟩ := hg.ex
  obtain ⟨tb, pb, sb⟩ := hb.ex
  refine ⟨_, ps_for c.ps c.calm pi pg pb hs, ⟨fun w H σ Γ D N S h b => ?_⟩⟩
  refine si.go w H σ Γ _ _ N.ex S h (fun J w1 H1 n item ok Γ1 h1 S1 g1 it => ?_) (b.ex σ)
  exact for_core sg sb S1 it h1 (b.grow g1)
/-! ### while -/
def rWhile (rt : RT) (rb : RS) : RS := fun N Γ => ∃ Iv : Nat → Gam → Prop, (∃ m, Iv m Γ) ∧ ∀ m Γ1, Iv m Γ1 →
  rt Γ1 (fun b Γ2 => if b = true then rb { N with nx := fun Γ4 => ∃ m', m' < m ∧ Iv m' (Γ4.trim Γ.st.length), ct := fun Γ4 => ∃ m', m' < m ∧ Iv m' (Γ4.trim Γ.st.length), bk := fun Γ4 => N.nx (Γ4.trim Γ.st.length) } Γ2 else N.nx (Γ2.trim Γ.st.length)) N.ex
theorem s_while (c : GoodS X W) {test : Expr} {rt : RT} (ht : PT3 X W test rt) (hb : PSs3 X W body rb) : PS3 X W (.While test body [] pos) (rWhile rt rb) := by
  obtain ⟨tt, pt, st⟩ := ht.ex
  obtain ⟨tb, pb, sb⟩ := hb.ex
  refine ⟨_, ps_while c.ps pt pb, ⟨fun w H σ Γ D N S h b => ?_⟩⟩
  obtain ⟨Iv, ⟨m0, h0⟩, hs⟩ := h
  refine ⟨fun m σ' H' => ∃ w' Γ', Sta X.K w' H' σ' Γ' ∧ Grow w H w' H' ∧ Iv m Γ', ⟨m0, w, Γ, S, Grow.refl _ _, h0⟩, ?_⟩
  rintro m σ1 H1 ⟨w1, Γ1, S1, g1, iv⟩
  refine st.go w1 H1 σ1 Γ1 _ _ N.ex S1 (hs m Γ1 iv) (fun b' w2 H2 Γ2 h2 S2 g2 => ?_) ((b.ex σ1).grow g1)
  have gg := g1.trans g2
  have tr : ∀ w4 H4 σ4 Γ4, Sta X.K w4 H4 σ4 Γ4 → Grow w2 H2 w4 H4 → ∃ w5, Sta X.K w5 H4 σ4 (Γ4.trim Γ.st.length) ∧ Grow w H w5 H4 := fun w4 H4 σ4 Γ4 S4 g4 => by
    obtain ⟨w5, S5, g5⟩ := S4.trim (gg.trans g4) S.alive
    rw [S.len] at S5
    exact ⟨w5, S5, g5⟩
  cases b' with
  | true =>
    refine ⟨fun σ' H' => ∃ m', m' < m ∧ ∃ w' Γ', Sta X.K w' H' σ' Γ' ∧ Grow w H w' H' ∧ Iv m' Γ', fun σ' H' z => z, ?_⟩
    have fin : ∀ w4 H4 σ4 Γ4, (∃ m', m' < m ∧ Iv m' (Γ4.trim Γ.st.length)) → Sta X.K w4 H4 σ4 Γ4 → Grow w2 H2 w4 H4 → ∃ m', m' < m ∧ ∃ w' Γ', Sta X.K w' H4 σ4 Γ' ∧ Grow w H w' H4 ∧ Iv m' Γ' := fun w4 H4 σ4 Γ4 h4 S4 g4 => by
      obtain ⟨m', hm, h4⟩ := h4
      obtain ⟨w5, S5, g5⟩ := tr w4 H4 σ4 Γ4 S4 g4
      exact ⟨m', hm, w5, _, S5, g5, h4⟩
    refine sb.go w2 H2 σ1 Γ2 _ _ S2 h2 ⟨fin, fun v w4 H4 σ4 y4 Γ4 h4 S4 r4 g4 => b.rt v w4 H4 σ4 y4 Γ4 h4 S4 r4 (gg.trans g4), fun w4 H4 σ4 Γ4 h4 S4 g4 => ?_, fin, fun σ' => (b.ex σ').grow gg⟩
    obtain ⟨w5, S5, g5⟩ := tr w4 H4 σ4 Γ4 S4 g4
    exact b.nx w5 H4 σ4 _ h4 S5 g5
  | false =>
    obtain ⟨w5, S5, g5⟩ := tr w2 H2 σ1 Γ2 S2 (Grow.refl _ _)
    exact b.nx w5 H2 σ1 _ h2 S5 g5
end
end L3

namespace L3
open PySem L2 PyProof.Rows

/-! ### canonical readings -/
section
variable (K : PySem.W.Frag) (W : WX)
def starE (re : RE) : TE := fun σ H Q => ∃ w Γ k x, Sta K w H σ Γ ∧ re Γ k x ∧ (∀ v w' H' y Γ', k y Γ' → Sta K w' H' σ Γ' → VR K w' v y → Grow w H w' H' → Q v H') ∧ BrX K W w H σ x
def starT (rt : RT) : TT := fun σ H Q => ∃ w Γ k x, Sta K w H σ Γ ∧ rt Γ k x ∧ (∀ b w' H' Γ', k b Γ' → Sta K w' H' σ Γ' → Grow w H w' H' → Q b H') ∧ BrX K W w H σ x
def starI (ri : RI) : TI := fun σ H R => ∃ w Γ k x, Sta K w H σ Γ ∧ ri Γ k x ∧ (∀ J w' H' n item ok Γ', k n item ok Γ' → Sta K w' H' σ Γ' → Grow w H w' H' → ItOk K J n item ok w' H' → R J H') ∧ BrX K W w H σ x
end
section
variable {X : Cx} {W : WX} {e : Expr} {re : RE} {rt : RT} {ri : RI} {tg iter : Expr}
theorem PE3.star (h : PE3 X W e re) : PE X e (starE X.K W re) := by
  obtain ⟨te, pe, se⟩ := h.ex
  exact ⟨fun pins s σ H Q I q => pe.run pins s σ H Q I (by obtain ⟨w, Γ, k, x, a, b, c, d⟩ := q; exact se.go w H σ Γ Q k x a b c d)⟩
theorem PT3.star (h : PT3 X W e rt) : PT X e (starT X.K W rt) := by
  obtain ⟨te, pe, se⟩ := h.ex
  exact ⟨fun pins s σ H Q I q => pe.run pins s σ H Q I (by obtain ⟨w, Γ, k, x, a, b, c, d⟩ := q; exact se.go w H σ Γ Q k x a b c d)⟩
theorem PI3.star (h : PI3 X W tg iter ri) : PI X tg iter (starI X.K W ri) := by
  obtain ⟨wi, pe, se⟩ := h.ex
  exact ⟨fun pins s σ H R I q => pe.run pins s σ H R I (by obtain ⟨w, Γ, k, x, a, b, c, d⟩ := q; exact se.go w H σ Γ R k x a b c d)⟩
end

/-! ### a comprehension's targets: names of its own -/
def NoX : XC := fun _ _ _ => False
def WF : WX := fun _ _ _ _ => False
theorem brx_nox {K : PySem.W.Frag} {W : WX} {w : Wd} {H : Hp} {σ : L2.St} : BrX K W w H σ NoX := ⟨fun _ _ _ _ _ _ _ h => h.elim⟩
/-- the target sets slots among js alone -/
structure SGc (K : PySem.W.Frag) (g : TG) (rg : RG) (js : List Nat) : Prop where
  go : ∀ (w : Wd) (H : Hp) (σ : L2.St) (Γ : Gam) (v : V) (y : Val) (Q : L2.St → Hp → Prop) (k : Gam → Prop), Sta K w H σ Γ → VR K w v y → rg y Γ k NoX →
    (∀ w' H' σ' Γ', k Γ' → Sta K w' H' σ' Γ' → Grow w H w' H' → (σ'.length = σ.length ∧ ∀ i, i ∉ js → σ'[i]? = σ[i]?) → Q σ' H') → g v σ H Q
structure SGcs (K : PySem.W.Frag) (g : TGs) (rg : RGs) (js : List Nat) : Prop where
  go : ∀ (w : Wd) (H : Hp) (σ : L2.St) (Γ : Gam) (vs : List V) (ys : List Val) (Q : L2.St → Hp → Prop) (k : Gam → Prop), Sta K w H σ Γ → Paired (VR K w) vs ys → rg ys Γ k NoX →
    (∀ w' H' σ' Γ', k Γ' → Sta K w' H' σ' Γ' → Grow w H w' H' → (σ'.length = σ.length ∧ ∀ i, i ∉ js → σ'[i]? = σ[i]?) → Q σ' H') → g vs σ H Q
structure PGc (X : Cx) (tg : Expr) (g : TG) (rg : RG) (js : List Nat) : Prop where
  p : PG X tg g
  s : SGc X.K g rg js
structure PGcs (X : Cx) (tg : List Expr) (g : TGs) (rg : RGs) (js : List Nat) : Prop where
  p : PGs X tg g
  s : SGcs X.K g rg js
section
variable {K : PySem.W.Frag} {X : Cx} {W : WX} {pos : Pos} {g : TG} {gs : TGs} {rg : RG} {rgs : RGs} {e : Expr} {es : List Expr} {js : List Nat}
theorem c_name (hN : X.N.Nodup) (i : Nat) {x : Str} (hi : X.N[i]? = some x := by rfl) (hx : Loc X.env.scope x := by first | exact .inl rfl | exact .inr rfl) (hf : X.fn x = true ∨ X.env.scope.names.lookup x = some .local := by first | exact .inl rfl | exact .inr rfl | assumption) :
    PGc X (.Name x pos) (gName i) (rgName i) [i] := ⟨pg_name hN hi hx hf, ⟨fun w H σ Γ v y Q k S r h hk => hk w H _ _ h (S.set r) (Grow.refl _ _) ⟨by simp, fun j hj => List.getElem?_set_ne (fun e => hj (by simp [e]))⟩⟩⟩
theorem cs_nil : PGcs X [] gNil rgNil js := ⟨pgs_nil, ⟨fun w H σ Γ vs ys Q k S r h hk => by
  obtain ⟨rfl, h⟩ := h
  cases r
  exact ⟨rfl, hk w H σ Γ h S (Grow.refl _ _) ⟨rfl, fun _ _ => rfl⟩⟩⟩⟩
theorem cs_cons {j1 j2 : List Nat} (h1 : PGc X e g rg j1) (h2 : PGcs X es gs rgs j2) (hs : (assignEach (e :: es) X.env).map (·.2) = assign e X.env :: (assignEach es X.env).map (·.2) := by rfl) : PGcs X (e :: es) (gCons g gs) (rgCons rg rgs) (j1 ++ j2) := by
  refine ⟨pgs_cons h1.p h2.p hs, ⟨fun w H σ Γ vs ys Q k S r h hk => ?_⟩⟩
  obtain ⟨y, ry, rfl, h⟩ := h
  cases r with
  | cons r0 rr =>
    refine ⟨_, _, rfl, h1.s.go w H σ Γ _ y _ _ S r0 h fun w1 H1 σ1 Γ1 a1 S1 g1 f1 => ?_⟩
    refine h2.s.go w1 H1 σ1 Γ1 _ _ Q k S1 (vrs_grow g1 rr) a1 fun w' H' σ' Γ' a b c f2 => hk w' H' σ' Γ' a b (g1.trans c) ⟨f2.1.trans f1.1, fun i hi => ?_⟩
    rw [List.mem_append, not_or] at hi
    exact (f2.2 i hi.2).trans (f1.2 i hi.1)
theorem c_tup {k : Nat} {n : Nat} (hc : X.calm = true) (h : PGcs X es gs rgs js) (hn : (assignEach es X.env).length = n := by rfl) (hst : (assignEach es X.env).findIdx? (·.1) = none := by rfl) : PGc X (.Tuple es k pos) (gTup X.K n gs) (rgTup n rgs) js := by
  refine ⟨pg_tup hc h.p hn hst, ⟨fun w H σ Γ v y Q k S r a hk => ?_⟩⟩
  obtain ⟨ys, e, hl, a⟩ := a
  obtain ⟨q, vs, rfl, h1, h2⟩ := S.shpU r e
  exact ⟨q, vs, rfl, .inl (.inl h1), by rw [vrs_length h2]; exact hl, h.s.go w H σ Γ vs ys Q k S h2 a hk⟩
theorem wipe_at (σ : L2.St) : ∀ (vs : List Nat) (i : Nat), (wipe σ vs)[i]? = if i ∈ vs ∧ i < σ.length then some none else σ[i]?
  | [], i => by simp [wipe]
  | v :: vs, i => by
    unfold wipe
    have ih := wipe_at σ vs i
    have hl : (wipe σ vs).length = σ.length := wipe_length σ vs
    by_cases h : v = i
    · subst h
      by_cases hv : v < σ.length
      · rw [List.getElem?_set_self (by rw [hl]; exact hv), if_pos ⟨List.mem_cons_self, hv⟩]
      · rw [List.getElem?_eq_none (by rw [List.length_set, hl]; omega), if_neg (fun z => hv z.2), List.getElem?_eq_none (by omega)]
    · rw [List.getElem?_set_ne h, ih]
      by_cases c : i ∈ vs ∧ i < σ.length
      · rw [if_pos c, if_pos ⟨List.mem_cons_of_mem _ c.1, c.2⟩]
      · rw [if_neg c, if_neg (fun z => c ⟨(List.mem_cons.mp z.1).elim (fun e => absurd e.symm h) id, z.2⟩)]
theorem wipe_eq {σ σ' : L2.St} {vs : List Nat} (hl : σ'.length = σ.length) (h : ∀ i, i ∉ vs → σ'[i]? = (wipe σ vs)[i]?) : wipe σ' vs = wipe σ vs := by
  refine List.ext_getElem? fun i => ?_
  rw [wipe_at, wipe_at, hl]
  by_cases c : i ∈ vs ∧ i < σ.length
  · rw [if_pos c, if_pos c]
  · rw [if_neg c, if_neg c]
    by_cases m : i ∈ vs
    · have : σ.length ≤ i := by
        by_cases q : i < σ.length
        · exact absurd ⟨m, q⟩ c
        · omega
      rw [List.getElem?_eq_none (by omega), List.getElem?_eq_none (by omega)]
    · rw [h i m, wipe_at, if_neg c]
end
def wipeS (l : List (Option Val)) : List Nat → List (Option Val)
  | [] => l
  | v :: vs => (wipeS l vs).set v none
theorem Sta.wipe {K : PySem.W.Frag} {w : Wd} {H : Hp} {σ : L2.St} {Γ : Gam} (S : Sta K w H σ Γ) (vs : List Nat) : Sta K w H (L2.wipe σ vs) { Γ with sl := wipeS Γ.sl vs } := by
  induction vs with
  | nil => exact S
  | cons v vs ih =>
    refine ih.forget (sl := (wipeS Γ.sl vs).set v none) ?_ fun i x h => ?_
    · show ((L2.wipe σ vs).set v none).length = _
      rw [List.length_set, List.length_set]
      exact ih.slen
    · by_cases e : v = i
      · subst e
        by_cases hv : v < (wipeS Γ.sl vs).length
        · rw [List.getElem?_set_self hv] at h
          cases h
        · rw [List.getElem?_eq_none (by rw [List.length_set]; omega)] at h
          cases h
      · rw [List.getElem?_set_ne e] at h
        obtain ⟨u, e1, r⟩ := ih.slots i x h
        exact ⟨u, by show ((L2.wipe σ vs).set v none)[i]? = _; rw [List.getElem?_set_ne e]; exact e1, r⟩

/-! ### an object on the way: neither owned nor frozen -/
structure Hid (w : Wd) (H : Hp) (p : Addr) (o : HO) : Prop where
  h : H p = some o
  f : w.F p = none
  a : p ∉ w.as
  t : ∀ xs, o ≠ .tup xs
section
variable {K : PySem.W.Frag} {w w' w1 : Wd} {H H' H1 : Hp} {σ : L2.St} {Γ : Gam} {p : Addr} {o o' : HO}
theorem Hid.grow (h : Hid w H p o) (g : Grow w H w' H') : Hid w' H' p o := by
  refine ⟨g.fr p o h.h h.a, ?_, fun m => ?_, h.t⟩
  · cases e : w'.F p with
    | none => rfl
    | some u =>
      rcases g.nf p (by rw [e]; intro z; cases z) with z | z | z | ⟨xs, z⟩
      · exact absurd h.f z
      · exact absurd z h.a
      · rw [h.h] at z; cases z
      · rw [h.h] at z; exact absurd (Option.some.inj z) (h.t xs)
  · rcases g.nw p m with z | z
    · exact h.a z
    · rw [h.h] at z; cases z
theorem Sta.notlk (S : Sta K w H σ Γ) (hf : w.F p = none) : p ∉ w.lks := fun m => S.sub.al p m hf
/-- it is made, or written -/
theorem Sta.side (S : Sta K w H σ Γ) (hf : w.F p = none) (ha : p ∉ w.as) : Sta K w (upd H p o) σ Γ := by
  refine ⟨⟨fun a u h m => ?_, fun a u h m => ?_, S.sub.al, S.sub.nf⟩, S.lkd, S.nd, S.len, fun n c a h1 h2 => ?_, fun a m z => ?_, S.slen, S.slots⟩
  · rw [upd_ne (ne_of_none h hf)]
    exact S.sub.ex a u h m
  · rw [upd_ne (ne_of_none h hf)]
    exact S.sub.lk0 a u h m
  · have e : a ≠ p := fun e => ha (e ▸ List.mem_of_getElem? h2)
    exact (S.cells n c a h1 h2).keep (fun _ _ z => z) ⟨[], (List.append_nil _).symm⟩ (fun z => z) (upd_ne e)
  · have e : a ≠ p := fun e => ha (e ▸ m)
    rw [upd_ne e] at z
    exact S.alive a m z
theorem Grow.side (g : Grow w1 H1 w H) (hp : H1 p = none) : Grow w1 H1 w (upd H p o) :=
  ⟨g.le, g.as, g.lks, fun a u h m => by rw [upd_ne (ne_of_none h hp)]; exact g.fr a u h m, g.nw, g.nf⟩
/-- it becomes a cell -/
theorem Sta.adoptO (S : Sta K w H σ Γ) (h : Hid w H p o) {c : Cell} (hc : CellOk K { w with as := w.as ++ [p] } H p c) (g0 : Grow w1 H1 w H) (hp : H1 p = none) :
    Sta K { w with as := w.as ++ [p] } H σ { Γ with st := Γ.st ++ [c] } ∧ Grow w1 H1 { w with as := w.as ++ [p] } H := by
  refine ⟨⟨S.sub, S.lkd, ?_, ?_, fun n c' a h1 h2 => ?_, fun a m => ?_, S.slen, fun i x e => ?_⟩, ⟨g0.le, ?_, g0.lks, g0.fr, fun a m => ?_, g0.nf⟩⟩
  · show (w.as ++ [p]).Nodup
    refine List.nodup_append.mpr ⟨S.nd, by simp, fun a ha b hb => ?_⟩
    rw [List.mem_singleton.mp hb]
    exact fun e => h.a (e ▸ ha)
  · show (w.as ++ [p]).length = (Γ.st ++ [c]).length
    rw [List.length_append, List.length_append, S.len]
    rfl
  · have h1' : (Γ.st ++ [c])[n]? = some c' := h1
    have h2' : (w.as ++ [p])[n]? = some a := h2
    by_cases hn : n < Γ.st.length
    · rw [List.getElem?_append_left hn] at h1'
      rw [List.getElem?_append_left (by rw [S.len]; exact hn)] at h2'
      exact (S.cells n c' a h1' h2').keep (w := w) (w' := { w with as := w.as ++ [p] }) (fun _ _ z => z) ⟨[p], rfl⟩ (fun z => z) rfl
    · have hn2 : n = Γ.st.length := by
        have := (List.getElem?_eq_some_iff.mp h1').1
        rw [List.length_append] at this
        have e1 : [c].length = 1 := rfl
        omega
      subst hn2
      rw [List.getElem?_append_right (Nat.le_refl _), Nat.sub_self] at h1'
      rw [← S.len, List.getElem?_append_right (Nat.le_refl _), Nat.sub_self] at h2'
      cases h1'
      cases h2'
      exact hc
  · rcases List.mem_append.mp (show a ∈ w.as ++ [p] from m) with z | z
    · exact S.alive a z
    · rw [inOne z, h.h]
      exact fun z => by cases z
  · obtain ⟨v, e1, r⟩ := S.slots i x e
    refine ⟨v, e1, ?_⟩
    cases x with
    | d x => exact r
    | own n =>
      obtain ⟨a, e2, e3⟩ := r
      exact ⟨a, by show (w.as ++ [p])[n]? = some a; rw [List.getElem?_append_left (List.getElem?_eq_some_iff.mp e2).1]; exact e2, e3⟩
  · obtain ⟨more, e⟩ := g0.as
    exact ⟨more ++ [p], by show w.as ++ [p] = _; rw [e, List.append_assoc]⟩
  · rcases List.mem_append.mp (show a ∈ w.as ++ [p] from m) with z | z
    · exact g0.nw a z
    · rw [inOne z]
      exact .inr hp
/-- it becomes frozen -/
theorem Sta.adoptF (S : Sta K w H σ Γ) (h : Hid w H p o) (hnf : ∀ ob u, o ≠ .frz ob u) (g0 : Grow w1 H1 w H) (hp : H1 p = none) :
    Sta K { w with F := upd w.F p o } H σ Γ ∧ Grow w1 H1 { w with F := upd w.F p o } H := by
  have hlk := S.notlk h.f
  refine ⟨⟨⟨fun b u e m => ?_, fun b u e m => ?_, fun b m z => ?_, fun b ob u e => ?_⟩, S.lkd, S.nd, S.len, fun n c a h1 h2 => ?_, S.alive, S.slen, fun i x e => ?_⟩, ⟨fun a u e => upd_le h.f a u (g0.le a u e), g0.as, g0.lks, g0.fr, g0.nw, fun a e => ?_⟩⟩
  · have h' : upd w.F p o b = some u := e
    by_cases c : b = p
    · rw [c, upd_same] at h'
      rw [c, h.h]
      exact h'
    · rw [upd_ne c] at h'
      exact S.sub.ex b u h' m
  · have h' : upd w.F p o b = some u := e
    have c : b ≠ p := fun c => hlk (c ▸ m)
    rw [upd_ne c] at h'
    exact S.sub.lk0 b u h' m
  · have z' : upd w.F p o b = none := z
    have c : b ≠ p := fun c => hlk (c ▸ m)
    rw [upd_ne c] at z'
    exact S.sub.al b m z'
  · have h' : upd w.F p o b = some (.frz ob u) := e
    by_cases c : b = p
    · rw [c, upd_same] at h'
      exact absurd (Option.some.inj h') (hnf ob u)
    · rw [upd_ne c] at h'
      exact S.sub.nf b ob u h'
  · have e : a ≠ p := fun e => h.a (e ▸ List.mem_of_getElem? h2)
    exact (S.cells n c a h1 h2).keep (w := w) (w' := { w with F := upd w.F p o }) (upd_le h.f) ⟨[], (List.append_nil _).symm⟩ (fun z => (upd_ne e).trans z) rfl
  · obtain ⟨v, e1, r⟩ := S.slots i x e
    refine ⟨v, e1, ?_⟩
    cases x with
    | d x => exact Fz.le (upd_le h.f) r
    | own n => exact r
  · by_cases c : a = p
    · exact .inr (.inr (.inl (c ▸ hp)))
    · have h' : upd w.F p o a ≠ none := e
      rw [upd_ne c] at h'
      exact g0.nf a h'
end
/-! ### list comprehensions -/
/-- one turn's state goes back to the slots and cells of before -/
def Gam.back (Γ : Gam) (Γ5 : Gam) : List Cell := trimC Γ.st.length Γ.st.length Γ5.st
/-- the turns: acc is what stands in the new list; the elements are frozen; the store may change -/
def LcW (rg : RG) (rt : RT) (re : RE) (vs : List Nat) (n : Nat) (item : Nat → Val) (ok : Gam → Prop) (Γ : Gam) (k : List D → Gam → Prop) : Prop :=
  ∃ Iv : Nat → List D → List Cell → Prop, Iv 0 [] Γ.st ∧ (∀ i acc st, i ≤ n → Iv i acc st → ok { Γ with st := st } ∧ acc.length < sizeLine) ∧
    (∀ i acc st, i < n → Iv i acc st → rg (item i) { Γ with sl := wipeS Γ.sl vs, st := st } (fun Γ3 => rt Γ3 (fun b Γ4 =>
      if b = true then re Γ4 (fun y Γ5 => ∃ d, y = .d d ∧ Iv (i + 1) (acc ++ [d]) (Γ.back Γ5)) NoX else Iv (i + 1) acc (Γ.back Γ4)) NoX) NoX) ∧
    ∀ acc st, Iv n acc st → k acc { Γ with st := st }
/-- the new list, owned or frozen -/
def putLc (o : Bool) (k : KE3) : List D → Gam → Prop := fun acc Γ => Γ.put o (.L (acc.map .d)) k
def rLc (o : Bool) (ri : RI) (rg : RG) (rt : RT) (re : RE) (vs : List Nat) : RE := fun Γ k x => ri Γ (fun n item ok Γ1 => LcW rg rt re vs n item ok Γ1 (putLc o k)) x
def rtYes : RT := fun Γ k _ => k true Γ
section
variable {K : PySem.W.Frag} {X : Cx} {W : WX}
theorem back_len (Γ Γ5 : Gam) : (Γ.back Γ5).length = min Γ.st.length Γ5.st.length := trimC_len _ _ _
/-- the state behind a turn, seen with the slots of before -/
theorem Sta.back {w w2 w5 : Wd} {H H2 H5 : Hp} {σ σ5 : L2.St} {Γ Γ5 : Gam} {st : List Cell} (S0 : Sta K w H σ Γ) (S2 : Sta K w2 H2 σ { Γ with st := st }) (g2 : Grow w H w2 H2) (hl : w2.as = w.as) (S5 : Sta K w5 H5 σ5 Γ5) (g5 : Grow w2 H2 w5 H5) :
    ∃ w6, Sta K w6 H5 σ { Γ with st := Γ.back Γ5 } ∧ Grow w H w6 H5 ∧ w6.as = w.as ∧ w6.F = w5.F := by
  obtain ⟨more, em⟩ := g5.as
  have et : w5.as.take w.as.length = w.as := by rw [em, hl, List.take_left']; rfl
  have gg := g2.trans g5
  refine ⟨{ w5 with as := w5.as.take w.as.length }, ⟨S5.sub, fun e => ((congrArg Lks.l gg.lks).trans (S0.lkd e) : w5.lks.l = []), ?_, ?_, fun n c a h1 h2 => ?_, fun a m => S5.alive a (List.mem_of_mem_take m), S0.slen, fun i x h => ?_⟩, ⟨gg.le, ⟨[], by rw [et, List.append_nil]⟩, gg.lks, gg.fr, fun a m => gg.nw a (List.mem_of_mem_take m), gg.nf⟩, et, rfl⟩
  · exact S5.nd.sublist (List.take_sublist _ _)
  · show (w5.as.take w.as.length).length = (Γ.back Γ5).length
    rw [back_len, List.length_take, S5.len, S0.len]
  · have h1' : (trimC Γ.st.length Γ.st.length Γ5.st)[n]? = some c := h1
    obtain ⟨hl, hc⟩ := trimC_at _ _ _ _ _ h1'
    have h2' : (w5.as.take w.as.length)[n]? = some a := h2
    rw [S0.len, List.getElem?_take_of_lt hl] at h2'
    rcases hc with rfl | ⟨hc, ok⟩
    · trivial
    · rw [← S0.len] at ok
      exact Cell.ok_at ok (S5.cells n c a hc h2')
  · obtain ⟨v, e, r⟩ := S2.slots i x h
    refine ⟨v, e, ?_⟩
    cases x with
    | d x => exact Fz.le g5.le r
    | own n =>
      obtain ⟨a, e2, e3⟩ := r
      refine ⟨a, ?_, e3⟩
      show (w5.as.take w.as.length)[n]? = some a
      rw [et, ← hl]
      exact e2
end
end L3

namespace L3
open PySem L2 PyProof.Rows
section
variable {K : PySem.W.Frag} {X : Cx} {W : WX}
theorem FzL.snoc {F : Hp} {v : V} {x : D} : ∀ {vs : List V} {xs : List D}, FzL K F vs xs → Fz K F v x → FzL K F (vs ++ [v]) (xs ++ [x])
  | [], [], .nil, hx => .cons hx .nil
  | _, _, .cons a l, h => .cons a (l.snoc h)
theorem Hid.of {w : Wd} {H : Hp} {p : Addr} {o : HO} (hf : w.F p = none) (ha : p ∉ w.as) (ht : ∀ xs, o ≠ .tup xs) : Hid w (upd H p o) p o := ⟨upd_same, hf, ha, ht⟩
/-- what the finished list is to the reading -/
theorem put_done {w1 w : Wd} {H1 H : Hp} {σ : L2.St} {Γ : Gam} {D : Addr} {vs : List V} {acc : List L3.D} {o : Bool} {k : KE3} {Q : VK} (S : Sta K w H σ Γ) (h : Hid w H D (.lst vs)) (l : FzL K w.F vs acc) (g : Grow w1 H1 w H) (hD : H1 D = none) (hp : putLc o k acc Γ)
    (hk : ∀ v w' H' y Γ', k y Γ' → Sta K w' H' σ Γ' → VR K w' v y → Grow w1 H1 w' H' → Q v H') : Q (.ref D) H := by
  cases o with
  | true =>
    have hv : Paired (VR K { w with as := w.as ++ [D] }) vs (acc.map .d) := FzL.vr (w := { w with as := w.as ++ [D] }) l
    obtain ⟨S2, g2⟩ := S.adoptO h (c := .L (acc.map .d)) ⟨h.f, vs, h.h, hv⟩ g hD
    exact hk _ _ _ _ _ hp S2 ⟨D, S.newOR D, rfl⟩ g2
  | false =>
    obtain ⟨d, e, hp⟩ := hp
    obtain ⟨ds, e1, rfl⟩ := Option.map_eq_some_iff.mp (show (dvals (acc.map .d)).map L3.D.lst = some d from e)
    rw [dvals_map] at e1
    cases e1
    obtain ⟨S2, g2⟩ := S.adoptF h (fun _ _ z => by cases z) g hD
    exact hk _ _ _ _ _ hp S2 (Fz.lst upd_same (l.le (upd_le h.f))) g2
theorem lc_sound {wi : TI} {ri : RI} {g : TG} {rg : RG} {rt : RT} {re : RE} {vs js : List Nat} {o : Bool} (si : SI K W wi ri) (sg : SGc K g rg js) (hj : ∀ j, j ∈ js → j ∈ vs) :
    SE K W (tLc wi g (starT K WF rt) (starE K WF re) vs) (rLc o ri rg rt re vs) := ⟨fun w H σ Γ Q k x S h hk hx => by
  refine si.go w H σ Γ _ _ x S h (fun J w1 H1 n item ok Γ1 h1 S1 g1 it => ?_) hx
  intro D hD
  obtain ⟨Iv, h0, hok, hs, hd⟩ := h1
  refine ⟨fun i m H' => m = n - i ∧ i ≤ n ∧ ∃ w' acc st vs', Sta K w' H' σ { Γ1 with st := st } ∧ Grow w1 H1 w' H' ∧ w'.as = w1.as ∧ Hid w' H' D (.lst vs') ∧ FzL K w'.F vs' acc ∧ Iv i acc st, ⟨n, by simp, Nat.zero_le _, w1, [], Γ1.st, [], ?_, (Grow.refl _ _).side hD, rfl, Hid.of (S1.Fnone hD) (S1.fresh hD) (fun _ z => by cases z), .nil, h0⟩, ?_⟩
  · exact S1.side (S1.Fnone hD) (S1.fresh hD)
  rintro i m H' ⟨rfl, hi, w2, acc, st, us, S2, g2, hl, hid, lz, iv⟩
  obtain ⟨okk, hlen⟩ := hok i acc st hi iv
  obtain ⟨hstop, hgo⟩ := it i w2 H' σ _ hi S2 g2 okk
  by_cases hlt : i < n
  · obtain ⟨go, hy⟩ := hgo hlt
    refine .inr ⟨go, fun H'' => ∃ w' acc st vs', Sta K w' H'' σ { Γ1 with st := st } ∧ Grow w1 H1 w' H'' ∧ w'.as = w1.as ∧ Hid w' H'' D (.lst vs') ∧ FzL K w'.F vs' acc ∧ Iv (i + 1) acc st, fun H'' z => ⟨n - (i + 1), by omega, rfl, hlt, z⟩, fun v H3 y => ?_⟩
    obtain ⟨w3, S3, r3, g3⟩ := hy v H3 y
    refine sg.go w3 H3 (L2.wipe σ vs) _ v _ _ _ (S3.wipe vs) r3 (hs i acc st hlt iv) fun w4 H4 σ4 Γ4 h4 S4 g4 f4 => ⟨wipe_eq (f4.1.trans (wipe_length σ vs)) fun j hm => f4.2 j (fun z => hm (hj j z)), w4, Γ4, _, NoX, S4, h4, fun b w5 H5 Γ5 h5 S5 g5 => ?_, brx_nox⟩
    have gg := (g3.trans g4).trans g5
    cases b with
    | false =>
      obtain ⟨w6, S6, g6, e6, f6⟩ := Sta.back S1 S2 g2 hl S5 gg
      have h5' := hid.grow gg
      exact ⟨w6, acc, _, us, S6, g6, e6, ⟨h5'.h, by rw [f6]; exact h5'.f, by rw [e6, ← hl]; exact hid.a, h5'.t⟩, by rw [f6]; exact lz.le gg.le, h5⟩
    | true =>
      refine ⟨w5, Γ5, _, NoX, S5, h5, fun u w6 H6 yy Γ6 h6 S6 r6 g6 => ?_, brx_nox⟩
      obtain ⟨d, rfl, h6⟩ := h6
      have ggg := gg.trans g6
      have h6' := hid.grow ggg
      obtain ⟨w7, S7, g7, e7, f7⟩ := Sta.back S1 S2 g2 hl S6 ggg
      have hF : w7.F D = none := by rw [f7]; exact h6'.f
      have hA : D ∉ w7.as := by rw [e7, ← hl]; exact hid.a
      refine ⟨us, h6'.h, by rw [lz.length]; exact hlen, w7, acc ++ [d], _, us ++ [u], S7.side hF hA, g7.side hD, e7, Hid.of hF hA (fun _ z => by cases z), ?_, h6⟩
      rw [f7]
      exact (lz.le ggg.le).snoc r6
  · have e : i = n := by omega
    subst e
    refine .inl ⟨hstop rfl, put_done S2 hid lz g2 hD (hd acc st iv) fun v w' H' y Γ' a b c d => hk v w' H' y Γ' a b c (g1.trans d)⟩⟩
end

/-! ### tests of a comprehension -/
structure PTs3 (X : Cx) (ifs : List Expr) (rt : RT) : Prop where
  p : PTs X ifs (starT X.K WF rt)
theorem ts_nil {X : Cx} : PTs3 X [] rtYes := ⟨⟨fun pins s σ H Q I h => pts_nil.run pins s σ H Q I (by
  obtain ⟨w, Γ, k, x, S, h, hk, _⟩ := h
  exact hk true w H Γ h S (Grow.refl _ _))⟩⟩
theorem ts_one {X : Cx} {c : Expr} {rt : RT} (h : PT3 X WF c rt) : PTs3 X [c] rt := ⟨pts_one h.star⟩
section
variable {X : Cx} {W : WX} {elt tg iter : Expr} {ifs : List Expr} {scope : Scope} {own : List (Str × Nat)} {pos spos py : Pos} {ri : RI} {g : TG} {rg : RG} {rt : RT} {re : RE} {js : List Nat} {i : Nat} {y : Str}
theorem w_lc (o : Bool) (c : Good X W) (hi : PI3 X W tg iter ri) (ok : BlkOk X.N X.env.scope scope own)
    (hg : ∀ (s : Shared) (H : Hp) (C : Addr) (cl : List (Str × Addr)) (fp : List Addr), PGc (X.blk s H scope (compEnvC scope cl C X.env) fp) tg g rg js) (ht : ∀ (s : Shared) (H : Hp) (C : Addr) (cl : List (Str × Addr)) (fp : List Addr), PTs3 (X.blk s H scope (compEnvC scope cl C X.env) fp) ifs rt)
    (he : ∀ (s : Shared) (H : Hp) (C : Addr) (cl : List (Str × Addr)) (fp : List Addr), PE3 (X.blk s H scope (compEnvC scope cl C X.env) fp) WF elt re) (hj : ∀ j, j ∈ js → j ∈ own.map (·.2) := by decide) (hs : ∀ x, foldedSetIterable iter X.env x = pure x := by intro _; rfl) :
    PE3 X W (.ListComp elt [⟨tg, iter, ifs, 0⟩] scope pos) (rLc o ri rg rt re (own.map (·.2))) := by
  obtain ⟨wi, pi, si⟩ := hi.ex
  exact ⟨_, pe_lc c.calm c.nd pi ok (fun s H C cl fp => (hg s H C cl fp).p) (fun s H C cl fp => (ht s H C cl fp).p) (fun s H C cl fp => (he s H C cl fp).star) hs, lc_sound si (hg X.s_0 X.H_0 0 [] []).s hj⟩
theorem s_setLc (o : Bool) (c : Good X W) (i : Nat) (hsw : swapsWith (.ListComp elt [⟨tg, iter, ifs, 0⟩] scope pos) (some (.Name y py)) spos.line X.env = pure true) (hi : PI3 X W tg iter ri) (ok : BlkOk X.N X.env.scope scope own)
    (hg : ∀ (s : Shared) (H : Hp) (C : Addr) (cl : List (Str × Addr)) (fp : List Addr), PGc (X.blk s H scope (compEnvC scope cl C X.env) fp) tg g rg js) (ht : ∀ (s : Shared) (H : Hp) (C : Addr) (cl : List (Str × Addr)) (fp : List Addr), PTs3 (X.blk s H scope (compEnvC scope cl C X.env) fp) ifs rt)
    (he : ∀ (s : Shared) (H : Hp) (C : Addr) (cl : List (Str × Addr)) (fp : List Addr), PE3 (X.blk s H scope (compEnvC scope cl C X.env) fp) WF elt re) (hy : X.N[i]? = some y := by rfl) (hyl : X.env.scope.names.lookup y = some .local := by rfl) (hj : ∀ j, j ∈ js → j ∈ own.map (·.2) := by decide) (hs : ∀ x, foldedSetIterable iter X.env x = pure x := by intro _; rfl) :
    PS3 X W (.Assign [.Name y py] (.ListComp elt [⟨tg, iter, ifs, 0⟩] scope pos) spos) (rAsg (rLc o ri rg rt re (own.map (·.2))) (rgName i)) := by
  obtain ⟨wi, pi, si⟩ := hi.ex
  exact ⟨_, ps_setLc c.calm c.nd hy hyl hsw pi ok (fun s H C cl fp => (hg s H C cl fp).p) (fun s H C cl fp => (ht s H C cl fp).p) (fun s H C cl fp => (he s H C cl fp).star) hs, ss_asg (lc_sound si (hg X.s_0 X.H_0 0 [] []).s hj) (sg_name i)⟩
end
end L3

namespace L3
open PySem L2 PyProof.Rows

/-! ### cells seen by other numbers -/
def Val.mp (f : Nat → Nat) : Val → Val
  | .d x => .d x
  | .own n => .own (f n)
def Cell.mp (f : Nat → Nat) : Cell → Cell
  | .L xs => .L (xs.map (Val.mp f))
  | .M kvs => .M (kvs.map fun p => (p.1, p.2.mp f))
  | .T kvs => .T (kvs.map fun p => (p.1, p.2.mp f))
  | .O C fs => .O C (fs.map fun p => (p.1, p.2.mp f))
  | .fz x => .fz x
  | .no => .no
def Val.all (p : Nat → Bool) : Val → Bool
  | .d _ => true
  | .own n => p n
def Cell.all (p : Nat → Bool) : Cell → Bool
  | .L xs => xs.all (Val.all p)
  | .M kvs => kvs.all fun q => q.2.all p
  | .T kvs => kvs.all fun q => q.2.all p
  | .O _ fs => fs.all fun q => q.2.all p
  | .fz _ => true
  | .no => true
section
variable {K : PySem.W.Frag} {w w' : Wd} {H : Hp} {f : Nat → Nat} {p : Nat → Bool}
theorem VR.mp (hF : w'.F = w.F) (h : ∀ n a, p n = true → w.as[n]? = some a → w'.as[f n]? = some a) {v : V} : ∀ {x : Val}, x.all p = true → VR K w v x → VR K w' v (x.mp f)
  | .d x, _, r => by
    show Fz K w'.F v x
    rw [hF]
    exact r
  | .own n, hp, ⟨a, e, r⟩ => ⟨a, h n a hp e, r⟩
theorem vrs_mp (hF : w'.F = w.F) (h : ∀ n a, p n = true → w.as[n]? = some a → w'.as[f n]? = some a) : ∀ {vs : List V} {xs : List Val}, xs.all (Val.all p) = true → Paired (VR K w) vs xs → Paired (VR K w') vs (xs.map (Val.mp f))
  | _, _, _, .nil => .nil
  | _, _, hp, .cons r l => by
    replace hp := allTwo hp
    exact .cons (r.mp hF h hp.1) (vrs_mp hF h hp.2 l)
theorem mp_fst {κ : Type} (l : List (κ × Val)) : (l.map fun q => (q.1, q.2.mp f)).map (·.1) = l.map (·.1) := by
  rw [List.map_map]
  rfl
theorem mp_snd {κ : Type} (l : List (κ × Val)) : (l.map fun q => (q.1, q.2.mp f)).map (·.2) = (l.map (·.2)).map (Val.mp f) := by
  simp only [List.map_map]
  rfl
theorem all_snd {κ : Type} {l : List (κ × Val)} (h : (l.all fun q => q.2.all p) = true) : (l.map (·.2)).all (Val.all p) = true := by
  rw [List.all_map]
  exact h
theorem CellOk.mp {a : Addr} (hF : w'.F = w.F) (h : ∀ n a, p n = true → w.as[n]? = some a → w'.as[f n]? = some a) {c : Cell} (hc : c.all p = true) (k : CellOk K w H a c) : CellOk K w' H a (c.mp f) := by
  cases c with
  | L xs => obtain ⟨h1, vs, h2, h3⟩ := k; exact ⟨by rw [hF]; exact h1, vs, h2, vrs_mp hF h hc h3⟩
  | M xs => obtain ⟨h1, vs, h2, e, h3⟩ := k; exact ⟨by rw [hF]; exact h1, vs, h2, by rw [mp_fst]; exact e, by rw [mp_snd]; exact vrs_mp hF h (all_snd hc) h3⟩
  | T xs => obtain ⟨h1, vs, h2, e, h3⟩ := k; exact ⟨by rw [hF]; exact h1, vs, h2, by rw [mp_fst]; exact e, by rw [mp_snd]; exact vrs_mp hF h (all_snd hc) h3⟩
  | O C xs => obtain ⟨h1, dx, vs, h2, e, h3⟩ := k; exact ⟨by rw [hF]; exact h1, dx, vs, h2, by rw [mp_fst]; exact e, by rw [mp_snd]; exact vrs_mp hF h (all_snd hc) h3⟩
  | fz x =>
    show Fz K w'.F (.ref a) x
    rw [hF]
    exact k
  | no => trivial
theorem Val.all_true : ∀ x : Val, x.all (fun _ => true) = true
  | .d _ => rfl
  | .own _ => rfl
theorem Cell.all_true : ∀ c : Cell, c.all (fun _ => true) = true
  | .L xs => by simp [Cell.all, Val.all_true]
  | .M xs => by simp [Cell.all, Val.all_true]
  | .T xs => by simp [Cell.all, Val.all_true]
  | .O C xs => by simp [Cell.all, Val.all_true]
  | .fz _ => rfl
  | .no => rfl
end
/-- n's place among the handed cells -/
def posIn : List Nat → Nat → Nat
  | [], _ => 0
  | m :: ix, n => if m = n then 0 else posIn ix n + 1
theorem posIn_at : ∀ {ix : List Nat} {n : Nat}, n ∈ ix → ix[posIn ix n]? = some n
  | [], _, h => by cases h
  | m :: ix, n, h => by
    unfold posIn
    by_cases e : m = n
    · rw [if_pos e, e]
      rfl
    · rw [if_neg e]
      have h' : n ∈ ix := (List.mem_cons.mp h).elim (fun z => absurd z.symm e) id
      simpa using posIn_at h'
/-- a callee's number to the caller's: k cells were handed, the caller had b -/
def backN (ix : List Nat) (b : Nat) (j : Nat) : Nat := if j < ix.length then ix.getD j 0 else b + (j - ix.length)
def mergeSt (f : Nat → Nat) : List Nat → List Cell → List Cell → List Cell
  | n :: ix, c :: cs, st => mergeSt f ix cs (st.set n (c.mp f))
  | [], cs, st => st ++ cs.map (Cell.mp f)
  | _ :: _, [], st => st
theorem mergeSt_at (f : Nat → Nat) : ∀ (ix : List Nat) (cs st : List Cell) (n : Nat) (c : Cell), ix.Nodup → (mergeSt f ix cs st)[n]? = some c →
    (n < st.length ∧ (n ∉ ix ∨ ix.length > cs.length) ∧ st[n]? = some c) ∨ (∃ (j : Nat) (c' : Cell), ix[j]? = some n ∧ cs[j]? = some c' ∧ c = c'.mp f) ∨ ∃ (i : Nat) (c' : Cell), n = st.length + i ∧ cs[ix.length + i]? = some c' ∧ c = c'.mp f
  | [], cs, st, n, c, _, h => by
    unfold mergeSt at h
    by_cases hn : n < st.length
    · rw [List.getElem?_append_left hn] at h
      exact .inl ⟨hn, .inl (by simp), h⟩
    · rw [List.getElem?_append_right (by omega), List.getElem?_map] at h
      obtain ⟨c', e1, e2⟩ := Option.map_eq_some_iff.mp h
      exact .inr (.inr ⟨n - st.length, c', by omega, by simpa using e1, e2.symm⟩)
  | m :: ix, [], st, n, c, _, h => by
    unfold mergeSt at h
    exact .inl ⟨(List.getElem?_eq_some_iff.mp h).1, .inr (by simp), h⟩
  | m :: ix, d :: cs, st, n, c, nd, h => by
    unfold mergeSt at h
    obtain ⟨nd1, nd2⟩ := nodTwo nd
    rcases mergeSt_at f ix cs (st.set m (d.mp f)) n c nd2 h with ⟨h1, h2, h3⟩ | ⟨j, c', h1, h2, h3⟩ | ⟨i, c', h1, h2, h3⟩
    · rw [List.length_set] at h1
      by_cases e : m = n
      · subst e
        rw [List.getElem?_set_self h1] at h3
        exact .inr (.inl ⟨0, d, rfl, rfl, (Option.some.inj h3).symm⟩)
      · rw [List.getElem?_set_ne e] at h3
        refine .inl ⟨h1, ?_, h3⟩
        rcases h2 with h2 | h2
        · exact .inl fun z => (List.mem_cons.mp z).elim (fun z => e z.symm) h2
        · exact .inr (by simpa using h2)
    · exact .inr (.inl ⟨j + 1, c', by rw [List.getElem?_cons_succ]; exact h1, by rw [List.getElem?_cons_succ]; exact h2, h3⟩)
    · rw [List.length_set] at h1
      refine .inr (.inr ⟨i, c', h1, ?_, h3⟩)
      have : (m :: ix).length + i = (ix.length + i) + 1 := by simp; omega
      rw [this]
      simpa using h2
theorem mergeSt_len (f : Nat → Nat) : ∀ (ix : List Nat) (cs st : List Cell), ix.length ≤ cs.length → (mergeSt f ix cs st).length = st.length + (cs.length - ix.length)
  | [], cs, st, _ => by simp [mergeSt]
  | m :: ix, [], st, h => by simp at h
  | m :: ix, d :: cs, st, h => by
    unfold mergeSt
    rw [mergeSt_len f ix cs _ (by simpa using h), List.length_set]
    simp
/-- what the callee is given -/
def handed (ix : List Nat) (st : List Cell) : List Cell := ix.map fun n => (st.getD n .no).mp (posIn ix)
section
variable {K : PySem.W.Frag} {w w' w2 : Wd} {H H' : Hp} {σ : L2.St} {Γ : Gam} {ix : List Nat}
/-- may the cells ix be handed over -/
structure HandOk (ix : List Nat) (Γ : Gam) (ys : List Val) : Prop where
  nd : ix.Nodup
  lt : ∀ n, n ∈ ix → n < Γ.st.length
  cl : ∀ n, n ∈ ix → (Γ.st.getD n .no).all (fun m => decide (m ∈ ix)) = true
  ar : ys.all (Val.all fun m => decide (m ∈ ix)) = true
def calleeW (w : Wd) (ix : List Nat) : Wd := { w with as := ix.map fun n => w.as.getD n 0 }
theorem calleeW_at (h : ∀ n, n ∈ ix → n < w.as.length) (n : Nat) (a : Addr) (hn : n ∈ ix) (e : w.as[n]? = some a) : (calleeW w ix).as[posIn ix n]? = some a := by
  show (ix.map fun n => w.as.getD n 0)[posIn ix n]? = some a
  rw [List.getElem?_map, posIn_at hn, Option.map_some]
  simp only [List.getD_eq_getElem?_getD, e]
  rfl
theorem nodup_map_on {α β : Type} {f : α → β} : ∀ {l : List α}, (∀ a, a ∈ l → ∀ b, b ∈ l → f a = f b → a = b) → l.Nodup → (l.map f).Nodup
  | [], _, _ => List.nodup_nil
  | x :: l, h, nd => by
    obtain ⟨n1, n2⟩ := nodTwo nd
    rw [List.map_cons]
    refine List.nodup_cons.mpr ⟨fun m => ?_, nodup_map_on (fun a ha b hb => h a (List.mem_cons_of_mem _ ha) b (List.mem_cons_of_mem _ hb)) n2⟩
    obtain ⟨z, hz, e⟩ := List.mem_map.mp m
    exact n1 ((h z (List.mem_cons_of_mem _ hz) x List.mem_cons_self e) ▸ hz)
/-- the callee's state -/
theorem Sta.callee (S : Sta K w H σ Γ) {ys : List Val} {vs : List V} (ho : HandOk ix Γ ys) (r : Paired (VR K w) vs ys) :
    Sta K (calleeW w ix) H (vs.map some) ⟨(ys.map (Val.mp (posIn ix))).map some, handed ix Γ.st, Γ.lk⟩ := by
  have lt : ∀ n, n ∈ ix → n < w.as.length := fun n hn => by rw [S.len]; exact ho.lt n hn
  have key : ∀ n a, decide (n ∈ ix) = true → w.as[n]? = some a → (calleeW w ix).as[posIn ix n]? = some a := fun n a hn e => calleeW_at lt n a (of_decide_eq_true hn) e
  have r' := vrs_mp (w := w) (w' := calleeW w ix) rfl key ho.ar r
  have at_ : ∀ (j : Nat) (a : Addr), (calleeW w ix).as[j]? = some a → ∃ n, ix[j]? = some n ∧ n ∈ ix ∧ w.as[n]? = some a := fun j a e => by
    have e' : (ix.map fun n => w.as.getD n 0)[j]? = some a := e
    rw [List.getElem?_map] at e'
    obtain ⟨n, e1, e2⟩ := Option.map_eq_some_iff.mp e'
    have hn := List.mem_of_getElem? e1
    have hl := lt n hn
    refine ⟨n, e1, hn, ?_⟩
    rw [List.getD_eq_getElem?_getD, List.getElem?_eq_getElem hl] at e2
    rw [List.getElem?_eq_getElem hl]
    exact congrArg some e2
  refine ⟨S.sub, S.lkd, ?_, ?_, fun j c a h1 h2 => ?_, fun a m => ?_, ?_, fun i x h => ?_⟩
  · show (ix.map fun n => w.as.getD n 0).Nodup
    refine nodup_map_on (fun a ha b hb e => ?_) ho.nd
    have la := lt a ha
    have lb := lt b hb
    simp only [List.getD_eq_getElem?_getD, List.getElem?_eq_getElem la, List.getElem?_eq_getElem lb, Option.getD_some] at e
    exact nodup_at S.nd (List.getElem?_eq_getElem la) (by rw [List.getElem?_eq_getElem lb, e])
  · show (ix.map _).length = (ix.map _).length
    rw [List.length_map, List.length_map]
  · obtain ⟨n, e1, hn, e2⟩ := at_ j a h2
    have h1' : (ix.map fun n => (Γ.st.getD n .no).mp (posIn ix))[j]? = some c := h1
    rw [List.getElem?_map, e1, Option.map_some] at h1'
    cases h1'
    have hl := ho.lt n hn
    have ec : Γ.st[n]? = some (Γ.st.getD n .no) := by rw [List.getD_eq_getElem?_getD, List.getElem?_eq_getElem hl]; rfl
    exact (S.cells n _ a ec e2).mp (w := w) (w' := calleeW w ix) rfl key (ho.cl n hn)
  · obtain ⟨j, e⟩ := List.getElem?_of_mem m
    obtain ⟨n, _, _, e2⟩ := at_ j a e
    exact S.alive a (List.mem_of_getElem? e2)
  · show (vs.map some).length = ((ys.map (Val.mp (posIn ix))).map some).length
    rw [List.length_map, List.length_map, vrs_length r']
  · have h' : ((ys.map (Val.mp (posIn ix))).map some)[i]? = some (some x) := h
    rw [List.getElem?_map] at h'
    obtain ⟨y, e1, e2⟩ := Option.map_eq_some_iff.mp h'
    cases e2
    obtain ⟨v, e3, e4⟩ : ∃ v, vs[i]? = some v ∧ VR K (calleeW w ix) v x := by
      clear h h' at_ key lt
      generalize ys.map (Val.mp (posIn ix)) = zs at r' e1
      clear r
      induction r' generalizing i with
      | nil => simp at e1
      | cons r0 _ ih =>
        cases i with
        | zero => simp at e1; subst e1; exact ⟨_, rfl, r0⟩
        | succ i => simpa using ih i (by simpa using e1)
    exact ⟨v, by rw [List.getElem?_map, e3]; rfl, e4⟩
/-- the caller's state behind the call -/
def callerW (w w' : Wd) (k : Nat) : Wd := { w' with as := w.as ++ w'.as.drop k }
theorem Sta.caller (S : Sta K w H σ Γ) {ys : List Val} (ho : HandOk ix Γ ys) {σ' : L2.St} {Γ' : Gam} (S' : Sta K w' H' σ' Γ') (g : Grow (calleeW w ix) H w' H') :
    Sta K (callerW w w' ix.length) H' σ { Γ with st := mergeSt (backN ix Γ.st.length) ix Γ'.st Γ.st } ∧ Grow w H (callerW w w' ix.length) H' ∧
      ∀ v y, VR K w' v y → VR K (callerW w w' ix.length) v (y.mp (backN ix Γ.st.length)) := by
  have lt : ∀ n, n ∈ ix → n < w.as.length := fun n hn => by rw [S.len]; exact ho.lt n hn
  obtain ⟨more, em⟩ := g.as
  have el : (calleeW w ix).as.length = ix.length := by show (ix.map _).length = _; rw [List.length_map]
  have ed : w'.as.drop ix.length = more := by rw [em, ← el, List.drop_left']; rfl
  have ew : (callerW w w' ix.length).as = w.as ++ more := by show w.as ++ w'.as.drop ix.length = _; rw [ed]
  have memc : ∀ a, a ∈ (calleeW w ix).as → a ∈ w.as := fun a m => by
    obtain ⟨n, hn, rfl⟩ := List.mem_map.mp (show a ∈ ix.map fun n => w.as.getD n 0 from m)
    have hl := lt n hn
    rw [List.getD_eq_getElem?_getD, List.getElem?_eq_getElem hl]
    exact List.getElem_mem hl
  have hH : ∀ a, a ∈ more → a ∉ w.as := fun a m hw => by
    rcases g.nw a (by rw [em]; exact List.mem_append_right _ m) with z | z
    · have nd := S'.nd
      rw [em] at nd
      exact (List.nodup_append.mp nd).2.2 a z a m rfl
    · exact S.alive a hw z
  have key : ∀ n a, true = true → w'.as[n]? = some a → (callerW w w' ix.length).as[backN ix Γ.st.length n]? = some a := fun n a _ e => by
    rw [ew]
    unfold backN
    rw [em] at e
    by_cases hn : n < ix.length
    · rw [if_pos hn]
      rw [List.getElem?_append_left (by rw [el]; exact hn)] at e
      have e' : (ix.map fun n => w.as.getD n 0)[n]? = some a := e
      rw [List.getElem?_map, List.getElem?_eq_getElem hn, Option.map_some] at e'
      have hm : ix[n] ∈ ix := List.getElem_mem hn
      have hl := lt _ hm
      rw [List.getD_eq_getElem?_getD, List.getElem?_eq_getElem hn, Option.getD_some]
      rw [List.getElem?_append_left hl, List.getElem?_eq_getElem hl]
      rw [List.getD_eq_getElem?_getD, List.getElem?_eq_getElem hl] at e'
      exact e'
    · rw [if_neg hn]
      rw [List.getElem?_append_right (by rw [el]; omega), el] at e
      rw [List.getElem?_append_right (by rw [S.len]; omega), S.len]
      have : Γ.st.length + (n - ix.length) - Γ.st.length = n - ix.length := by omega
      rw [this]
      exact e
  have vr : ∀ v y, VR K w' v y → VR K (callerW w w' ix.length) v (y.mp (backN ix Γ.st.length)) := fun v y r => r.mp (w := w') (w' := callerW w w' ix.length) (p := fun _ => true) rfl key (Val.all_true y)
  have gg : Grow w H (callerW w w' ix.length) H' := by
    refine ⟨g.le, ⟨more, ew⟩, g.lks, fun a o h m => g.fr a o h fun z => m (memc a z), fun a m => ?_, fun a h => ?_⟩
    · rw [ew] at m
      rcases inApp m with z | z
      · exact .inl z
      · rcases g.nw a (by rw [em]; exact List.mem_append_right _ z) with y | y
        · exact .inl (memc a y)
        · exact .inr y
    · rcases g.nf a h with z | z | z | z
      · exact .inl z
      · exact .inr (.inl (memc a z))
      · exact .inr (.inr (.inl z))
      · exact .inr (.inr (.inr z))
  have hlen : ix.length ≤ Γ'.st.length := by rw [← S'.len, em, List.length_append, el]; omega
  refine ⟨⟨S'.sub, fun e => ((congrArg Lks.l g.lks).trans (S.lkd e) : w'.lks.l = []), ?_, ?_, fun n c a h1 h2 => ?_, fun a m => ?_, S.slen, S.slotsG gg⟩, gg, vr⟩
  · rw [ew]
    refine List.nodup_append.mpr ⟨S.nd, ?_, fun a ha b hb e => hH b hb (e ▸ ha)⟩
    have nd := S'.nd
    rw [em] at nd
    exact (List.nodup_append.mp nd).2.1
  · show (callerW w w' ix.length).as.length = (mergeSt _ ix Γ'.st Γ.st).length
    rw [ew, mergeSt_len _ _ _ _ hlen, List.length_append, S.len, ← S'.len, em, List.length_append, el]
    omega
  · have h1' : (mergeSt (backN ix Γ.st.length) ix Γ'.st Γ.st)[n]? = some c := h1
    rw [ew] at h2
    rcases mergeSt_at _ ix Γ'.st Γ.st n c ho.nd h1' with ⟨hn, hni, hc⟩ | ⟨j, c', hj, hc', rfl⟩ | ⟨i, c', hi, hc', rfl⟩
    · rcases hni with hni | hni
      · rw [List.getElem?_append_left (by rw [S.len]; exact hn)] at h2
        have k := S.cells n c a hc h2
        have hnc : a ∉ (calleeW w ix).as := fun m => by
          obtain ⟨q, hq, e⟩ := List.mem_map.mp (show a ∈ ix.map fun n => w.as.getD n 0 from m)
          have hl := lt q hq
          rw [List.getD_eq_getElem?_getD, List.getElem?_eq_getElem hl] at e
          have := nodup_at S.nd h2 (i := n) (j := q) (by rw [List.getElem?_eq_getElem hl]; exact congrArg some e)
          exact hni (this ▸ hq)
        have ha := S.alive a (List.mem_of_getElem? h2)
        cases eH : H a with
        | none => exact absurd eH ha
        | some o =>
          have e' : H' a = some o := g.fr a o eH hnc
          by_cases htup : ∃ xs, o = .tup xs
          · obtain ⟨xs, rfl⟩ := htup
            cases c with
            | L xs => obtain ⟨_, vs, e2, _⟩ := k; rw [eH] at e2; cases e2
            | M xs => obtain ⟨_, vs, e2, _⟩ := k; rw [eH] at e2; cases e2
            | T xs => obtain ⟨_, vs, e2, _⟩ := k; rw [eH] at e2; cases e2
            | O C xs => obtain ⟨_, dx, vs, e2, _⟩ := k; rw [eH] at e2; cases e2
            | fz x => exact Fz.le gg.le k
            | no => exact trivial
          · refine k.keep (w := w) (w' := callerW w w' ix.length) gg.le gg.as (fun z => ?_) (by rw [e', eH])
            cases eF : w'.F a with
            | none => exact eF
            | some u =>
              rcases g.nf a (by rw [eF]; intro z; cases z) with y | y | y | ⟨xs, y⟩
              · exact absurd z y
              · exact absurd y hnc
              · rw [eH] at y; cases y
              · rw [eH] at y; exact absurd ⟨xs, Option.some.inj y⟩ htup
      · exact absurd hni (by omega)
    · have hjl : j < ix.length := (List.getElem?_eq_some_iff.mp hj).1
      have hjl' : j < w'.as.length := by rw [em, List.length_append, el]; omega
      have ea := key j w'.as[j] rfl (List.getElem?_eq_getElem hjl')
      rw [ew] at ea
      unfold backN at ea
      rw [if_pos hjl, List.getD_eq_getElem?_getD, hj, Option.getD_some, h2] at ea
      have k := S'.cells j c' a hc' (by rw [List.getElem?_eq_getElem hjl']; exact ea.symm)
      exact k.mp (w := w') (w' := callerW w w' ix.length) (p := fun _ => true) rfl key (Cell.all_true c')
    · have hjl' : ix.length + i < w'.as.length := by rw [S'.len]; exact (List.getElem?_eq_some_iff.mp hc').1
      have ea := key (ix.length + i) w'.as[ix.length + i] rfl (List.getElem?_eq_getElem hjl')
      rw [ew] at ea
      unfold backN at ea
      have e3 : Γ.st.length + (ix.length + i - ix.length) = n := by omega
      rw [if_neg (by omega), e3, h2] at ea
      have k := S'.cells (ix.length + i) c' a hc' (by rw [List.getElem?_eq_getElem hjl']; exact ea.symm)
      exact k.mp (w := w') (w' := callerW w w' ix.length) (p := fun _ => true) rfl key (Cell.all_true c')
  · rw [ew] at m
    rcases inApp m with z | z
    · by_cases hc : a ∈ (calleeW w ix).as
      · exact S'.alive a (by rw [em]; exact List.mem_append_left _ hc)
      · cases eH : H a with
        | none => exact absurd eH (S.alive a z)
        | some o => rw [g.fr a o eH hc]; exact fun z => by cases z
    · exact S'.alive a (by rw [em]; exact List.mem_append_right _ z)
end
end L3

namespace L3
open PySem L2 PyProof.Rows

/-! ### promises -/
abbrev KR := Val → List Cell → Prop
abbrev XK3 := Addr → List (Str × D) → List Cell → Prop
/-- is a dict locked; the arguments, the cells they stand in; what is wanted of the value and the cells; of an exception -/
abbrev VSp := Bool → List Val → List Cell → KR → XK3 → Prop
def spOf (K : PySem.W.Frag) (sp : VSp) : Sp := fun vs H Q E => ∃ w ys cells lk k x, Sta K w H (vs.map some) ⟨ys.map some, cells, lk⟩ ∧ sp lk ys cells k x ∧
  (∀ v w' H' y st', k y st' → Sta K w' H' [] ⟨[], st', lk⟩ → VR K w' v y → Grow w H w' H' → Q v H') ∧
  ∀ C fs st' w' H' c d, x C fs st' → Sta K w' H' [] ⟨[], st', lk⟩ → XR K w' H' c d C fs → Grow w H w' H' → E c d H'
/-- the value handed back, the cells that were handed in (n of them) and a new one -/
def retK (n : Nat) (k : KR) : KE3 := fun y Γ => match y with
  | .d z => k (.d z) (trimC n n Γ.st)
  | .own m => if m < n then k (.own m) (trimC n n Γ.st) else ∃ c, Γ.st[m]? = some c ∧ c.ok n = true ∧ k (.own n) (trimC n n Γ.st ++ [c])
def endsOf (n : Nat) (k : KR) (x : XK3) : En := { nx := fun Γ => k (.d .non) (trimC n n Γ.st), rt := retK n k, ex := fun C fs Γ => x C fs (trimC n n Γ.st) }
section
variable {K : PySem.W.Frag} {w w' : Wd} {H H' : Hp} {σ σ' : L2.St} {Γ Γ' : Gam}
theorem Sta.adopt {p : Addr} (S : Sta K w H σ Γ) (ha : p ∉ w.as) (hl : H p ≠ none) {c : Cell} (hc : CellOk K { w with as := w.as ++ [p] } H p c) : Sta K { w with as := w.as ++ [p] } H σ { Γ with st := Γ.st ++ [c] } := by
  refine ⟨S.sub, S.lkd, ?_, ?_, fun n c' a h1 h2 => ?_, fun a m => ?_, S.slen, fun i x e => ?_⟩
  · show (w.as ++ [p]).Nodup
    refine List.nodup_append.mpr ⟨S.nd, by simp, fun a h b hb => ?_⟩
    rw [List.mem_singleton.mp hb]
    exact fun e => ha (e ▸ h)
  · show (w.as ++ [p]).length = (Γ.st ++ [c]).length
    rw [List.length_append, List.length_append, S.len]
    rfl
  · have h1' : (Γ.st ++ [c])[n]? = some c' := h1
    have h2' : (w.as ++ [p])[n]? = some a := h2
    by_cases hn : n < Γ.st.length
    · rw [List.getElem?_append_left hn] at h1'
      rw [List.getElem?_append_left (by rw [S.len]; exact hn)] at h2'
      exact (S.cells n c' a h1' h2').keep (w := w) (w' := { w with as := w.as ++ [p] }) (fun _ _ z => z) ⟨[p], rfl⟩ (fun z => z) rfl
    · have hn2 : n = Γ.st.length := by
        have := (List.getElem?_eq_some_iff.mp h1').1
        rw [List.length_append] at this
        have e1 : [c].length = 1 := rfl
        omega
      subst hn2
      rw [List.getElem?_append_right (Nat.le_refl _), Nat.sub_self] at h1'
      rw [← S.len, List.getElem?_append_right (Nat.le_refl _), Nat.sub_self] at h2'
      cases h1'
      cases h2'
      exact hc
  · rcases List.mem_append.mp (show a ∈ w.as ++ [p] from m) with z | z
    · exact S.alive a z
    · rw [inOne z]
      exact hl
  · obtain ⟨v, e1, r⟩ := S.slots i x e
    refine ⟨v, e1, ?_⟩
    cases x with
    | d x => exact r
    | own n =>
      obtain ⟨a, e2, e3⟩ := r
      exact ⟨a, by show (w.as ++ [p])[n]? = some a; rw [List.getElem?_append_left (List.getElem?_eq_some_iff.mp e2).1]; exact e2, e3⟩
theorem Sta.noSlots (S : Sta K w H σ Γ) {lk : Bool} (h : lk = false → w.lks.l = []) : Sta K w H [] ⟨[], Γ.st, lk⟩ := ⟨S.sub, h, S.nd, S.len, S.cells, S.alive, rfl, fun i x e => by simp at e⟩
theorem Sta.trimX (S : Sta K w' H' σ' Γ') (g : Grow w H w' H') : Sta K { w' with as := w'.as.take w.as.length } H' σ' (Γ'.trim w.as.length) ∧ Grow w H { w' with as := w'.as.take w.as.length } H' := by
  obtain ⟨more, em⟩ := g.as
  have et : w'.as.take w.as.length = w.as := by rw [em, List.take_left']; rfl
  refine ⟨⟨S.sub, S.lkd, S.nd.sublist (List.take_sublist _ _), ?_, fun n c a h1 h2 => ?_, fun a m => S.alive a (List.mem_of_mem_take m), ?_, fun i x h => ?_⟩, ⟨g.le, ⟨[], by rw [et, List.append_nil]⟩, g.lks, g.fr, fun a m => g.nw a (List.mem_of_mem_take m), g.nf⟩⟩
  · show (w'.as.take w.as.length).length = (trimC _ _ Γ'.st).length
    rw [trimC_len, List.length_take, S.len]
  · obtain ⟨hl, hc⟩ := trimC_at _ _ _ _ _ h1
    have h2' : (w'.as.take w.as.length)[n]? = some a := h2
    rw [List.getElem?_take_of_lt hl] at h2'
    rcases hc with rfl | ⟨hc, ok⟩
    · trivial
    · exact Cell.ok_at ok (S.cells n c a hc h2')
  · show σ'.length = (trimS _ Γ'.sl).length
    rw [trimS_len]
    exact S.slen
  · obtain ⟨h1, ok⟩ := trimS_at _ _ _ _ h
    obtain ⟨v, e, r⟩ := S.slots i x h1
    exact ⟨v, e, Val.ok_vr (F := w'.F) ok r⟩
/-- what a body hands back, for the caller -/
theorem ret_done {lk : Bool} {st : List Cell} {k : KR} {Q : VK} {v : V} {y : Val} {σ0 : L2.St} {sl : List (Option Val)} (S0 : Sta K w H σ0 ⟨sl, st, lk⟩) (S : Sta K w' H' σ' Γ') (r : VR K w' v y) (g : Grow w H w' H') (h : retK st.length k y Γ')
    (hk : ∀ v w' H' y st', k y st' → Sta K w' H' [] ⟨[], st', lk⟩ → VR K w' v y → Grow w H w' H' → Q v H') : Q v H' := by
  obtain ⟨more, em⟩ := g.as
  have el : w.as.length = st.length := S0.len
  have et : w'.as.take w.as.length = w.as := by rw [em, List.take_left']; rfl
  obtain ⟨S2, g2⟩ := S.trimX g
  have lks : lk = false → w'.lks.l = [] := fun e => (congrArg Lks.l g.lks).trans (S0.lkd e)
  rw [el] at S2 g2
  cases y with
  | d z => exact hk v _ H' (.d z) _ h (S2.noSlots lks) r g2
  | own m =>
    obtain ⟨a, ea, rfl⟩ := r
    unfold retK at h
    simp only at h
    by_cases hm : m < st.length
    · rw [if_pos hm] at h
      refine hk _ _ H' (.own m) _ h (S2.noSlots lks) ⟨a, ?_, rfl⟩ g2
      show (w'.as.take st.length)[m]? = some a
      rw [List.getElem?_take_of_lt hm]
      exact ea
    · rw [if_neg hm] at h
      obtain ⟨c, hc, ok, h⟩ := h
      have hnd : a ∉ w'.as.take st.length := fun mm => by
        obtain ⟨j, ej⟩ := List.getElem?_of_mem mm
        have hj : j < st.length := by
          have := (List.getElem?_eq_some_iff.mp ej).1
          rw [List.length_take] at this
          omega
        rw [List.getElem?_take_of_lt hj] at ej
        have := nodup_at S.nd ej ea
        omega
      have c0 : CellOk K { w' with as := w'.as.take st.length } H' a c := Cell.ok_at ok (S.cells m c a hc ea)
      have c1 : CellOk K { w' with as := w'.as.take st.length ++ [a] } H' a c := c0.keep (w := { w' with as := w'.as.take st.length }) (w' := { w' with as := w'.as.take st.length ++ [a] }) (fun _ _ z => z) ⟨[a], rfl⟩ (fun z => z) rfl
      have S3 := (S2.noSlots lks).adopt (p := a) hnd (S.alive a (List.mem_of_getElem? ea)) c1
      have et' : w'.as.take st.length = w.as := by rw [← el]; exact et
      refine hk _ _ H' (.own st.length) _ h S3 ⟨a, ?_, rfl⟩ ⟨g2.le, ⟨[a], by show w'.as.take st.length ++ [a] = _; rw [et']⟩, g2.lks, g2.fr, fun b mb => ?_, g2.nf⟩
      · show (w'.as.take st.length ++ [a])[st.length]? = some a
        rw [et', ← el, List.getElem?_append_right (Nat.le_refl _), Nat.sub_self]
        rfl
      · rcases List.mem_append.mp (show b ∈ w'.as.take st.length ++ [a] from mb) with z | z
        · exact g2.nw b z
        · rw [inOne z]
          exact g.nw a (List.mem_of_getElem? ea)
end

/-! ### the context of a body -/
theorem good_of {P : Program} {w : World} {K : PySem.W.Frag} {mg : Str → Option Value} {base : Heap} {N : List Str} {qual : Str} {sc : Scope} {f : Addr} {cdv : Value} {A : Around} {outer : List Env} {s : Shared} {H : Hp} {E : XK} {k : Nat} (nd : N.Nodup) (hr : Room k (A.deeper (envOfC qual sc s.heap.objs.size f cdv))) :
    GoodS (cxOf (L2.CX P w) P w K mg base N qual sc f cdv A outer s H E) (fun c d _ H => E c d H) :=
  ⟨⟨rfl, nd, by have := hr.un; show (A.deeper (envOfC qual sc s.heap.objs.size f cdv)).units + 70 < cLine; omega, takes_of rfl rfl rfl rfl⟩, passes_of rfl⟩
theorem Good.blk {X : Cx} {W : WX} (c : Good X W) (s : Shared) (H : Hp) (scope : Scope) (cenv : Env) (fp : List Addr) : Good (X.blk s H scope cenv fp) WF := ⟨c.calm, c.nd, c.un, takes0⟩
/-- a def keeps its promise: its body's heap-free reading, and what that reads -/
theorem fn3 {P : Program} {w : World} {K : PySem.W.Frag} {mg : Str → Option Value} {base : Heap} {x qual : Str} {st : Stmt} {f : Addr} {fd : FuncData} {N ps : List Str} {k : Nat} {sp : VSp} (F : Fun K x qual st f fd) (S : FnScope N ps (defScope st))
    (h : ∃ rs, (∀ (cdv : Value) (A : Around) (outer : List Env) (s : Shared) (H : Hp) (E : XK), Room k (A.deeper (envOfC qual (defScope st) s.heap.objs.size f cdv)) → PSs3 (cxOf (L2.CX P w) P w K mg base N qual (defScope st) f cdv A outer s H E) (fun c d _ H => E c d H) (defBody st) rs) ∧
      ∀ lk ys cells k x, sp lk ys cells k x → ys.length = ps.length ∧ rs (endsOf cells.length k x) ⟨ys.map some ++ List.replicate (N.length - ys.length) none, cells, lk⟩) : FnOk P w K mg base (L2.CX P w) (k + 1) f fd ps (spOf K sp) := by
  obtain ⟨rs, hb, hv⟩ := h
  refine F.okX S (fun vs H Q E hs => ?_) fun cdv A outer s H vs Q E hr hs => ?_
  · obtain ⟨w0, ys, cells, lk, kk, x, S0, hs, _⟩ := hs
    have e := S0.slen
    simp only [List.length_map] at e
    rw [e]
    exact (hv lk ys cells kk x hs).1
  · obtain ⟨w0, ys, cells, lk, kk, x, S0, hs, hk, hx⟩ := hs
    obtain ⟨t, p, ss⟩ := (hb cdv A outer s H E hr).ex
    obtain ⟨_, hv⟩ := hv lk ys cells kk x hs
    have e : vs.length = ys.length := by
      have e := S0.slen
      rwa [List.length_map, List.length_map] at e
    have S1 : Sta K w0 H (start N vs) ⟨ys.map some ++ List.replicate (N.length - ys.length) none, cells, lk⟩ := by
      refine ⟨S0.sub, S0.lkd, S0.nd, S0.len, S0.cells, S0.alive, ?_, fun i y h => ?_⟩
      · show (vs.map some ++ List.replicate (N.length - vs.length) none).length = (ys.map some ++ List.replicate (N.length - ys.length) none).length
        rw [List.length_append, List.length_append, List.length_map, List.length_map, List.length_replicate, List.length_replicate, e]
      · have h' : (ys.map some ++ List.replicate (N.length - ys.length) none)[i]? = some (some y) := h
        by_cases hi : i < ys.length
        · rw [List.getElem?_append_left (by rw [List.length_map]; exact hi)] at h'
          obtain ⟨v, e1, r⟩ := S0.slots i y h'
          refine ⟨v, ?_, r⟩
          show (vs.map some ++ List.replicate (N.length - vs.length) none)[i]? = some (some v)
          rw [List.getElem?_append_left (by rw [List.length_map, e]; exact hi)]
          exact e1
        · rw [List.getElem?_append_right (by rw [List.length_map]; omega)] at h'
          have z := List.mem_of_getElem? h'
          exact absurd (List.eq_of_mem_replicate z) (fun z => by cases z)
    refine ⟨t, p, ss.go w0 H _ _ _ _ S1 hv ⟨fun w' H' σ' Γ' a b c => ?_, fun v w' H' σ' y Γ' a b r c => ?_, fun w' H' σ' Γ' a _ _ => a.elim, fun w' H' σ' Γ' a _ _ => a.elim, fun σ' => ⟨fun C fs Γ' w' H' c d a b r g => ?_⟩⟩⟩
    · exact ret_done S1 b (y := .d .non) (v := .non) Fz.non c a hk
    · exact ret_done S1 b r c a hk
    · obtain ⟨S2, g2⟩ := b.trimX g
      have el : w0.as.length = cells.length := S1.len
      rw [el] at S2 g2
      exact hx C fs _ _ H' c d a (S2.noSlots fun e => (congrArg Lks.l g.lks).trans (S1.lkd e)) r g2
end L3

namespace L3
open PySem L2 PyProof.Rows

/-! ### a call by a promise -/
def CallW (sp : VSp) (ys : List Val) (Γ : Gam) (k : KE3) (x : XC) : Prop := ∃ ix : List Nat, HandOk ix Γ ys ∧
  sp Γ.lk (ys.map (Val.mp (posIn ix))) (handed ix Γ.st) (fun y st' => k (y.mp (backN ix Γ.st.length)) { Γ with st := mergeSt (backN ix Γ.st.length) ix st' Γ.st })
    fun C fs st' => x C fs { Γ with st := mergeSt (backN ix Γ.st.length) ix st' Γ.st }
theorem XR.callee {K : PySem.W.Frag} {w w' : Wd} {H : Hp} {c : Value} {d : Option Addr} {C : Addr} {fs : List (Str × D)} (hF : w'.F = w.F) (h : XR K w H c d C fs) : XR K w' H c d C fs := by
  obtain ⟨e, h⟩ := h
  refine ⟨e, ?_⟩
  rcases h with h | ⟨dd, fv, a1, a2, a3, a4⟩
  · exact .inl h
  · exact .inr ⟨dd, fv, a1, a2, a3, by rw [hF]; exact a4⟩
theorem callW_go {K : PySem.W.Frag} {W : WX} {w : Wd} {H : Hp} {σ : L2.St} {Γ : Gam} {sp : VSp} {ys : List Val} {vs : List V} {k : KE3} {x : XC} {Q : VK} (S : Sta K w H σ Γ) (r : Paired (VR K w) vs ys) (h : CallW sp ys Γ k x)
    (hk : ∀ v w' H' y Γ', k y Γ' → Sta K w' H' σ Γ' → VR K w' v y → Grow w H w' H' → Q v H') (hx : BrX K W w H σ x) : spOf K sp vs H Q (fun c d H' => W c d σ H') := by
  obtain ⟨ix, ho, h⟩ := h
  refine ⟨calleeW w ix, _, _, _, _, _, S.callee ho r, h, fun v w' H' y st' hk' S' r' g' => ?_, fun C fs st' w' H' c d hx' S' r' g' => ?_⟩
  · obtain ⟨S2, g2, v2⟩ := S.caller ho (Γ' := ⟨[], st', Γ.lk⟩) S' g'
    exact hk v _ H' _ _ hk' S2 (v2 v y r') g2
  · obtain ⟨S2, g2, v2⟩ := S.caller ho (Γ' := ⟨[], st', Γ.lk⟩) S' g'
    exact hx.ex C fs _ _ H' c d hx' S2 (r'.callee (w := w') (w' := callerW w w' ix.length) rfl) g2
def rCall (sp : VSp) (dys : List D) (ra : RA) : RE := fun Γ k x => ra Γ (fun ys Γ1 => CallW sp (ys ++ dys.map .d) Γ1 k x) x
theorem vrs_append {K : PySem.W.Frag} {w : Wd} : ∀ {vs us : List V} {ys zs : List Val}, Paired (VR K w) vs ys → Paired (VR K w) us zs → Paired (VR K w) (vs ++ us) (ys ++ zs)
  | _, _, _, _, .nil, h => h
  | _, _, _, _, .cons a l, h => .cons a (vrs_append l h)
section
variable {X : Cx} {W : WX} {k : Nat} {f C : Addr} {fd : FuncData} {ps : List Str} {sp : VSp} {dvs : List V} {dys : List D} {ds : List Value} {x m : Str} {p pos apos : Pos} {e o : Expr} {es : List Expr} {ra : RA} {ro : RE} {ta : TA}
theorem se_call (hdd : ∀ F, FzL X.K F dvs dys) (sa : SA X.K W ta ra) : SE X.K W (tCallSD (spOf X.K sp) dvs (WE W) ta) (rCall sp dys ra) := ⟨fun w H σ Γ Q k x S h hk hx => by
  refine sa.go w H σ Γ _ _ x S h (fun vs w1 H1 ys Γ1 h1 S1 r1 g1 => ?_) hx
  exact callW_go S1 (vrs_append r1 (FzL.vr (w := w1) (hdd w1.F))) h1 (fun v w' H' y Γ' a b c d => hk v w' H' y Γ' a b c (g1.trans d)) (hx.grow g1)⟩
theorem w_call (c : Good X W) (F : FnOk X.prog X.w X.K X.mg X.base (L2.CX X.prog X.w) k f fd ps (spOf X.K sp)) (hr : Room k X.A) (hg : Gl X x) (hm : X.mg x = some (.ref f)) (hk : PySem.W.keepIn X.K (.ref f) = true) (hb : Binds X.K fd ps ds) (hd : Vals dvs ds) (hdd : ∀ F, FzL X.K F dvs dys)
    (ha : PA3 X W (e :: es) ra) (hdb : (x == ("__debug__" : Str)) = false := by decide) (hA : Args1 X pos e es := by exact ⟨rfl, rfl⟩) :
    PE3 X W (.Call (.Name x p) (e :: es) [] pos) (rCall sp dys ra) := by
  obtain ⟨ta, pa, sa⟩ := ha.ex
  exact ⟨_, pe_callSD F hr hg hm hk hb hd (fun σ => passAt c.tk σ) pa hdb hA.st hA.pl, se_call hdd sa⟩
end

/-! ### methods, new instances -/
/-- nothing is let out where nothing is wished for -/
theorem no_out {P : Program} {w : World} {stk : _} {H : Hp} {s s' : Shared} {u : Value} (h : L2.CX P w stk H s (fun _ _ _ => False) u s') : False := by
  obtain ⟨_, _, _, _, _, _, _, _, _, _, _, _, no⟩ := h
  exact no
theorem noPass {X : Cx} : Passes (L2.CX X.prog X.w) X (fun _ _ _ => False) := fun _ _ _ _ _ _ _ h => (no_out h).elim
/-- o.m(as) is read as such a call -/
structure MethEv (X : Cx) (pl : Sem Bool) (o : Expr) (m : Str) (apos pos : Pos) (as : List Expr) : Prop where
  ev : eval (.Call (.Attribute o m apos) as [] pos) X.env = (do let ov ← eval o X.env; standAt apos.atName; let (f, first) ← holding [ov] (getMethod ov m pl); callWith pos f first (backTo pos (starEach as X.env)) (backToKw pos (keywordEach [] X.env)))
section
variable {X : Cx} {W : WX} {k : Nat} {f C : Addr} {fd : FuncData} {ps : List Str} {sp : VSp} {dvs : List V} {dys : List D} {ds : List Value} {x m : Str} {p pos apos : Pos} {e o : Expr} {es : List Expr} {ra : RA} {ro : RE} {to : TE} {ta : TA} {CX : CXT} {sq : Sp} {E : L2.St → XK}
/-- o.m(..): what it lets out is wished for at the slots -/
def tMethA (C : Addr) (m : Str) (sq : Sp) (dvs : List V) (E : L2.St → XK) (to : TE) (ta : TA) : TE := fun σ H Q => to σ H fun x H1 => ∃ a dx fs, x = .ref a ∧ H1 a = some (.ins C dx fs) ∧ fs.lookup m = none ∧ ta σ H1 fun vs H2 => sq (x :: (vs ++ dvs)) H2 Q (E σ)
theorem methA {pl : Sem Bool} (po : PE X o to) (c : Cls X.K C) (hm : Meth X.K C m f) (F : FnOk X.prog X.w X.K X.mg X.base CX k f fd ps sq) (hr : Room k X.A) (hb : Binds X.K fd ps ds) (hd : Vals dvs ds) (hx : ∀ σ, PassesAt CX X σ (E σ)) (pa : PA X (e :: es) ta)
    (hA : Args1 X pos e es)
    (ht : MethEv X pl o m apos pos (e :: es)) :
    PE X (.Call (.Attribute o m apos) (e :: es) [] pos) (tMethA C m sq dvs E to ta) := ⟨fun pins s σ H Q I h =>
  PySem.W.methodCall_KW (pl := pl) (thn (po.run pins s σ H _ I h) fun u s1 z => by
    obtain ⟨x, H1, I1, rx, a, dx, fs, rfl, ea, l, q⟩ := z
    rw [show u = Value.ref a from rx]
    exact getmeth_ok I1 ea c hm l (PySem.W.callWith_K (first := [.ref a]) (h₀ := X.base) I.ok.mod.kin hm.kp (thn (pa.run pos pins s1 σ H1 _ I1 q) fun us s2 z2 => by
      obtain ⟨vs, H2, I2, r, q2⟩ := z2
      exact ⟨I2.kIn, run_fnSD (us := .ref a :: us) (vs := .ref a :: vs) F hr hb hd (hx σ) I2 (.cons rfl r) q2⟩) hA.st hA.pl)) ht.ev⟩
theorem methA0 {pl : Sem Bool} (po : PE X o to) (c : Cls X.K C) (hm : Meth X.K C m f) (F : FnOk X.prog X.w X.K X.mg X.base CX k f fd ps sq) (hr : Room k X.A) (hb : Binds X.K fd ps ds) (hd : Vals dvs ds) (hx : ∀ σ, PassesAt CX X σ (E σ))
    (ht : MethEv X pl o m apos pos []) :
    PE X (.Call (.Attribute o m apos) [] [] pos) (tMethA C m sq dvs E to tNil) := ⟨fun pins s σ H Q I h =>
  PySem.W.methodCall_KW (pl := pl) (thn (po.run pins s σ H _ I h) fun u s1 z => by
    obtain ⟨x, H1, I1, rx, a, dx, fs, rfl, ea, l, q⟩ := z
    rw [show u = Value.ref a from rx]
    exact getmeth_ok I1 ea c hm l (PySem.W.callWith_K0 (first := [.ref a]) I1.kIn hm.kp (run_fnSD (us := [.ref a]) (vs := [.ref a]) F hr hb hd (hx σ) I1 (.cons rfl .nil) q))) ht.ev⟩
/-- o.m(..) of an instance of the class at C: the object first -/
def rMeth (C : Addr) (m : Str) (sp : VSp) (dys : List D) (ro : RE) (ra : RA) : RE := fun Γ k x => ro Γ (fun y Γ1 => ∃ fs, Γ1.shp y = .O C fs ∧ (fs.map (·.1)).contains m = false ∧ ra Γ1 (fun ys Γ2 => CallW sp (y :: (ys ++ dys.map .d)) Γ2 k x) x) x
theorem lookup_none {m : Str} : ∀ {fv : List (Str × V)} {fs : List (Str × Val)}, fv.map (·.1) = fs.map (·.1) → (fs.map (·.1)).contains m = false → fv.lookup m = none
  | fv, fs, e, h => by
    rw [← e] at h
    clear e
    induction fv with
    | nil => rfl
    | cons q fv ih =>
      rw [List.map_cons, List.contains_cons, Bool.or_eq_false_iff] at h
      obtain ⟨a, b⟩ := q
      rw [List.lookup_cons]
      have h1 : (m == a) = false := h.1
      rw [h1]
      exact ih h.2
theorem se_meth (hdd : ∀ F, FzL X.K F dvs dys) (so : SE X.K W to ro) (sa : SA X.K W ta ra) : SE X.K W (tMethA C m (spOf X.K sp) dvs (WE W) to ta) (rMeth C m sp dys ro ra) := ⟨fun w H σ Γ Q k x S h hk hx => by
  refine so.go w H σ Γ _ _ x S h (fun u w1 H1 y Γ1 h1 S1 r1 g1 => ?_) hx
  obtain ⟨fs, e, hn, h1⟩ := h1
  obtain ⟨a, dx, fv, rfl, ea, en, _⟩ := S1.shpO r1 e
  refine ⟨a, dx, fv, rfl, ea, lookup_none en hn, sa.go w1 H1 σ Γ1 _ _ x S1 h1 (fun vs w2 H2 ys Γ2 h2 S2 r2 g2 => ?_) (hx.grow g1)⟩
  exact callW_go S2 (.cons (r1.grow g2) (vrs_append r2 (FzL.vr (w := w2) (hdd w2.F)))) h2 (fun v w' H' y Γ' a b c d => hk v w' H' y Γ' a b c ((g1.trans g2).trans d)) (hx.grow (g1.trans g2))⟩
theorem w_meth {pl : Sem Bool} (c : Good X W) (ho : PE3 X W o ro) (cl : Cls X.K C) (hm : Meth X.K C m f) (F : FnOk X.prog X.w X.K X.mg X.base (L2.CX X.prog X.w) k f fd ps (spOf X.K sp)) (hr : Room k X.A) (hb : Binds X.K fd ps ds) (hd : Vals dvs ds) (hdd : ∀ F, FzL X.K F dvs dys) (ha : PA3 X W (e :: es) ra)
    (hA : Args1 X pos e es := by exact ⟨rfl, rfl⟩)
    (ht : MethEv X pl o m apos pos (e :: es) := by exact ⟨rfl⟩) :
    PE3 X W (.Call (.Attribute o m apos) (e :: es) [] pos) (rMeth C m sp dys ro ra) := by
  obtain ⟨to, po, so⟩ := ho.ex
  obtain ⟨ta, pa, sa⟩ := ha.ex
  exact ⟨_, methA po cl hm F hr hb hd (fun σ => passAt c.tk σ) pa hA ht, se_meth hdd so sa⟩
theorem w_meth0 {pl : Sem Bool} (c : Good X W) (ho : PE3 X W o ro) (cl : Cls X.K C) (hm : Meth X.K C m f) (F : FnOk X.prog X.w X.K X.mg X.base (L2.CX X.prog X.w) k f fd ps (spOf X.K sp)) (hr : Room k X.A) (hb : Binds X.K fd ps ds) (hd : Vals dvs ds) (hdd : ∀ F, FzL X.K F dvs dys)
    (ht : MethEv X pl o m apos pos [] := by exact ⟨rfl⟩) :
    PE3 X W (.Call (.Attribute o m apos) [] [] pos) (rMeth C m sp dys ro raNil) := by
  obtain ⟨to, po, so⟩ := ho.ex
  exact ⟨_, methA0 po cl hm F hr hb hd (fun σ => passAt c.tk σ) ht, se_meth hdd so sa_nil⟩
/-- C(..): a new instance, then __init__ -/
def tMakeA (C : Addr) (sq : Sp) (dvs : List V) (E : L2.St → XK) (ta : TA) : TE := fun σ H Q => ta σ H fun vs H1 => ∀ x dx, H1 x = none → H1 dx = none → dx ≠ x → sq (.ref x :: (vs ++ dvs)) (upd (upd H1 dx (.own x)) x (.ins C dx [])) (fun v H2 => v = .non ∧ Q (.ref x) H2) (E σ)
theorem run_makeA {pins : List (Addr × Obj)} {σ : L2.St} {H : Hp} {s : Shared} {Q : VK} {us : List Value} {vs : List V} (M : Mk X.K C f) (F : FnOk X.prog X.w X.K X.mg X.base CX k f fd ps sq) (hr : Room (k + 1) X.A) (hb : Binds X.K fd ps ds) (hd : Vals dvs ds) (hx : PassesAt CX X σ (E σ)) (I : Inv X pins σ H s) (r : Vals vs us)
    (h : ∀ x dx, H x = none → H dx = none → dx ≠ x → sq (.ref x :: (vs ++ dvs)) (upd (upd H dx (.own x)) x (.ins C dx [])) (fun v H2 => v = .non ∧ Q (.ref x) H2) (E σ)) : wpAny (model X.prog X.w) X.A (call (.ref C) us) (EP X pins σ Q) X.xe s := by
  have J := Inv.made (C := C) I
  have q := h (s.heap.objs.size + 1) s.heap.objs.size (I.hok.fresh (Nat.le_succ _)) (I.hok.fresh (Nat.le_refl _)) (Nat.ne_of_lt (Nat.lt_succ_self _))
  have rr : Vals (V.ref (s.heap.objs.size + 1) :: (vs ++ dvs)) (Value.ref (s.heap.objs.size + 1) :: (us ++ ds)) := .cons rfl (r.append hd)
  have hl : (Value.ref (s.heap.objs.size + 1) :: us ++ ds).length = ps.length := by rw [← F.len _ _ _ _ q]; exact rr.length.symm
  refine wpAny_call (make_map (f := f) I.kIn M.makes M.init (beq_iff_eq.mp M.fn) (codeAny_mono (F.run _ X.stack _ _ ⟨Value.ref (s.heap.objs.size + 1) :: us, []⟩ (Value.ref (s.heap.objs.size + 1) :: (us ++ ds)) _ _ (E σ) (hr.make C us []) (J.env0.make C us []) (hb _ (Value.ref (s.heap.objs.size + 1) :: us) J.kIn hl) rr q) fun z s' hz => ?_))
  cases z with
  | error e => exact hx pins _ _ e s' J hz
  | ok fl => cases fl with
    | ret u =>
      obtain ⟨v, H', J', rv, ev, q3⟩ := J.after hz
      subst ev
      exact ⟨rv, ⟨V.ref (s.heap.objs.size + 1), H', J', rfl, q3⟩⟩
    | next => exact hz.elim
    | brk => exact hz.elim
    | cont => exact hz.elim
theorem makeA (M : Mk X.K C f) (F : FnOk X.prog X.w X.K X.mg X.base CX k f fd ps sq) (hr : Room (k + 1) X.A) (hg : Gl X x) (hm : X.mg x = some (.ref C)) (hb : Binds X.K fd ps ds) (hd : Vals dvs ds) (hx : ∀ σ, PassesAt CX X σ (E σ)) (pa : PA X (e :: es) ta) (hdb : (x == ("__debug__" : Str)) = false)
    (hA : Args1 X pos e es) : PE X (.Call (.Name x p) (e :: es) [] pos) (tMakeA C sq dvs E ta) := ⟨fun pins s σ H Q I h =>
  wpAny_Call_Name_kw (ld_glob I hg hm (PySem.W.callWith_K (h₀ := X.base) I.ok.mod.kin M.kp (thn (pa.run pos pins s σ H _ I h) fun us s1 z => by
    obtain ⟨vs, H1, I1, r, q⟩ := z
    exact ⟨I1.kIn, run_makeA M F hr hb hd (hx σ) I1 r q⟩) hA.st hA.pl) hdb)⟩
/-- a new instance: its cell, empty, stands behind the others while __init__ runs -/
def MakeW (C : Addr) (sp : VSp) (ys : List Val) (Γ : Gam) (k : KE3) (x : XC) : Prop :=
  CallW sp (.own Γ.st.length :: ys) { Γ with st := Γ.st ++ [.O C []] } (fun y Γ2 => y = .d .non ∧ k (.own Γ.st.length) Γ2) x
def rMake (C : Addr) (sp : VSp) (dys : List D) (ra : RA) : RE := fun Γ k x => ra Γ (fun ys Γ1 => MakeW C sp (ys ++ dys.map .d) Γ1 k x) x
theorem vr_none {K : PySem.W.Frag} {w : Wd} {v : V} (r : VR K w v (.d .non)) : v = .non := by cases (show Fz K w.F v .non from r); rfl
theorem w_make (c : Good X W) (M : Mk X.K C f) (F : FnOk X.prog X.w X.K X.mg X.base (L2.CX X.prog X.w) k f fd ps (spOf X.K sp)) (hr : Room (k + 1) X.A) (hg : Gl X x) (hm : X.mg x = some (.ref C)) (hb : Binds X.K fd ps ds) (hd : Vals dvs ds) (hdd : ∀ F, FzL X.K F dvs dys) (ha : PA3 X W (e :: es) ra)
    (hdb : (x == ("__debug__" : Str)) = false := by decide) (hA : Args1 X pos e es := by exact ⟨rfl, rfl⟩) : PE3 X W (.Call (.Name x p) (e :: es) [] pos) (rMake C sp dys ra) := by
  obtain ⟨ta, pa, sa⟩ := ha.ex
  refine ⟨_, makeA M F hr hg hm hb hd (fun σ => passAt c.tk σ) pa hdb hA, ⟨fun w H σ Γ Q k x S h hk hx => ?_⟩⟩
  refine sa.go w H σ Γ _ _ x S h (fun vs w1 H1 ys Γ1 h1 S1 r1 g1 => ?_) hx
  intro a dx na ndx ne
  have S2 : Sta X.K w1 (upd H1 dx (.own a)) σ Γ1 := S1.side (S1.Fnone ndx) (S1.fresh ndx)
  have g2 : Grow w1 H1 w1 (upd H1 dx (.own a)) := (Grow.refl _ _).side ndx
  have na2 : upd H1 dx (.own a) a = none := by rw [upd_ne (Ne.symm ne)]; exact na
  obtain ⟨S3, g3⟩ := S2.newO (o := .ins C dx []) (c := .O C []) na2 ⟨S2.Fnone na2, dx, [], upd_same, rfl, .nil⟩
  have gg := g2.trans g3
  have rx : VR X.K { w1 with as := w1.as ++ [a] } (.ref a) (.own Γ1.st.length) := ⟨a, S2.newOR a, rfl⟩
  refine callW_go S3 (.cons rx (vrs_append (vrs_grow gg r1) (FzL.vr (w := { w1 with as := w1.as ++ [a] }) (hdd _)))) h1 (fun v w' H' y Γ' hy b r d => ?_) (hx.grow (g1.trans gg))
  obtain ⟨rfl, hy⟩ := hy
  exact ⟨vr_none r, hk _ w' H' _ Γ' hy b ⟨a, as_grow d (S2.newOR a), rfl⟩ ((g1.trans gg).trans d)⟩
end

/-! ### attributes -/
/-- e.f -/
def rFld (K : PySem.W.Frag) (re : RE) (f : Str) : RE := fun Γ k x => re Γ (fun y Γ1 => ∃ C fs q, Γ1.shp y = .O C fs ∧ Cls K C ∧ NoAttr K C f ∧ fs.lookup f = some q ∧ k q Γ1) x
def putFld (f : Str) (y : Val) : List (Str × Val) → List (Str × Val)
  | [] => [(f, y)]
  | (g, z) :: r => if g = f then (g, y) :: r else (g, z) :: putFld f y r
/-- o.f = e -/
def rStF (K : PySem.W.Frag) (ro re : RE) (f : Str) : RS := fun N Γ => re Γ (fun y Γ1 => ro Γ1 (fun o Γ2 => ∃ n C fs, o = .own n ∧ Γ2.st[n]? = some (.O C fs) ∧ Cls K C ∧ NoAttr K C f ∧ fs.length < 1000 ∧ N.nx { Γ2 with st := Γ2.st.set n (.O C (putFld f y fs)) }) N.ex) N.ex
section
variable {K : PySem.W.Frag} {X : Cx} {W : WX} {pos pos' : Pos} {e o value : Expr} {re ro rv : RE} {f : Str}
theorem lookup_vr {w : Wd} {q : Val} : ∀ {fv : List (Str × V)} {fs : List (Str × Val)}, fv.map (·.1) = fs.map (·.1) → Paired (VR K w) (fv.map (·.2)) (fs.map (·.2)) → fs.lookup f = some q → ∃ v, fv.lookup f = some v ∧ VR K w v q
  | [], [], _, _, h => by cases h
  | [], _ :: _, e, _, _ => by cases e
  | _ :: _, [], e, _, _ => by cases e
  | (a, v) :: fv, (b, y) :: fs, e, p, h => by
    simp only [List.map_cons] at e p
    injection e with e1 e2
    have e1' : a = b := e1
    subst e1'
    cases p with
    | cons r l =>
      rw [List.lookup_cons] at h ⊢
      by_cases c : (f == a) = true
      · rw [c] at h ⊢
        cases h
        exact ⟨v, rfl, r⟩
      · have c' : (f == a) = false := by simpa using c
        rw [c'] at h ⊢
        exact lookup_vr e2 l h
theorem w_fld (he : PE3 X W e re) (hb : attributeBase e f X.env (eval e X.env) = eval e X.env := by rfl) : PE3 X W (.Attribute e f pos) (rFld X.K re f) := by
  obtain ⟨te, pe, se⟩ := he.ex
  refine ⟨_, pe_fld pe hb, ⟨fun w H σ Γ Q k x S h hk hx => ?_⟩⟩
  refine se.go w H σ Γ _ _ x S h (fun u w1 H1 y Γ1 h1 S1 r1 g1 => ?_) hx
  obtain ⟨C, fs, q, e1, cl, na, l, h1⟩ := h1
  obtain ⟨a, dx, fv, rfl, ea, en, p⟩ := S1.shpO r1 e1
  obtain ⟨v, lv, rq⟩ := lookup_vr en p l
  exact ⟨a, C, dx, fv, v, rfl, ea, cl, na, lv, hk v w1 H1 q Γ1 h1 S1 rq g1⟩
theorem putF_vr {w : Wd} {v : V} {y : Val} (r : VR K w v y) : ∀ {fv : List (Str × V)} {fs : List (Str × Val)}, fv.map (·.1) = fs.map (·.1) → Paired (VR K w) (fv.map (·.2)) (fs.map (·.2)) →
    (putF f v fv).map (·.1) = (putFld f y fs).map (·.1) ∧ Paired (VR K w) ((putF f v fv).map (·.2)) ((putFld f y fs).map (·.2))
  | [], [], _, _ => ⟨rfl, .cons r .nil⟩
  | [], _ :: _, e, _ => by cases e
  | _ :: _, [], e, _ => by cases e
  | (a, u) :: fv, (b, z) :: fs, e, p => by
    simp only [List.map_cons] at e p
    injection e with e1 e2
    have e1' : a = b := e1
    subst e1'
    cases p with
    | cons r0 l =>
      unfold putF putFld
      by_cases c : a = f
      · rw [if_pos c, if_pos c]
        exact ⟨by rw [List.map_cons, List.map_cons, e2], .cons r l⟩
      · rw [if_neg c, if_neg c]
        have := putF_vr r e2 l
        exact ⟨by rw [List.map_cons, List.map_cons, this.1], .cons r0 this.2⟩
theorem s_fld (ho : PE3 X W o ro) (hv : PE3 X W value rv) (hs : swapsWith value (some (.Attribute o f pos')) pos.line X.env = pure false := by rfl) : PS3 X W (.Assign [.Attribute o f pos'] value pos) (rStF X.K ro rv f) := by
  obtain ⟨to, po, so⟩ := ho.ex
  obtain ⟨tv, pv, sv⟩ := hv.ex
  refine ⟨_, ps_fld po pv hs, ⟨fun w H σ Γ D N S h b => ?_⟩⟩
  refine sv.go w H σ Γ _ _ N.ex S h (fun u w1 H1 y Γ1 h1 S1 r1 g1 => ?_) (b.ex σ)
  refine so.go w1 H1 σ Γ1 _ _ N.ex S1 h1 (fun u2 w2 H2 y2 Γ2 h2 S2 r2 g2 => ?_) ((b.ex σ).grow g1)
  obtain ⟨n, C, fs, rfl, hc, cl, na, hl, h2⟩ := h2
  obtain ⟨a, ha, rfl⟩ := r2
  obtain ⟨hF, dx, fv, ea, en, p⟩ := S2.cells n _ a hc ha
  have pp := putF_vr (f := f) (r1.grow g2) en p
  obtain ⟨S3, g3⟩ := S2.mut (o := .ins C dx (putF f u fv)) (c := .O C (putFld f y fs)) ha hF ⟨hF, dx, _, upd_same, pp.1, pp.2⟩
  have hlen : fv.length = fs.length := by
    have := congrArg List.length en
    rwa [List.length_map, List.length_map] at this
  exact ⟨a, C, dx, fv, rfl, ea, cl, na, by rw [hlen]; exact hl, b.nx _ _ σ _ h2 S3 ((g1.trans g2).trans g3)⟩
end

/-! ### raise of an own error whose __init__ stores its arguments -/
/-- self.f1 = .. (self.f2 = ..): fs the names, in order -/
def spIni (K : PySem.W.Frag) (C : Addr) (fs : List Str) : Sp := fun vs H Q _ => ∃ a ws, vs = .ref a :: ws ∧ ws.length = fs.length ∧ OexC K C ∧ H a = some (exo a C none) ∧
  ∀ dx, H dx = none → dx ≠ a → Q .non (upd (upd H dx (exd dx (fs.zip ws).reverse)) a (exo a C (some dx)))
def rRaise (C : Addr) (fs : List Str) (ra : RA) : RS := fun N Γ => ra Γ (fun ys Γ1 => ∃ ds, dvals ys = some ds ∧ ds.length = fs.length ∧ ds.length ≤ 1000 ∧ N.ex C (fs.zip ds).reverse Γ1) N.ex
section
variable {X : Cx} {W : WX} {k : Nat} {fI C : Addr} {fd : FuncData} {ps : List Str} {fs : List Str} {x : Str} {p pos pos2 : Pos} {e : Expr} {es : List Expr} {ra : RA}
theorem s_raise (c : Good X W) (T : OexC X.K C) (iC : PySem.W.findIn X.K (.ref C) "__init__" = some (some (.ref fI))) (tI : PySem.W.typeIn X.K (.ref fI) = some (.type "function")) (F1 : FnOk X.prog X.w X.K X.mg X.base (L2.CX X.prog X.w) k fI fd ps (spIni X.K C fs)) (hr : Room (k + 1) X.A) (hb : Binds X.K fd ps [])
    (hg : Gl X x) (hm : X.mg x = some (.ref C)) (ha : PA3 X W (e :: es) ra) (hdb : (x == ("__debug__" : Str)) = false := by decide) (hA : Args1 X pos e es := by exact ⟨rfl, rfl⟩) :
    PS3 X W (.Raise (some (.Call (.Name x p) (e :: es) [] pos)) none pos2) (rRaise C fs ra) := by
  obtain ⟨ta, pa, sa⟩ := ha.ex
  have nx := noPass (X := X)
  refine ⟨_, ps_raise c.calm c.tk (pmk_oex T iC tI F1 hr hb .nil nx hg hm pa hdb hA.st hA.pl), ⟨fun w H σ Γ D N S h b => ?_⟩⟩
  refine sa.go w H σ Γ _ _ N.ex S h (fun vs w1 H1 ys Γ1 h1 S1 r1 g1 => ?_) (b.ex σ)
  obtain ⟨ds, e1, el, hl, h1⟩ := h1
  rw [dvals_eq e1] at r1
  have lz := FzL.of_vr r1
  refine ⟨by rw [lz.length]; exact hl, fun a na => ?_⟩
  refine ⟨a, vs, by rw [List.append_nil], by rw [lz.length]; exact el, T, upd_same, fun dx ndx ne => ⟨rfl, dx, (fs.zip vs).reverse, upd_same, ?_, ?_, ?_⟩⟩
  · rw [upd_ne ne, upd_same]
  · rw [upd_ne ne] at ndx
    exact ndx
  · rw [upd_ne ne] at ndx
    have eH : upd (del (upd (upd (upd H1 a (exo a C none)) dx (exd dx (fs.zip vs).reverse)) a (exo a C (some dx))) a) dx (.xd (fs.zip vs).reverse) = upd H1 dx (.xd (fs.zip vs).reverse) := by
      funext q
      by_cases h1 : q = dx
      · rw [h1, upd_same, upd_same]
      · rw [upd_ne h1, upd_ne h1]
        unfold del
        by_cases h2 : q = a
        · rw [if_pos h2, h2, na]
        · rw [if_neg h2, upd_ne h2, upd_ne h1, upd_ne h2]
    rw [eH]
    have S2 : Sta X.K w1 (upd H1 dx (.xd (fs.zip vs).reverse)) σ Γ1 := S1.side (S1.Fnone ndx) (S1.fresh ndx)
    have g2 : Grow w1 H1 w1 (upd H1 dx (.xd (fs.zip vs).reverse)) := (Grow.refl _ _).side ndx
    have l1 : fs.length = vs.length := by rw [lz.length]; exact el.symm
    refine (b.ex σ).ex C _ Γ1 w1 _ _ (some dx) h1 S2 ⟨rfl, .inr ⟨dx, _, rfl, upd_same, ?_, ?_⟩⟩ (g1.trans g2)
    · rw [List.map_reverse, List.map_reverse, zip_fst l1, zip_fst el.symm]
    · rw [List.map_reverse, List.map_reverse, zip_snd l1, zip_snd el.symm]
      have rev : ∀ {us : List V} {zs : List L3.D}, FzL X.K w1.F us zs → FzL X.K w1.F us.reverse zs.reverse := by
        intro us zs h
        induction zs generalizing us with
        | nil => cases h; exact .nil
        | cons z zs ih =>
          cases h with
          | cons a b => rw [List.reverse_cons, List.reverse_cons]; exact (ih b).snoc a
      exact rev lz
end
end L3

namespace L3
open PySem L2 PyProof.Rows
section
variable {K : PySem.W.Frag} {X : Cx} {W : WX} {w : Wd} {H : Hp} {σ : L2.St} {Γ : Gam} {v : V} {y : Val}
/-- a scalar -/
theorem Sta.scal (S : Sta K w H σ Γ) (r : VR K w v y) {x : D} (e : Γ.shp y = .s x) (hx : x ≠ .non) : Fz K w.F v x := by
  have go : ∀ {z : D}, Fz K w.F v z → z.shp = .s x → Fz K w.F v x := by
    intro z f ez
    cases z <;> first | (cases ez; exact f) | cases ez
  cases y with
  | d z => exact go r e
  | own n =>
    obtain ⟨a, ha, ev⟩ := r
    subst ev
    unfold Gam.shp at e
    simp only at e
    cases hc : Γ.st[n]? with
    | none => rw [hc] at e; cases e; exact absurd rfl hx
    | some c =>
      rw [hc] at e
      have k := S.cells n c a hc ha
      cases c with
      | fz z => exact go k e
      | no => cases e; exact absurd rfl hx
      | M kvs => cases e
      | L xs => cases e
      | T xs => cases e
      | O C xs => cases e
theorem vals1' {us : List V} (h : Paired (VR K w) us [y]) : ∃ u, us = [u] ∧ VR K w u y := by
  cases h with
  | cons r t => cases t; exact ⟨_, rfl, r⟩
theorem vals2' {us : List V} {z : Val} (h : Paired (VR K w) us [y, z]) : ∃ u u', us = [u, u'] ∧ VR K w u y ∧ VR K w u' z := by
  cases h with
  | cons r t => cases t with
    | cons r' t => cases t; exact ⟨_, _, rfl, r, r'⟩
end

/-! ### len -/
def Gam.size (Γ : Gam) (y : Val) : Option Nat := match Γ.shp y with
  | .L xs => some xs.length
  | .U xs => some xs.length
  | .M kvs => some kvs.length
  | .s (.str s) => if s.length ≤ sizeLine then some s.length else none
  | .s (.scr ns) => some ns.length
  | _ => none
def rLen : List Val → Gam → KE3 → Prop := fun ys Γ k => ∃ y n, ys = [y] ∧ Γ.size y = some n ∧ k (.d (.int (n : Nat))) Γ
theorem CallR.or {X : Cx} {f : Value} {r r' : List V → Hp → VK → Prop} (h : CallR X f r) (h' : CallR X f r') : CallR X f (fun vs H Q => r vs H Q ∨ r' vs H Q) := by
  intro pins s σ H xs us Q I rr q
  rcases q with q | q
  · exact h pins s σ H xs us Q I rr q
  · exact h' pins s σ H xs us Q I rr q
theorem len_dict {X : Cx} : CallR X (.builtin "len") (fun vs H Q => ∃ a kvs, vs = [.ref a] ∧ Rd H a (.dK kvs) ∧ Q (.int kvs.length) H) := by
  rintro _ s _ H _ us Q I r ⟨a, kvs, rfl, e, q⟩
  rw [Vals.ref1 r]
  exact d_len I e fun t s' I' => ⟨.int _, H, I', ⟨_, rfl⟩, q⟩
theorem c_len {X : Cx} : Call3 X (.builtin "len") rLen := ⟨_, CallR.or call_len_str (CallR.or call_len_seq len_dict), ⟨fun w H σ Γ Q k us ys S r h hk => by
  obtain ⟨y, n, rfl, e, h⟩ := h
  obtain ⟨u, rfl, r1⟩ := vals1' r
  have fin : Q (.int (n : Nat)) H := hk _ w H _ Γ h S (Fz.int _) (Grow.refl _ _)
  unfold Gam.size at e
  split at e
  · rename_i xs e1
    cases e
    obtain ⟨a, vs, rfl, h1, p⟩ := S.shpL r1 e1
    exact .inr (.inl ⟨a, vs, rfl, .inl (.inl (.inl h1)), by rw [vrs_length p]; exact fin⟩)
  · rename_i xs e1
    cases e
    obtain ⟨a, vs, rfl, h1, p⟩ := S.shpU r1 e1
    exact .inr (.inl ⟨a, vs, rfl, .inr (.inl (.inl h1)), by rw [vrs_length p]; exact fin⟩)
  · rename_i xs e1
    cases e
    obtain ⟨a, kv, rfl, h1, ek, p⟩ := S.shpM r1 e1
    have hl : kv.length = xs.length := by
      have := congrArg List.length ek
      rwa [List.length_map, List.length_map] at this
    exact .inr (.inr ⟨a, kv, rfl, h1, by rw [hl]; exact fin⟩)
  · rename_i s e1
    split at e
    · rename_i hl
      cases e
      cases S.scal r1 e1 (fun z => by cases z)
      exact .inl ⟨s, rfl, hl, fin⟩
    · cases e
  · rename_i ns e1
    cases e
    have f := S.scal r1 e1 (fun z => by cases z)
    cases f with
    | scr q => exact .inr (.inl ⟨_, _, rfl, .inl (S.sub.sql q), by rw [List.length_map]; exact fin⟩)
  · cases e⟩⟩

/-! ### int(n), list(xs), all(bs) -/
def rInt : List Val → Gam → KE3 → Prop := fun ys Γ k => ∃ i, ys = [.d (.int i)] ∧ k (.d (.int i)) Γ
theorem c_int {X : Cx} : Call3 X (.type "int") rInt := ⟨_, call_int1, ⟨fun w H σ Γ Q k us ys S r h hk => by
  obtain ⟨i, rfl, h⟩ := h
  obtain ⟨u, rfl, r1⟩ := vals1' r
  have := vr_int r1
  subst this
  exact .inl ⟨i, rfl, hk _ w H _ Γ h S (Fz.int _) (Grow.refl _ _)⟩⟩⟩
/-- what list(y) copies -/
def Gam.items (Γ : Gam) (y : Val) : Option (List Val) := match Γ.shp y with
  | .L xs => some xs
  | .U xs => some xs
  | .M kvs => some (kvs.map fun p => .d (kD p.1))
  | _ => none
def rList (o : Bool) : List Val → Gam → KE3 → Prop := fun ys Γ k => ∃ y xs, ys = [y] ∧ Γ.items y = some xs ∧ Γ.put o (.L xs) k
theorem keys_vr {K : PySem.W.Frag} {w : Wd} : ∀ {kv : List (Key × V)} {kvs : List (Key × Val)}, kv.map (·.1) = kvs.map (·.1) → Paired (VR K w) (kv.map fun p => kV p.1) (kvs.map fun p => .d (kD p.1))
  | [], [], _ => .nil
  | [], _ :: _, e => by cases e
  | _ :: _, [], e => by cases e
  | (a, v) :: kv, (b, y) :: kvs, e => by
    simp only [List.map_cons] at e
    injection e with e1 e2
    have e1' : a = b := e1
    subst e1'
    refine .cons ?_ (keys_vr e2)
    cases a with
    | inl i => exact Fz.int i
    | inr s => exact Fz.str s
theorem c_list {X : Cx} {W : WX} (o : Bool) (c : Good X W) : Call3 X (.type "list") (rList o) := ⟨_, CallR.or call_list_of (call_listD c.calm), ⟨fun w H σ Γ Q k us ys S r h hk => by
  obtain ⟨y, xs, rfl, e, h⟩ := h
  obtain ⟨u, rfl, r1⟩ := vals1' r
  unfold Gam.items at e
  split at e
  · rename_i zs e1
    cases e
    obtain ⟨a, vs, rfl, h1, p⟩ := S.shpL r1 e1
    exact .inl ⟨a, vs, rfl, .inl (.inl (.inl h1)), fun l hl => S.putL hl p h hk⟩
  · rename_i zs e1
    cases e
    obtain ⟨a, vs, rfl, h1, p⟩ := S.shpU r1 e1
    exact .inl ⟨a, vs, rfl, .inr (.inl (.inl h1)), fun l hl => S.putL hl p h hk⟩
  · rename_i zs e1
    cases e
    obtain ⟨a, kv, rfl, h1, ek, p⟩ := S.shpM r1 e1
    exact .inr ⟨a, kv, rfl, h1, fun l hl => S.putL hl (keys_vr ek) h hk⟩
  · cases e⟩⟩
/-- a list of bools -/
def bools : List D → Option (List Bool)
  | [] => some []
  | .bl b :: r => (bools r).map (b :: ·)
  | _ => none
theorem bools_map : ∀ bs : List Bool, bools (bs.map .bl) = some bs
  | [] => rfl
  | b :: r => by
    show (bools (r.map .bl)).map (b :: ·) = _
    rw [bools_map r]
    rfl
theorem bools_eq : ∀ {xs : List D} {bs : List Bool}, bools xs = some bs → xs = bs.map .bl
  | [], _, h => by cases h; rfl
  | .bl b :: r, bs, h => by
    obtain ⟨l, e1, e2⟩ := Option.map_eq_some_iff.mp (show (bools r).map (b :: ·) = some bs from h)
    subst e2
    rw [bools_eq e1]
    rfl
theorem FzL.bls {K : PySem.W.Frag} {F : Hp} : ∀ {bs : List Bool} {vs : List V}, FzL K F vs (bs.map .bl) → vs = bs.map V.bl
  | [], _, .nil => rfl
  | b :: bs, _, .cons h l => by
    cases h
    rw [l.bls]
    rfl
def rAll3 : List Val → Gam → KE3 → Prop := fun ys Γ k => ∃ y xs bs, ys = [y] ∧ Γ.dl y = some xs ∧ bools xs = some bs ∧ k (.d (.bl (bs.all id))) Γ
def rAny3 : List Val → Gam → KE3 → Prop := fun ys Γ k => ∃ y xs bs, ys = [y] ∧ Γ.dl y = some xs ∧ bools xs = some bs ∧ k (.d (.bl (bs.any id))) Γ
theorem c_all {X : Cx} {W : WX} (c : Good X W) : Call3 X (.builtin "all") rAll3 := ⟨_, cr_all c.calm, ⟨fun w H σ Γ Q k us ys S r h hk => by
  obtain ⟨y, xs, bs, rfl, e, eb, h⟩ := h
  obtain ⟨u, rfl, r1⟩ := vals1' r
  obtain ⟨a, vs, rfl, h1, l⟩ := S.dl r1 e
  rw [bools_eq eb] at l
  have := l.bls
  subst this
  exact ⟨a, bs, rfl, .inl (.inl h1), hk _ w H _ Γ h S (Fz.bl _) (Grow.refl _ _)⟩⟩⟩
theorem c_any {X : Cx} {W : WX} (c : Good X W) : Call3 X (.builtin "any") rAny3 := ⟨_, cr_any c.calm, ⟨fun w H σ Γ Q k us ys S r h hk => by
  obtain ⟨y, xs, bs, rfl, e, eb, h⟩ := h
  obtain ⟨u, rfl, r1⟩ := vals1' r
  obtain ⟨a, vs, rfl, h1, l⟩ := S.dl r1 e
  rw [bools_eq eb] at l
  have := l.bls
  subst this
  exact ⟨a, bs, rfl, .inl (.inl h1), hk _ w H _ Γ h S (Fz.bl _) (Grow.refl _ _)⟩⟩⟩

/-! ### sorted -/
def leD (a b : D) : Bool := PySem.W.dataLe false D.py a b
/-- may be sorted -/
structure SortOk (xs : List D) : Prop where
  fl : D.flats xs = true
  al : PySem.W.AllAlike (xs.map D.py)
  so : PySem.W.Sortable (xs.map D.py)
  de : ∀ x, x ∈ xs → x.py.depth ≤ 60
  le : xs.length ≤ sizeLine
theorem vals_each {vs : List V} {us : List Value} (r : Vals vs us) : ∀ {ps : List PyData}, vs.length = ps.length → PySem.W.EachIs (fun u (b : V × PyData) => RelV b.1 u) us (vs.zip ps) := by
  induction r with
  | nil =>
    intro ps h
    cases ps with
    | nil => exact .nil
    | cons p ps => cases h
  | cons r0 _ ih =>
    intro ps h
    cases ps with
    | nil => cases h
    | cons p ps => exact .cons r0 (ih (by simpa using h))
theorem each_vals : ∀ {us : List Value} {bs : List (V × PyData)}, PySem.W.EachIs (fun u (b : V × PyData) => RelV b.1 u) us bs → Vals (bs.map (·.1)) us
  | _, _, .nil => .nil
  | _, _, .cons h t => .cons h (each_vals t)
theorem cr_sortedX {X : Cx} (hu : X.A.units + 64 < cLine) : CallR X (.builtin "sorted") (fun us H Q => ∃ a vs ps, us = [.ref a] ∧ SqL X.K H a vs ∧ DpAll X.K H vs ps ∧ PySem.W.AllAlike ps ∧ PySem.W.Sortable ps ∧ vs.length = ps.length ∧ vs.length ≤ sizeLine ∧ (∀ p, p ∈ ps → p.depth ≤ 60) ∧
    ∀ q, H q = none → Q (.ref q) (upd H q (.lst (((vs.zip ps).mergeSort (PySem.W.dataLe false (·.2))).map (·.1))))) := by
  rintro _ s _ H _ us Q I r ⟨a, vs, ps, rfl, hs, hd, hal, hso, hl, hz, hdp, q⟩
  obtain ⟨its, rv, pl, _⟩ := I.list hs
  rw [Vals.ref1 r]
  obtain ⟨as, hra⟩ := Dp.readsAll I ps vs its hd rv
  have em : (vs.zip ps).map (·.2) = ps := zip_snd hl
  refine PySem.W.sorted_data (enc := fun b : V × PyData => b.2) (bs := vs.zip ps) pl.isList (vals_each rv hl) (PySem.W.readsAll_each _ (by rw [em]; exact hra)) (by rw [em]; exact hal) (by rw [em]; exact hso) (by rw [List.length_zip]; omega) (fun b hb => ?_) fun out ho eo => ?_
  · have : b.2 ∈ ps := by rw [← em]; exact List.mem_map_of_mem hb
    have := hdp _ this
    show X.A.units + 2 + b.2.depth < cLine
    omega
  · obtain ⟨ep, he'⟩ := PyProof.Rows.sortedAll_at s.heap its out.toArray
    have v2 := each_vals eo
    have hlen : (((vs.zip ps).mergeSort (PySem.W.dataLe false (·.2))).map (·.1)).length ≤ sizeLine := by
      rw [List.length_map, List.length_mergeSort, List.length_zip]
      omega
    exact ⟨.ref _, upd H (s.heap.objs.size + 1) (.lst (((vs.zip ps).mergeSort (PySem.W.dataLe false (·.2))).map (·.1))), I.laid (t' := s.toks) (fun _ _ => PyProof.Rows.sortedAll_old) (Nat.le_succ _) ⟨hlen, out, ep, v2, he'⟩, rfl, q _ (I.hok.fresh (Nat.le_succ _))⟩
theorem flats_of_mem {xs : List D} {x : D} (h : D.flats xs = true) (hx : x ∈ xs) : x.flat = true := by
  induction xs with
  | nil => cases hx
  | cons y r ih =>
    have h' : (y.flat && D.flats r) = true := h
    rw [Bool.and_eq_true] at h'
    rcases inCons hx with rfl | hx
    · exact h'.1
    · exact ih h'.2 hx
theorem fz_each {K : PySem.W.Frag} {F : Hp} : ∀ {vs : List V} {xs : List D}, FzL K F vs xs → PySem.W.EachIs (fun (p : V × PyData) x => Fz K F p.1 x ∧ p.2 = x.py) (vs.zip (D.pys xs)) xs
  | _, _, .nil => .nil
  | _, _, .cons h l => .cons ⟨h, rfl⟩ (fz_each l)
theorem each_fz {K : PySem.W.Frag} {F : Hp} : ∀ {ps : List (V × PyData)} {xs : List D}, PySem.W.EachIs (fun (p : V × PyData) x => Fz K F p.1 x ∧ p.2 = x.py) ps xs → FzL K F (ps.map (·.1)) xs
  | _, _, .nil => .nil
  | _, _, .cons h l => .cons h.1 (each_fz l)
def rSorted3 (o : Bool) : List Val → Gam → KE3 → Prop := fun ys Γ k => ∃ y ds, ys = [y] ∧ Γ.dl y = some ds ∧ SortOk ds ∧ Γ.put o (.L ((ds.mergeSort leD).map .d)) k
theorem zip_py {K : PySem.W.Frag} {F : Hp} : ∀ {vs : List V} {ds : List D}, FzL K F vs ds → ∀ p, p ∈ (vs.zip (D.pys ds)).zip ds → p.1.2 = p.2.py
  | [], [], .nil, _, no => by cases no
  | _, _, .cons (v := v) (x := x) h t, p, hp => by
    rw [D.pys, List.zip_cons_cons, List.zip_cons_cons] at hp
    rcases inCons hp with rfl | hp
    · rfl
    · exact zip_py t p hp
theorem sorted_fz {K : PySem.W.Frag} {F : Hp} {vs : List V} {ds : List D} (l : FzL K F vs ds) :
    FzL K F (((vs.zip (D.pys ds)).mergeSort (PySem.W.dataLe false (·.2))).map (·.1)) (ds.mergeSort leD) := by
  refine each_fz (PySem.W.sort_each (fz_each l) fun p hp q hq => ?_)
  have e1 := zip_py l p hp
  have e2 := zip_py l q hq
  unfold leD
  rw [PySem.W.dataLe_eq, PySem.W.dataLe_eq]
  simp only [cond_false, e1, e2]
theorem D.pys_len : ∀ xs : List D, (D.pys xs).length = xs.length
  | [] => rfl
  | x :: r => by rw [D.pys, List.length_cons, D.pys_len r, List.length_cons]
theorem c_sorted {X : Cx} {W : WX} (o : Bool) (c : Good X W) : Call3 X (.builtin "sorted") (rSorted3 o) := ⟨_, cr_sortedX (by have := c.un; omega), ⟨fun w H σ Γ Q k us ys S r h hk => by
  obtain ⟨y, ds, rfl, e, ok, h⟩ := h
  obtain ⟨u, rfl, r1⟩ := vals1' r
  obtain ⟨a, vs, rfl, h1, l⟩ := S.dl r1 e
  refine ⟨a, vs, D.pys ds, rfl, .inl (.inl h1), FzL.dp ok.fl (l.le S.sub.unl), by rw [D.pys_map]; exact ok.al, by rw [D.pys_map]; exact ok.so, by rw [l.length, D.pys_len], by rw [l.length]; exact ok.le, fun p hp => ?_, fun q hq => ?_⟩
  · rw [D.pys_map] at hp
    obtain ⟨x, hx, rfl⟩ := List.mem_map.mp hp
    exact ok.de x hx
  · exact S.putL hq (FzL.vr (w := w) (sorted_fz l)) h hk⟩⟩
end L3

namespace L3
open PySem L2 PyProof.Rows

/-! ### min of texts -/
def minS (x : Str) (xs : List Str) : Str := xs.foldl (fun a b => if sLt b a = true then b else a) x
theorem minD_strs (x : Str) : ∀ xs : List Str, PySem.W.minD (.str x) (xs.map PyData.str) = PyData.str (minS x xs) := by
  intro xs
  unfold PySem.W.minD minS
  induction xs generalizing x
  case nil => rfl
  case cons y r ih =>
    rw [List.map_cons, List.foldl_cons, List.foldl_cons, PySem.W.dataLt_str]
    unfold sLt
    by_cases h : y.cps.toList < x.cps.toList
    · rw [decide_eq_true h, if_pos rfl, if_pos rfl]
      exact ih y
    · rw [decide_eq_false h, if_neg (by decide), if_neg (by decide)]
      exact ih x
theorem strs_dp {K : PySem.W.Frag} {H : Hp} : ∀ xs : List Str, DpAll K H (xs.map V.str) (xs.map PyData.str)
  | [] => .nil
  | x :: r => .cons (.str x) (strs_dp r)
theorem depth_strs : ∀ xs : List Str, PyData.depthAll (xs.map PyData.str) = 0
  | [] => by rw [List.map_nil, PyData.depthAll]
  | x :: r => by rw [List.map_cons, PyData.depthAll, depth_strs r]; simp [PyData.depth]
theorem cr_minS {X : Cx} (hc : X.calm = true) (hu : X.A.units + 64 < cLine) : CallR X (.builtin "min") (fun us H Q => ∃ a x xs, us = [.ref a] ∧ SqL X.K H a ((x :: xs).map V.str) ∧ Q (.str (minS x xs)) H) := by
  rintro _ s _ H _ us Q I r ⟨a, x, xs, rfl, hs, q⟩
  obtain ⟨its, rv, pl, _⟩ := I.list hs
  rw [Vals.ref1 r]
  obtain ⟨as, hra⟩ := Dp.readsAll I ((x :: xs).map PyData.str) _ its (strs_dp (x :: xs)) rv
  refine PySem.W.min_list_data (x := .str x) (xs := xs.map PyData.str) (I.ok.hd hc) pl.isList hra ⟨fun d hd d' hd' => ?_, fun d hd => ?_⟩ ?_ fun i v h' tk bs hv rd hk => ?_
  · obtain ⟨_, _, rfl⟩ := List.mem_map.mp (show d ∈ (x :: xs).map PyData.str from hd)
    obtain ⟨_, _, rfl⟩ := List.mem_map.mp (show d' ∈ (x :: xs).map PyData.str from hd')
    rfl
  · obtain ⟨_, _, rfl⟩ := List.mem_map.mp (show d ∈ (x :: xs).map PyData.str from hd)
    exact fun z => by cases z
  · rw [show PyData.str x :: xs.map PyData.str = (x :: xs).map PyData.str from rfl, depth_strs]
    omega
  · rw [minD_strs] at rd
    cases rd with
    | str _ t => exact ⟨.str (minS x xs), H, I.kept (t' := tk) hk, ⟨_, rfl⟩, q⟩
def sxs : List D → Option (List Str)
  | [] => some []
  | .str b :: r => (sxs r).map (b :: ·)
  | _ => none
theorem sxs_map : ∀ bs : List Str, sxs (bs.map .str) = some bs
  | [] => rfl
  | b :: r => by
    show (sxs (r.map .str)).map (b :: ·) = _
    rw [sxs_map r]
    rfl
theorem sxs_eq : ∀ {xs : List D} {bs : List Str}, sxs xs = some bs → xs = bs.map .str
  | [], _, h => by cases h; rfl
  | .str b :: r, bs, h => by
    obtain ⟨l, e1, e2⟩ := Option.map_eq_some_iff.mp (show (sxs r).map (b :: ·) = some bs from h)
    subst e2
    rw [sxs_eq e1]
    rfl
theorem FzL.sts {K : PySem.W.Frag} {F : Hp} : ∀ {bs : List Str} {vs : List V}, FzL K F vs (bs.map .str) → vs = bs.map V.str
  | [], _, .nil => rfl
  | b :: bs, _, .cons h l => by
    cases h
    rw [l.sts]
    rfl
def ixs : List D → Option (List Int)
  | [] => some []
  | .int b :: r => (ixs r).map (b :: ·)
  | _ => none
theorem ixs_map : ∀ bs : List Int, ixs (bs.map .int) = some bs
  | [] => rfl
  | b :: r => by
    show (ixs (r.map .int)).map (b :: ·) = _
    rw [ixs_map r]
    rfl
theorem ixs_eq : ∀ {xs : List D} {bs : List Int}, ixs xs = some bs → xs = bs.map .int
  | [], _, h => by cases h; rfl
  | .int b :: r, bs, h => by
    obtain ⟨l, e1, e2⟩ := Option.map_eq_some_iff.mp (show (ixs r).map (b :: ·) = some bs from h)
    subst e2
    rw [ixs_eq e1]
    rfl
theorem FzL.its {K : PySem.W.Frag} {F : Hp} : ∀ {bs : List Int} {vs : List V}, FzL K F vs (bs.map .int) → vs = bs.map V.int
  | [], _, .nil => rfl
  | b :: bs, _, .cons h l => by
    cases h
    rw [l.its]
    rfl
/-- min of a list: of texts, of ixs -/
def rMin3 : List Val → Gam → KE3 → Prop := fun ys Γ k => ∃ y xs, ys = [y] ∧ Γ.dl y = some xs ∧
  ((∃ s ss, sxs xs = some (s :: ss) ∧ k (.d (.str (minS s ss))) Γ) ∨ ∃ ns, ixs xs = some ns ∧ 0 < ns.length ∧ ∀ m, m ∈ ns → (∀ z, z ∈ ns → m ≤ z) → k (.d (.int m)) Γ)
def rMax3 : List Val → Gam → KE3 → Prop := fun ys Γ k => ∃ y xs ns, ys = [y] ∧ Γ.dl y = some xs ∧ ixs xs = some ns ∧ 0 < ns.length ∧ ∀ m, m ∈ ns → (∀ z, z ∈ ns → z ≤ m) → k (.d (.int m)) Γ
def rSum3 : List Val → Gam → KE3 → Prop := fun ys Γ k => ∃ y xs ns, ys = [y] ∧ Γ.dl y = some xs ∧ ixs xs = some ns ∧ k (.d (.int ns.sum)) Γ
theorem c_min {X : Cx} {W : WX} (c : Good X W) : Call3 X (.builtin "min") rMin3 := ⟨_, CallR.or (cr_minS c.calm (by have := c.un; omega)) (cr_min c.calm), ⟨fun w H σ Γ Q k us ys S r h hk => by
  obtain ⟨y, xs, rfl, e, h⟩ := h
  obtain ⟨u, rfl, r1⟩ := vals1' r
  obtain ⟨a, vs, rfl, h1, l⟩ := S.dl r1 e
  rcases h with ⟨s, ss, es, h⟩ | ⟨ns, es, hn, h⟩
  · rw [sxs_eq es] at l
    have := l.sts
    subst this
    exact .inl ⟨a, s, ss, rfl, .inl (.inl h1), hk _ w H _ Γ h S (Fz.str _) (Grow.refl _ _)⟩
  · rw [ixs_eq es] at l
    have := l.its
    subst this
    exact .inr ⟨a, ns, rfl, .inl (.inl h1), hn, fun m hm hl => hk _ w H _ Γ (h m hm hl) S (Fz.int _) (Grow.refl _ _)⟩⟩⟩
theorem c_max {X : Cx} {W : WX} (c : Good X W) : Call3 X (.builtin "max") rMax3 := ⟨_, cr_max c.calm, ⟨fun w H σ Γ Q k us ys S r h hk => by
  obtain ⟨y, xs, ns, rfl, e, es, hn, h⟩ := h
  obtain ⟨u, rfl, r1⟩ := vals1' r
  obtain ⟨a, vs, rfl, h1, l⟩ := S.dl r1 e
  rw [ixs_eq es] at l
  have := l.its
  subst this
  exact ⟨a, ns, rfl, .inl (.inl h1), hn, fun m hm hl => hk _ w H _ Γ (h m hm hl) S (Fz.int _) (Grow.refl _ _)⟩⟩⟩
theorem c_sum {X : Cx} {W : WX} (c : Good X W) : Call3 X (.builtin "sum") rSum3 := ⟨_, cr_sum c.calm, ⟨fun w H σ Γ Q k us ys S r h hk => by
  obtain ⟨y, xs, ns, rfl, e, es, h⟩ := h
  obtain ⟨u, rfl, r1⟩ := vals1' r
  obtain ⟨a, vs, rfl, h1, l⟩ := S.dl r1 e
  rw [ixs_eq es] at l
  have := l.its
  subst this
  exact ⟨a, ns, rfl, .inl (.inl h1), hk _ w H _ Γ h S (Fz.int _) (Grow.refl _ _)⟩⟩⟩

/-! ### isinstance with a built-in class -/
def Gam.kind (Γ : Gam) (y : Val) : Option String := match Γ.shp y with
  | .L _ => some "list"
  | .U _ => some "tuple"
  | .M _ => some "dict"
  | .T _ => if Γ.lk = false then some "dict" else none
  | .s (.bl _) => some "bool"
  | .s (.int _) => some "int"
  | .s (.str _) => some "str"
  | .s .non => match y with | .d _ => some "NoneType" | _ => none
  | _ => none
def isK (k T : String) : Bool := k == T || (k == "bool" && T == "int")
def kinds : List String := ["list", "tuple", "dict", "bool", "int", "str", "NoneType"]
theorem kitB_all : (kinds.all fun k => ["list", "tuple", "dict", "bool", "int", "str"].all fun T => decide (kitB k T = some (isK k T))) = true := by decide +kernel
theorem kitB_is {k T : String} (hk : k ∈ kinds) (hT : T ∈ ["list", "tuple", "dict", "bool", "int", "str"]) : kitB k T = some (isK k T) := by
  have h := kitB_all
  rw [List.all_eq_true] at h
  have h2 := h k hk
  rw [List.all_eq_true] at h2
  exact of_decide_eq_true (h2 T hT)
def rIsi3 : List Val → Gam → KE3 → Prop := fun ys Γ k => ∃ y T t, ys = [y, .d (.ty T)] ∧ Γ.kind y = some t ∧ T ∈ ["list", "tuple", "dict", "bool", "int", "str"] ∧ k (.d (.bl (isK t T))) Γ
theorem Rd.tyD {K : PySem.W.Frag} {H : Hp} {a : Addr} {kv : List (Key × V)} (h : Rd H a (.dK kv)) : TyX K H (.ref a) (.type "dict") := by
  rcases h with h | ⟨o, h⟩
  · exact .base (.dK h)
  · exact .fDict h
theorem c_isi {X : Cx} : Call3 X (.builtin "isinstance") rIsi3 := ⟨_, call_isi, ⟨fun w H σ Γ Q k us ys S r h hk => by
  obtain ⟨y, T, t, rfl, e, hT, h⟩ := h
  obtain ⟨u, u', rfl, r1, r2⟩ := vals2' r
  cases (show Fz _ w.F u' (.ty T) from r2)
  have fin : Q (.bl (isK t T)) H := hk _ w H _ Γ h S (Fz.bl _) (Grow.refl _ _)
  have go : t ∈ kinds → TyX X.K H u (.type t) → rIsi X.K [u, .ty T] H Q := fun hk ht => ⟨u, .ty T, .type t, .type T, isK t T, rfl, .ty T, ht, kit_ty (kitB_is hk hT), fin⟩
  unfold Gam.kind at e
  split at e
  · rename_i xs e1
    cases e
    obtain ⟨a, vs, rfl, h1, _⟩ := S.shpL r1 e1
    exact go (by decide) (.base (.lst h1))
  · rename_i xs e1
    cases e
    obtain ⟨a, vs, rfl, h1, _⟩ := S.shpU r1 e1
    exact go (by decide) (.base (.tup h1))
  · rename_i xs e1
    cases e
    obtain ⟨a, kv, rfl, h1, _⟩ := S.shpM r1 e1
    exact go (by decide) (Rd.tyD h1)
  · rename_i xs e1
    split at e
    · rename_i hl
      cases e
      obtain ⟨a, kv, rfl, h1, _⟩ := S.shpTx hl r1 e1
      exact go (by decide) (.base (.dT h1))
    · cases e
  · rename_i b e1
    cases e
    cases S.scal r1 e1 (fun z => by cases z)
    exact go (by decide) (.base (.bl _))
  · rename_i b e1
    cases e
    cases S.scal r1 e1 (fun z => by cases z)
    exact go (by decide) (.base (.int _))
  · rename_i b e1
    cases e
    cases S.scal r1 e1 (fun z => by cases z)
    exact go (by decide) (.base (.str _))
  · rename_i e1
    split at e
    · rename_i z
      cases e
      cases z <;> first | (cases (show Fz _ w.F u .non from r1); exact go (by decide) (.base .non)) | cases e1
    · cases e
  · cases e⟩⟩
end L3

namespace L3
open PySem L2 PyProof.Rows

/-! ### methods of lists -/
section
variable {K : PySem.W.Frag} {w : Wd} {H : Hp} {σ : L2.St} {Γ : Gam}
/-- an owned list is written -/
theorem Sta.mutL (S : Sta K w H σ Γ) {n : Nat} {xs zs : List Val} {u : V} (r : VR K w u (.own n)) (hc : Γ.st[n]? = some (.L xs)) : ∃ a vs, u = .ref a ∧ H a = some (.lst vs) ∧ Paired (VR K w) vs xs ∧
    ∀ us, Paired (VR K w) us zs → Sta K w (upd H a (.lst us)) σ { Γ with st := Γ.st.set n (.L zs) } ∧ Grow w H w (upd H a (.lst us)) := by
  obtain ⟨a, ha, rfl⟩ := r
  obtain ⟨hF, vs, h1, h2⟩ := S.cells n _ a hc ha
  exact ⟨a, vs, rfl, h1, h2, fun us p => S.mut ha hF ⟨hF, us, upd_same, p⟩⟩
end
theorem vrs_dropLast {K : PySem.W.Frag} {w : Wd} : ∀ {vs : List V} {xs : List Val}, Paired (VR K w) vs xs → Paired (VR K w) vs.dropLast xs.dropLast
  | _, _, .nil => .nil
  | _, _, .cons _ .nil => .nil
  | _, _, .cons a (.cons b t) => .cons a (vrs_dropLast (.cons b t))
theorem vrs_erase {K : PySem.W.Frag} {w : Wd} : ∀ {vs : List V} {xs : List Val} (j : Nat), Paired (VR K w) vs xs → Paired (VR K w) (vs.eraseIdx j) (xs.eraseIdx j)
  | _, _, _, .nil => .nil
  | _, _, 0, .cons _ t => t
  | _, _, j + 1, .cons a t => .cons a (vrs_erase j t)
theorem vrs_rev {K : PySem.W.Frag} {w : Wd} {vs : List V} {xs : List Val} (h : Paired (VR K w) vs xs) : Paired (VR K w) vs.reverse xs.reverse := by
  induction h with
  | nil => exact .nil
  | cons r t ih => rw [List.reverse_cons, List.reverse_cons]; exact vrs_append ih (.cons r .nil)
theorem vrs_take {K : PySem.W.Frag} {w : Wd} : ∀ {vs : List V} {xs : List Val} (j : Nat), Paired (VR K w) vs xs → Paired (VR K w) (vs.take j) (xs.take j)
  | _, _, 0, _ => by rw [List.take_zero, List.take_zero]; exact .nil
  | _, _, _ + 1, .nil => .nil
  | _, _, j + 1, .cons a t => .cons a (vrs_take j t)
theorem vrs_drop {K : PySem.W.Frag} {w : Wd} : ∀ {vs : List V} {xs : List Val} (j : Nat), Paired (VR K w) vs xs → Paired (VR K w) (vs.drop j) (xs.drop j)
  | _, _, 0, h => h
  | _, _, _ + 1, .nil => .nil
  | _, _, j + 1, .cons a t => vrs_drop j t
theorem vr_get {K : PySem.W.Frag} {w : Wd} {q : Val} : ∀ {vs : List V} {xs : List Val}, Paired (VR K w) vs xs → ∀ {j : Nat}, xs[j]? = some q → ∃ v, vs[j]? = some v ∧ VR K w v q
  | _, _, .nil, _, h => by simp at h
  | _, _, .cons r _, 0, h => by simp at h; subst h; exact ⟨_, rfl, r⟩
  | _, _, .cons _ t, j + 1, h => by simpa using vr_get t (j := j) (by simpa using h)
def rAppend3 : Val → List Val → Gam → KE3 → Prop := fun y ys Γ k => ∃ n xs z, y = .own n ∧ ys = [z] ∧ Γ.st[n]? = some (.L xs) ∧ xs.length < sizeLine ∧ k (.d .non) { Γ with st := Γ.st.set n (.L (xs ++ [z])) }
def rPop3 : Val → List Val → Gam → KE3 → Prop := fun y ys Γ k => ∃ n xs z, y = .own n ∧ ys = [] ∧ Γ.st[n]? = some (.L xs) ∧ xs[xs.length - 1]? = some z ∧ k z { Γ with st := Γ.st.set n (.L xs.dropLast) }
def rPopAt3 : Val → List Val → Gam → KE3 → Prop := fun y ys Γ k => ∃ n xs z i j, y = .own n ∧ ys = [.d (.int i)] ∧ Γ.st[n]? = some (.L xs) ∧ -(2 ^ 63) ≤ i ∧ i < 2 ^ 63 ∧ seqIndex? i xs.length = some j ∧ xs[j]? = some z ∧ k z { Γ with st := Γ.st.set n (.L (xs.eraseIdx j)) }
def rRev3 : Val → List Val → Gam → KE3 → Prop := fun y ys Γ k => ∃ n xs, y = .own n ∧ ys = [] ∧ Γ.st[n]? = some (.L xs) ∧ k (.d .non) { Γ with st := Γ.st.set n (.L xs.reverse) }
def rClear3 : Val → List Val → Gam → KE3 → Prop := fun y ys Γ k => ∃ n xs, y = .own n ∧ ys = [] ∧ Γ.st[n]? = some (.L xs) ∧ k (.d .non) { Γ with st := Γ.st.set n (.L []) }
def rExtend3 : Val → List Val → Gam → KE3 → Prop := fun y ys Γ k => ∃ n xs z zs, y = .own n ∧ ys = [z] ∧ Γ.st[n]? = some (.L xs) ∧ Γ.shp z = .L zs ∧ xs.length + zs.length ≤ sizeLine ∧ k (.d .non) { Γ with st := Γ.st.set n (.L (xs ++ zs)) }
def rInsert3 : Val → List Val → Gam → KE3 → Prop := fun y ys Γ k => ∃ n xs i z, y = .own n ∧ ys = [.d (.int i), z] ∧ Γ.st[n]? = some (.L xs) ∧ xs.length < sizeLine ∧ 0 ≤ i ∧ i < 2 ^ 63 ∧ k (.d .non) { Γ with st := Γ.st.set n (.L (xs.take i.toNat ++ [z] ++ xs.drop i.toNat)) }
theorem m_append {X : Cx} : Mt3 X "list.append" rAppend3 := ⟨_, mt_append, ⟨fun w H σ Γ Q k u y us ys S r rs h hk => by
  obtain ⟨n, xs, z, rfl, rfl, hc, hl, h⟩ := h
  obtain ⟨v, rfl, r1⟩ := vals1' rs
  obtain ⟨a, vs, rfl, h1, p, go⟩ := S.mutL (zs := xs ++ [z]) r hc
  obtain ⟨S1, g1⟩ := go _ (vrs_append p (.cons r1 .nil))
  exact ⟨a, vs, v, rfl, rfl, h1, by rw [vrs_length p]; exact hl, hk _ _ _ _ _ h S1 Fz.non g1⟩⟩⟩
theorem m_pop {X : Cx} : Mt3 X "list.pop" rPop3 := ⟨_, mt_pop, ⟨fun w H σ Γ Q k u y us ys S r rs h hk => by
  obtain ⟨n, xs, z, rfl, rfl, hc, hz, h⟩ := h
  cases rs
  obtain ⟨a, vs, rfl, h1, p, go⟩ := S.mutL (zs := xs.dropLast) r hc
  obtain ⟨S1, g1⟩ := go _ (vrs_dropLast p)
  obtain ⟨v, e, rv⟩ := vr_get p hz
  exact ⟨a, vs, v, rfl, rfl, h1, by rw [vrs_length p]; exact e, hk _ _ _ _ _ h S1 (rv.grow g1) g1⟩⟩⟩
theorem m_popAt {X : Cx} : Mt3 X "list.pop" rPopAt3 := ⟨_, mt_popAt, ⟨fun w H σ Γ Q k u y us ys S r rs h hk => by
  obtain ⟨n, xs, z, i, j, rfl, rfl, hc, l1, l2, hi, hz, h⟩ := h
  obtain ⟨v0, rfl, r1⟩ := vals1' rs
  have := vr_int r1
  subst this
  obtain ⟨a, vs, rfl, h1, p, go⟩ := S.mutL (zs := xs.eraseIdx j) r hc
  obtain ⟨S1, g1⟩ := go _ (vrs_erase j p)
  obtain ⟨v, e, rv⟩ := vr_get p hz
  exact ⟨a, vs, i, j, v, rfl, rfl, h1, l1, l2, by rw [vrs_length p]; exact hi, e, hk _ _ _ _ _ h S1 (rv.grow g1) g1⟩⟩⟩
theorem m_rev {X : Cx} : Mt3 X "list.reverse" rRev3 := ⟨_, mt_reverse, ⟨fun w H σ Γ Q k u y us ys S r rs h hk => by
  obtain ⟨n, xs, rfl, rfl, hc, h⟩ := h
  cases rs
  obtain ⟨a, vs, rfl, h1, p, go⟩ := S.mutL (zs := xs.reverse) r hc
  obtain ⟨S1, g1⟩ := go _ (vrs_rev p)
  exact ⟨a, vs, rfl, rfl, h1, hk _ _ _ _ _ h S1 Fz.non g1⟩⟩⟩
theorem m_clear {X : Cx} : Mt3 X "list.clear" rClear3 := ⟨_, mt_clear, ⟨fun w H σ Γ Q k u y us ys S r rs h hk => by
  obtain ⟨n, xs, rfl, rfl, hc, h⟩ := h
  cases rs
  obtain ⟨a, vs, rfl, h1, p, go⟩ := S.mutL (zs := []) r hc
  obtain ⟨S1, g1⟩ := go [] .nil
  exact ⟨a, vs, rfl, rfl, h1, hk _ _ _ _ _ h S1 Fz.non g1⟩⟩⟩
theorem m_extend {X : Cx} : Mt3 X "list.extend" rExtend3 := ⟨_, mt_extend, ⟨fun w H σ Γ Q k u y us ys S r rs h hk => by
  obtain ⟨n, xs, z, zs, rfl, rfl, hc, hz, hl, h⟩ := h
  obtain ⟨v, rfl, r1⟩ := vals1' rs
  obtain ⟨b, us, rfl, h2, p2⟩ := S.shpL r1 hz
  obtain ⟨a, vs, rfl, h1, p, go⟩ := S.mutL (zs := xs ++ zs) r hc
  obtain ⟨S1, g1⟩ := go _ (vrs_append p p2)
  exact ⟨a, b, vs, us, rfl, rfl, h1, h2, by rw [vrs_length p, vrs_length p2]; exact hl, hk _ _ _ _ _ h S1 Fz.non g1⟩⟩⟩
theorem m_insert {X : Cx} : Mt3 X "list.insert" rInsert3 := ⟨_, mt_insert, ⟨fun w H σ Γ Q k u y us ys S r rs h hk => by
  obtain ⟨n, xs, i, z, rfl, rfl, hc, hl, l1, l2, h⟩ := h
  obtain ⟨v0, v, rfl, r0, r1⟩ := vals2' rs
  have := vr_int r0
  subst this
  obtain ⟨a, vs, rfl, h1, p, go⟩ := S.mutL (zs := xs.take i.toNat ++ [z] ++ xs.drop i.toNat) r hc
  obtain ⟨S1, g1⟩ := go _ (vrs_append (vrs_append (vrs_take _ p) (.cons r1 .nil)) (vrs_drop _ p))
  exact ⟨a, vs, i, v, rfl, rfl, h1, by rw [vrs_length p]; exact hl, l1, l2, hk _ _ _ _ _ h S1 Fz.non g1⟩⟩⟩
/-! ### methods of texts -/
def rJoin3 : Val → List Val → Gam → KE3 → Prop := fun y ys Γ k => ∃ a z xs ss, y = .d (.str a) ∧ ys = [z] ∧ Γ.dl z = some xs ∧ sxs xs = some ss ∧ (ss.map (·.length)).sum + ss.length * a.length ≤ 16777216 ∧ k (.d (.str (Txt.join a ss))) Γ
theorem m_join {X : Cx} : Mt3 X "str.join" rJoin3 := ⟨_, mt_join, ⟨fun w H σ Γ Q k u y us ys S r rs h hk => by
  obtain ⟨a, z, xs, ss, rfl, rfl, e, es, hl, h⟩ := h
  obtain ⟨v, rfl, r1⟩ := vals1' rs
  have := vr_str r
  subst this
  obtain ⟨p, vs, rfl, h1, l⟩ := S.dl r1 e
  rw [sxs_eq es] at l
  have := l.sts
  subst this
  exact ⟨a, p, ss, rfl, rfl, .inl (.inl (.inl h1)), hl, hk _ w H _ Γ h S (Fz.str _) (Grow.refl _ _)⟩⟩⟩
/-! ### slices -/
def cutW {α : Type} (xs : List α) (lo hi : Option Int) : List α := (xs.drop (HT.sIx xs.length 0 lo)).take (HT.sIx xs.length xs.length hi - HT.sIx xs.length 0 lo)
abbrev RO := Gam → (Option Int → Gam → Prop) → XC → Prop
structure SO (K : PySem.W.Frag) (W : WX) (to : TO) (ro : RO) : Prop where
  go : ∀ (w : Wd) (H : Hp) (σ : L2.St) (Γ : Gam) (Q : Option Int → Hp → Prop) (k : Option Int → Gam → Prop) (x : XC), Sta K w H σ Γ → ro Γ k x →
    (∀ i w' H' Γ', k i Γ' → Sta K w' H' σ Γ' → Grow w H w' H' → Q i H') → BrX K W w H σ x → to σ H Q
structure PO3 (X : Cx) (W : WX) (e : Option Expr) (ro : RO) : Prop where
  ex : ∃ to, PO X e to ∧ SO X.K W to ro
def roNone : RO := fun Γ k _ => k none Γ
def roSome (re : RE) : RO := fun Γ k x => re Γ (fun y Γ1 => ∃ i, y = .d (.int i) ∧ k (some i) Γ1) x
theorem o_none {X : Cx} {W : WX} : PO3 X W none roNone := ⟨_, po_none, ⟨fun w H σ Γ Q k x S h hk _ => hk none w H Γ h S (Grow.refl _ _)⟩⟩
theorem o_some {X : Cx} {W : WX} {e : Expr} {re : RE} (he : PE3 X W e re) : PO3 X W (some e) (roSome re) := by
  obtain ⟨te, pe, se⟩ := he.ex
  refine ⟨_, po_some pe, ⟨fun w H σ Γ Q k x S h hk hx => se.go w H σ Γ _ _ x S h (fun u w1 H1 y Γ1 h1 S1 r1 g1 => ?_) hx⟩⟩
  obtain ⟨i, rfl, h1⟩ := h1
  have := vr_int r1
  subst this
  exact ⟨i, rfl, hk _ w1 H1 Γ1 h1 S1 g1⟩
/-- xs[a:b] of a list: a new one -/
def rSl (o : Bool) (re : RE) (lo hi : RO) : RE := fun Γ k x => re Γ (fun y Γ1 => lo Γ1 (fun i Γ2 => hi Γ2 (fun j Γ3 => ∃ xs, Γ3.shp y = .L xs ∧ Γ3.put o (.L (cutW xs i j)) k) x) x) x
theorem w_sl {X : Cx} {W : WX} {e : Expr} {lo hi : Option Expr} {re : RE} {rl rh : RO} {pos p2 : Pos} (o : Bool) (he : PE3 X W e re) (hl : PO3 X W lo rl) (hh : PO3 X W hi rh) : PE3 X W (.Subscript e (.Slice lo hi none p2) pos) (rSl o re rl rh) := by
  obtain ⟨te, pe, se⟩ := he.ex
  obtain ⟨tl, pl, sl⟩ := hl.ex
  obtain ⟨th, ph, sh⟩ := hh.ex
  refine ⟨_, pe_slice sl_list pe pl ph, ⟨fun w H σ Γ Q k x S h hk hx => ?_⟩⟩
  refine se.go w H σ Γ _ _ x S h (fun u w1 H1 y Γ1 h1 S1 r1 g1 => ?_) hx
  refine sl.go w1 H1 σ Γ1 _ _ x S1 h1 (fun i w2 H2 Γ2 h2 S2 g2 => ?_) (hx.grow g1)
  refine sh.go w2 H2 σ Γ2 _ _ x S2 h2 (fun j w3 H3 Γ3 h3 S3 g3 => ?_) (hx.grow (g1.trans g2))
  obtain ⟨xs, e, h3⟩ := h3
  obtain ⟨a, vs, rfl, ha, p⟩ := S3.shpL ((r1.grow g2).grow g3) e
  refine ⟨a, vs, rfl, .inl (.inl ha), fun q hq => S3.putL hq ?_ h3 fun v w' H' y Γ' a b c d => hk v w' H' y Γ' a b c (((g1.trans g2).trans g3).trans d)⟩
  unfold cutV cutW
  rw [vrs_length p]
  exact vrs_take _ (vrs_drop _ p)
end L3

namespace L3
open PySem L2 PyProof.Rows

/-! ### -n, n += e -/
section
variable {K : PySem.W.Frag} {X : Cx} {W : WX} {pos pos' : Pos} {e : Expr} {re : RE}
def rNeg3 (re : RE) : RE := fun Γ k x => re Γ (fun y Γ1 => ∃ i, y = .d (.int i) ∧ k (.d (.int (-i))) Γ1) x
theorem w_neg (he : PE3 X W e re) : PE3 X W (.UnaryOp .USub e pos) (rNeg3 re) := by
  obtain ⟨te, pe, se⟩ := he.ex
  refine ⟨_, pe_un un_neg pe, ⟨fun w H σ Γ Q k x S h hk hx => se.go w H σ Γ _ _ x S h (fun u w1 H1 y Γ1 h1 S1 r1 g1 => ?_) hx⟩⟩
  obtain ⟨i, rfl, h1⟩ := h1
  have := vr_int r1
  subst this
  exact ⟨i, rfl, hk _ w1 H1 _ Γ1 h1 S1 (Fz.int _) g1⟩
def rAug (i : Nat) (f : Int → Int → Int) (re : RE) : RS := fun N Γ => ∃ a, Γ.sl[i]? = some (some (.d (.int a))) ∧ re Γ (fun y Γ1 => ∃ b, y = .d (.int b) ∧ N.nx { Γ1 with sl := Γ1.sl.set i (some (.d (.int (f a b)))) }) N.ex
theorem s_augI {i : Nat} {x : Str} {op : Operator} {f : Int → Int → Int} (c : Good X W) (ho : PIp X op (ipI f)) (he : PE3 X W e re) (hi : X.N[i]? = some x := by rfl) (hx : Loc X.env.scope x := by first | exact .inl rfl | exact .inr rfl) (hf : X.fn x = true ∨ X.env.scope.names.lookup x = some .local := by first | exact .inl rfl | exact .inr rfl) :
    PS3 X W (.AugAssign (.Name x pos') op e pos) (rAug i f re) := by
  obtain ⟨te, pe, se⟩ := he.ex
  refine ⟨_, ps_aug c.nd hi hx pe ho hf, ⟨fun w H σ Γ D N S h b => ?_⟩⟩
  obtain ⟨a, e1, h⟩ := h
  obtain ⟨v, e2, r⟩ := S.slots i _ e1
  have := vr_int r
  subst this
  refine ⟨_, e2, se.go w H σ Γ _ _ N.ex S h (fun u w1 H1 y Γ1 h1 S1 r1 g1 => ?_) (b.ex σ)⟩
  obtain ⟨j, rfl, h1⟩ := h1
  have := vr_int r1
  subst this
  exact ⟨a, j, rfl, rfl, b.nx _ _ _ _ h1 (S1.set (x := .d (.int (f a j))) (Fz.int _)) g1⟩
theorem s_add {i : Nat} {x : Str} (c : Good X W) (he : PE3 X W e re) (hi : X.N[i]? = some x := by rfl) (hx : Loc X.env.scope x := by first | exact .inl rfl | exact .inr rfl) (hf : X.fn x = true ∨ X.env.scope.names.lookup x = some .local := by first | exact .inl rfl | exact .inr rfl) :
    PS3 X W (.AugAssign (.Name x pos') .Add e pos) (rAug i (fun a b => a + b) re) := s_augI c ip_add he hi hx hf
theorem s_sub {i : Nat} {x : Str} (c : Good X W) (he : PE3 X W e re) (hi : X.N[i]? = some x := by rfl) (hx : Loc X.env.scope x := by first | exact .inl rfl | exact .inr rfl) (hf : X.fn x = true ∨ X.env.scope.names.lookup x = some .local := by first | exact .inl rfl | exact .inr rfl) :
    PS3 X W (.AugAssign (.Name x pos') .Sub e pos) (rAug i (fun a b => a - b) re) := s_augI c ip_sub he hi hx hf
end

/-! ### what an owned object's attribute holds is frozen, behind a body -/
def finW (i : Nat) (f : Str) (Γ : Gam) (k : Gam → Prop) : Prop := ∃ n C fs q x Γ2, Γ.sl[i]? = some (some (.own n)) ∧ Γ.st[n]? = some (.O C fs) ∧ fs.lookup f = some q ∧ Γ.frz 4 q = some (x, Γ2) ∧
  Γ2.st[n]? = some (.O C fs) ∧ k { Γ2 with st := Γ2.st.set n (.O C (putFld f (.d x) fs)) }
def rFin (i : Nat) (f : Str) (rs : RS) : RS := fun N Γ => rs { N with nx := fun Γ1 => finW i f Γ1 N.nx } Γ
section
variable {K : PySem.W.Frag} {w : Wd} {H : Hp} {σ : L2.St} {Γ : Gam}
theorem Sta.recell (S : Sta K w H σ Γ) {n : Nat} {c : Cell} (h : ∀ a, w.as[n]? = some a → CellOk K w H a c) : Sta K w H σ { Γ with st := Γ.st.set n c } := by
  refine ⟨S.sub, S.lkd, S.nd, by rw [S.len]; simp, fun m d a h1 h2 => ?_, S.alive, S.slen, S.slots⟩
  have h1' : (Γ.st.set n c)[m]? = some d := h1
  by_cases e : n = m
  · subst e
    have hl : n < Γ.st.length := by
      have := (List.getElem?_eq_some_iff.mp h1').1
      simpa using this
    rw [List.getElem?_set_self hl] at h1'
    cases h1'
    exact h a h2
  · rw [List.getElem?_set_ne e] at h1'
    exact S.cells m d a h1' h2
theorem fld_vr {v : V} {x : D} {f : Str} (r : VR K w v (.d x)) : ∀ {fv : List (Str × V)} {fs : List (Str × Val)}, fv.lookup f = some v → fv.map (·.1) = fs.map (·.1) → Paired (VR K w) (fv.map (·.2)) (fs.map (·.2)) →
    fv.map (·.1) = (putFld f (.d x) fs).map (·.1) ∧ Paired (VR K w) (fv.map (·.2)) ((putFld f (.d x) fs).map (·.2))
  | [], _, no, _, _ => by cases no
  | _ :: _, [], _, e, _ => by cases e
  | (a, u) :: fv, (b, z) :: fs, h, e, p => by
    simp only [List.map_cons] at e p
    injection e with e1 e2
    have e1' : a = b := e1
    subst e1'
    cases p with
    | cons r0 l =>
      unfold putFld
      rw [List.lookup_cons] at h
      by_cases c : a = f
      · subst c
        rw [if_pos rfl]
        simp at h
        subst h
        exact ⟨by rw [List.map_cons, List.map_cons, e2], .cons r l⟩
      · rw [if_neg c]
        have c' : (f == a) = false := by simpa using Ne.symm c
        rw [c'] at h
        have := fld_vr r h e2 l
        exact ⟨by rw [List.map_cons, List.map_cons, this.1], .cons r0 this.2⟩
end
section
variable {X : Cx} {W : WX} {sts : List Stmt} {rs : RS}
theorem ss_fin (i : Nat) (f : Str) (h : PSs3 X W sts rs) : PSs3 X W sts (rFin i f rs) := by
  obtain ⟨t, p, ss⟩ := h.ex
  refine ⟨t, p, ⟨fun w H σ Γ D N S h b => ss.go w H σ Γ D _ S h ⟨fun w1 H1 σ1 Γ1 h1 S1 g1 => ?_, b.rt, b.bk, b.ct, b.ex⟩⟩⟩
  obtain ⟨n, C, fs, q, x, Γ2, e1, e2, e3, e4, e5, h1⟩ := h1
  obtain ⟨v, _, r⟩ := S1.slots i _ e1
  obtain ⟨a, ha, rfl⟩ := r
  obtain ⟨_, dx, fv, ea, en, pv⟩ := S1.cells n _ a e2 ha
  obtain ⟨u, lu, rq⟩ := lookup_vr en pv e3
  obtain ⟨w2, S2, g2, fz⟩ := frz_ok 4 Γ1 Γ2 q x e4 w1 u S1 rq
  have S3 := S2.recell (n := n) (c := .O C (putFld f (.d x) fs)) fun a' ha' => by
    obtain ⟨hF, dx', fv', ea', en', pv'⟩ := S2.cells n _ a' e5 ha'
    have : a' = a := by
      have := as_grow g2 ha
      rw [ha'] at this
      exact Option.some.inj this
    subst this
    rw [ea] at ea'
    cases ea'
    have z := fld_vr (K := X.K) (w := w2) (x := x) fz lu en' pv'
    exact ⟨hF, dx, fv, ea, z.1, z.2⟩
  exact b.nx w2 H1 σ1 _ h1 S3 (g1.trans g2)
end
end L3

namespace L3
open PySem L2 PyProof.Rows

/-! ### dict comprehensions -/
section
variable {K : PySem.W.Frag} {X : Cx} {W : WX}
theorem Sta.reslot {w w5 : Wd} {H H5 : Hp} {σ σ5 : L2.St} {Γ Γ5 : Gam} (S0 : Sta K w H σ Γ) (S5 : Sta K w5 H5 σ5 Γ5) (g : Grow w H w5 H5) : Sta K w5 H5 σ { Γ with st := Γ5.st } :=
  ⟨S5.sub, fun e => ((congrArg Lks.l g.lks).trans (S0.lkd e) : w5.lks.l = []), S5.nd, S5.len, S5.cells, S5.alive, S0.slen, S0.slotsG g⟩
/-- the turns of a dict comprehension: the store is kept whole -/
def DcW (rg : RG) (rt : RT) (rk rv : RE) (vs : List Nat) (n : Nat) (item : Nat → Val) (ok : Gam → Prop) (Γ : Gam) (k : List (Key × Val) → Gam → Prop) : Prop :=
  ∃ Iv : Nat → List (Key × Val) → List Cell → Prop, Iv 0 [] Γ.st ∧ (∀ i acc st, i ≤ n → Iv i acc st → ok { Γ with st := st } ∧ acc.length < sizeLine) ∧
    (∀ i acc st, i < n → Iv i acc st → rg (item i) { Γ with sl := wipeS Γ.sl vs, st := st } (fun Γ3 => rt Γ3 (fun b Γ4 =>
      if b = true then rk Γ4 (fun y Γ5 => rv Γ5 (fun z Γ6 => ∃ q, y = .d (kD q) ∧ Iv (i + 1) (putD acc q z) Γ6.st) NoX) NoX else Iv (i + 1) acc Γ4.st) NoX) NoX) ∧
    ∀ acc st, Iv n acc st → k acc { Γ with st := st }
def putDc (k : KE3) : List (Key × Val) → Gam → Prop := fun acc Γ => k (.own Γ.st.length) { Γ with st := Γ.st ++ [.M acc] }
def rDc (ri : RI) (rg : RG) (rt : RT) (rk rv : RE) (vs : List Nat) : RE := fun Γ k x => ri Γ (fun n item ok Γ1 => DcW rg rt rk rv vs n item ok Γ1 (putDc k)) x
theorem vr_more {w : Wd} {p : Addr} {v : V} : ∀ {x : Val}, VR K w v x → VR K { w with as := w.as ++ [p] } v x
  | .d _, h => h
  | .own _, ⟨a, e, r⟩ => ⟨a, by show (w.as ++ [p])[_]? = _; rw [List.getElem?_append_left (List.getElem?_eq_some_iff.mp e).1]; exact e, r⟩
theorem vrs_more {w : Wd} {p : Addr} : ∀ {vs : List V} {xs : List Val}, Paired (VR K w) vs xs → Paired (VR K { w with as := w.as ++ [p] }) vs xs
  | _, _, .nil => .nil
  | _, _, .cons h l => .cons (vr_more h) (vrs_more l)
theorem dc_sound {wi : TI} {ri : RI} {g : TG} {rg : RG} {rt : RT} {rk rv : RE} {vs js : List Nat} (si : SI K W wi ri) (sg : SGc K g rg js) (hj : ∀ j, j ∈ js → j ∈ vs) :
    SE K W (tDc wi g (starT K WF rt) (starE K WF rk) (starE K WF rv) vs) (rDc ri rg rt rk rv vs) := ⟨fun w H σ Γ Q k x S h hk hx => by
  refine si.go w H σ Γ _ _ x S h (fun J w1 H1 n item ok Γ1 h1 S1 g1 it => ?_) hx
  intro D hD
  obtain ⟨Iv, h0, hok, hs, hd⟩ := h1
  refine ⟨fun i m H' => m = n - i ∧ i ≤ n ∧ ∃ w' acc st kv, Sta K w' H' σ { Γ1 with st := st } ∧ Grow w1 H1 w' H' ∧ Hid w' H' D (.dK kv) ∧ kv.map (·.1) = acc.map (·.1) ∧ Paired (VR K w') (kv.map (·.2)) (acc.map (·.2)) ∧ Iv i acc st, ⟨n, by simp, Nat.zero_le _, w1, [], Γ1.st, [], ?_, (Grow.refl _ _).side hD, Hid.of (S1.Fnone hD) (S1.fresh hD) (fun _ z => by cases z), rfl, .nil, h0⟩, ?_⟩
  · exact S1.side (S1.Fnone hD) (S1.fresh hD)
  rintro i m H' ⟨rfl, hi, w2, acc, st, kv, S2, g2, hid, ek, lz, iv⟩
  obtain ⟨okk, hlen⟩ := hok i acc st hi iv
  obtain ⟨hstop, hgo⟩ := it i w2 H' σ _ hi S2 g2 okk
  by_cases hlt : i < n
  · obtain ⟨go, hy⟩ := hgo hlt
    refine .inr ⟨go, fun H'' => ∃ w' acc st kv, Sta K w' H'' σ { Γ1 with st := st } ∧ Grow w1 H1 w' H'' ∧ Hid w' H'' D (.dK kv) ∧ kv.map (·.1) = acc.map (·.1) ∧ Paired (VR K w') (kv.map (·.2)) (acc.map (·.2)) ∧ Iv (i + 1) acc st, fun H'' z => ⟨n - (i + 1), by omega, rfl, hlt, z⟩, fun v H3 y => ?_⟩
    obtain ⟨w3, S3, r3, g3⟩ := hy v H3 y
    refine sg.go w3 H3 (L2.wipe σ vs) _ v _ _ _ (S3.wipe vs) r3 (hs i acc st hlt iv) fun w4 H4 σ4 Γ4 h4 S4 g4 f4 => ⟨wipe_eq (f4.1.trans (wipe_length σ vs)) fun j hm => f4.2 j (fun z => hm (hj j z)), w4, Γ4, _, NoX, S4, h4, fun b w5 H5 Γ5 h5 S5 g5 => ?_, brx_nox⟩
    have gg := (g3.trans g4).trans g5
    cases b with
    | false =>
      have ggg := g2.trans gg
      exact ⟨w5, acc, _, kv, S1.reslot S5 ggg, ggg, hid.grow gg, ek, vrs_grow gg lz, h5⟩
    | true =>
      refine ⟨w5, Γ5, _, NoX, S5, h5, fun u w6 H6 yy Γ6 h6 S6 r6 g6 => ?_, brx_nox⟩
      refine ⟨w6, Γ6, _, NoX, S6, h6, fun u2 w7 H7 y2 Γ7 h7 S7 r7 g7 => ?_, brx_nox⟩
      obtain ⟨q, rfl, h7⟩ := h7
      have hq := Fz.key r6
      subst hq
      have gt := (gg.trans g6).trans g7
      have h7' := hid.grow gt
      have hlen2 : kv.length = acc.length := by
        have := congrArg List.length ek
        rwa [List.length_map, List.length_map] at this
      have p := putD_vr (k := q) r7 ek (vrs_grow gt lz)
      have ggg := g2.trans gt
      exact ⟨kv, q, rfl, h7'.h, by rw [hlen2]; exact hlen, w7, putD acc q y2, _, putK kv q u2, (S1.reslot S7 ggg).side h7'.f h7'.a, ggg.side hD, Hid.of h7'.f h7'.a (fun _ z => by cases z), p.1, p.2, h7⟩
  · have e : i = n := by omega
    subst e
    refine .inl ⟨hstop rfl, ?_⟩
    obtain ⟨S3, g3⟩ := S2.adoptO hid (c := .M acc) ⟨hid.f, kv, hid.h, ek, vrs_more lz⟩ g2 hD
    exact hk _ _ _ _ _ (hd acc st iv) S3 ⟨D, S2.newOR D, rfl⟩ (g1.trans g3)⟩
end
section
variable {X : Cx} {W : WX} {kx vx tg iter : Expr} {ifs : List Expr} {scope : Scope} {own : List (Str × Nat)} {pos : Pos} {ri : RI} {g : TG} {rg : RG} {rt : RT} {rk rv : RE} {js : List Nat}
theorem w_dc (c : Good X W) (hi : PI3 X W tg iter ri) (ok : BlkOk X.N X.env.scope scope own)
    (hg : ∀ (s : Shared) (H : Hp) (C : Addr) (cl : List (Str × Addr)) (fp : List Addr), PGc (X.blk s H scope (compEnvC scope cl C X.env) fp) tg g rg js) (ht : ∀ (s : Shared) (H : Hp) (C : Addr) (cl : List (Str × Addr)) (fp : List Addr), PTs3 (X.blk s H scope (compEnvC scope cl C X.env) fp) ifs rt)
    (hk : ∀ (s : Shared) (H : Hp) (C : Addr) (cl : List (Str × Addr)) (fp : List Addr), PE3 (X.blk s H scope (compEnvC scope cl C X.env) fp) WF kx rk) (hv : ∀ (s : Shared) (H : Hp) (C : Addr) (cl : List (Str × Addr)) (fp : List Addr), PE3 (X.blk s H scope (compEnvC scope cl C X.env) fp) WF vx rv)
    (hj : ∀ j, j ∈ js → j ∈ own.map (·.2) := by decide) (hs : ∀ x, foldedSetIterable iter X.env x = pure x := by intro _; rfl) :
    PE3 X W (.DictComp kx vx [⟨tg, iter, ifs, 0⟩] scope pos) (rDc ri rg rt rk rv (own.map (·.2))) := by
  obtain ⟨wi, pi, si⟩ := hi.ex
  exact ⟨_, pe_dc c.calm c.nd pi ok (fun s H C cl fp => (hg s H C cl fp).p) (fun s H C cl fp => (ht s H C cl fp).p) (fun s H C cl fp => (hk s H C cl fp).star) (fun s H C cl fp => (hv s H C cl fp).star) hs, dc_sound si (hg X.s_0 X.H_0 0 [] []).s hj⟩
end
/-! ### two clauses: the new list is the cell behind the store, from the start -/
section
variable {K : PySem.W.Frag} {X : Cx} {W : WX}
def dcell (acc : List D) : Cell := .L (acc.map .d)
def Lc2W (rg : RG) (rt : RT) (ri1 : RI) (rg1 : RG) (rt1 : RT) (re : RE) (vs vs1 : List Nat) (n : Nat) (item : Nat → Val) (ok : Gam → Prop) (Γ0 : Gam) (k : List D → Gam → Prop) : Prop :=
  ∀ m Γ, m = Γ0.st.length → Γ = { Γ0 with st := Γ0.st ++ [dcell []] } →
  ∃ Iv : Nat → List D → List Cell → Prop, Iv 0 [] Γ.st ∧ (∀ i acc st, i ≤ n → Iv i acc st → ok { Γ with st := st }) ∧
    (∀ i acc st, i < n → Iv i acc st → rg (item i) { Γ with sl := wipeS Γ.sl vs, st := st } (fun Γ3 => rt Γ3 (fun b Γ4 =>
      if b = true then ri1 Γ4 (fun n1 item1 ok1 Γ5 => ∃ Iv1 : Nat → List D → List Cell → Prop, Iv1 0 acc Γ5.st ∧ (∀ j acc st, j ≤ n1 → Iv1 j acc st → ok1 { Γ5 with st := st } ∧ acc.length < sizeLine) ∧
        (∀ j acc st, j < n1 → Iv1 j acc st → rg1 (item1 j) { Γ5 with sl := wipeS Γ5.sl vs1, st := st } (fun Γ6 => rt1 Γ6 (fun b Γ7 =>
          if b = true then re Γ7 (fun y Γ8 => ∃ d, y = .d d ∧ Γ8.st[m]? = some (dcell acc) ∧ Iv1 (j + 1) (acc ++ [d]) (Γ5.back { Γ8 with st := Γ8.st.set m (dcell (acc ++ [d])) })) NoX else Iv1 (j + 1) acc (Γ5.back Γ7)) NoX) NoX) ∧
        ∀ acc st, Iv1 n1 acc st → Iv (i + 1) acc (Γ.back { Γ5 with st := st })) NoX else Iv (i + 1) acc (Γ.back Γ4)) NoX) NoX) ∧
    ∀ acc st, Iv n acc st → k acc { Γ with st := st }
/-- owned: as it stands; frozen: the cell stays behind -/
def putLc2 (o : Bool) (m : Nat) (k : KE3) : List D → Gam → Prop := fun acc Γ => match o with
  | true => k (.own m) Γ
  | false => Γ.st[m]? = some (dcell acc) ∧ k (.d (.lst acc)) { Γ with st := Γ.st.set m (.fz (.lst acc)) }
def rLc2 (o : Bool) (ri : RI) (rg : RG) (rt : RT) (ri1 : RI) (rg1 : RG) (rt1 : RT) (re : RE) (vs vs1 : List Nat) : RE := fun Γ k x => ri Γ (fun n item ok Γ1 => Lc2W rg rt ri1 rg1 rt1 re vs vs1 n item ok Γ1 (putLc2 o Γ1.st.length k)) x
theorem Sta.mutD {w : Wd} {H : Hp} {σ : L2.St} {Γ : Gam} (S : Sta K w H σ Γ) {m : Nat} {D : Addr} {acc : List L3.D} (hD : w.as[m]? = some D) (hc : Γ.st[m]? = some (dcell acc)) : ∃ vs, H D = some (.lst vs) ∧ FzL K w.F vs acc ∧
    ∀ us ds, FzL K w.F us ds → Sta K w (upd H D (.lst us)) σ { Γ with st := Γ.st.set m (dcell ds) } ∧ Grow w H w (upd H D (.lst us)) := by
  obtain ⟨a, vs, ea, h1, p, go⟩ := S.mutL (u := .ref D) (zs := []) ⟨D, hD, rfl⟩ hc
  cases ea
  refine ⟨vs, h1, FzL.of_vr p, fun us ds l => ?_⟩
  obtain ⟨a, _, ea, _, _, go⟩ := S.mutL (u := .ref D) (zs := ds.map .d) ⟨D, hD, rfl⟩ hc
  cases ea
  exact go us (FzL.vr l)
theorem lc2_core {J : It} {g g1 : TG} {ri1 : RI} {rg rg1 : RG} {rt rt1 : RT} {re : RE} {vs js vs1 js1 : List Nat} {o : Bool} (sg : SGc K g rg js) (hj : ∀ j, j ∈ js → j ∈ vs) (sg1 : SGc K g1 rg1 js1) (hj1 : ∀ j, j ∈ js1 → j ∈ vs1) {w1 : Wd} {H1 : Hp} {σ : L2.St} {Γ1 : Gam} {n : Nat} {item : Nat → Val} {ok : Gam → Prop} {k : KE3} {Q : VK}
    (S1 : Sta K w1 H1 σ Γ1) (it : ItOk K J n item ok w1 H1) (h1 : Lc2W rg rt ri1 rg1 rt1 re vs vs1 n item ok Γ1 (putLc2 o Γ1.st.length k)) (hk : ∀ v w' H' y Γ', k y Γ' → Sta K w' H' σ Γ' → VR K w' v y → Grow w1 H1 w' H' → Q v H') :
    ∀ D, H1 D = none → ∃ W' : Nat → Nat → Hp → Prop, (∃ m, W' 0 m (upd H1 D (.lst []))) ∧ ∀ i m H, W' i m H →
  (J.stop i H ∧ Q (.ref D) H) ∨ (J.go i H ∧ ∃ Nx : Hp → Prop, (∀ H', Nx H' → ∃ m', m' < m ∧ W' (i + 1) m' H') ∧ ∀ x H', J.yld i H x H' → g x (wipe σ vs) H' fun σ2 H2 => wipe σ2 vs = wipe σ vs ∧ (starT K WF rt) σ2 H2 fun b H3 =>
    if b = true then (starI K WF ri1) σ2 H3 fun J1 H4 => ∃ W1 : Nat → Nat → Hp → Prop, (∃ m, W1 0 m H4) ∧ ∀ j k H, W1 j k H →
      (J1.stop j H ∧ Nx H) ∨ (J1.go j H ∧ ∃ Nx1 : Hp → Prop, (∀ H', Nx1 H' → ∃ k', k' < k ∧ W1 (j + 1) k' H') ∧ ∀ x H', J1.yld j H x H' → g1 x (wipe σ2 vs1) H' fun σ3 H5 => wipe σ3 vs1 = wipe σ2 vs1 ∧ (starT K WF rt1) σ3 H5 fun b H6 =>
        if b = true then (starE K WF re) σ3 H6 fun y H7 => ∃ acc, H7 D = some (.lst acc) ∧ acc.length < sizeLine ∧ Nx1 (upd H7 D (.lst (acc ++ [y]))) else Nx1 H6)
    else Nx H3) := by
  intro D hD
  obtain ⟨S0, g0⟩ := S1.newO (o := .lst []) (c := dcell []) hD ⟨S1.Fnone hD, [], upd_same, .nil⟩
  have hDm : ({ w1 with as := w1.as ++ [D] } : Wd).as[Γ1.st.length]? = some D := S1.newOR D
  generalize ew : ({ w1 with as := w1.as ++ [D] } : Wd) = w0 at S0 g0 hDm
  obtain ⟨Iv, h0, hok, hs, hd⟩ := h1 _ _ rfl rfl
  generalize hm : Γ1.st.length = mm at hs hd hDm
  generalize eΓ : ({ Γ1 with st := Γ1.st ++ [dcell []] } : Gam) = Γ0 at S0 h0 hok hs hd
  generalize eH : upd H1 D (.lst []) = H0 at S0 g0
  refine ⟨fun i m H' => m = n - i ∧ i ≤ n ∧ ∃ w' acc st, Sta K w' H' σ { Γ0 with st := st } ∧ Grow w0 H0 w' H' ∧ w'.as = w0.as ∧ Iv i acc st, ⟨n, by simp, Nat.zero_le _, w0, [], Γ0.st, S0, Grow.refl _ _, rfl, h0⟩, ?_⟩
  rintro i m H' ⟨rfl, hi, w2, acc, st, S2, g2, hl, iv⟩
  have okk := hok i acc st hi iv
  obtain ⟨hstop, hgo⟩ := it i w2 H' σ _ hi S2 (g0.trans g2) okk
  by_cases hlt : i < n
  · obtain ⟨go, hy⟩ := hgo hlt
    refine .inr ⟨go, fun H'' => ∃ w' acc st, Sta K w' H'' σ { Γ0 with st := st } ∧ Grow w0 H0 w' H'' ∧ w'.as = w0.as ∧ Iv (i + 1) acc st, fun H'' z => ⟨n - (i + 1), by omega, rfl, hlt, z⟩, fun v H3 y => ?_⟩
    obtain ⟨w3, S3, r3, g3⟩ := hy v H3 y
    refine sg.go w3 H3 (L2.wipe σ vs) _ v _ _ _ (S3.wipe vs) r3 (hs i acc st hlt iv) fun w4 H4 σ4 Γ4 h4 S4 g4 f4 => ⟨wipe_eq (f4.1.trans (wipe_length σ vs)) fun j hm => f4.2 j (fun z => hm (hj j z)), w4, Γ4, _, NoX, S4, h4, fun b w5 H5 Γ5 h5 S5 g5 => ?_, brx_nox⟩
    have gg := (g3.trans g4).trans g5
    cases b with
    | false =>
      obtain ⟨w6, S6, g6, e6, f6⟩ := Sta.back S0 S2 g2 hl S5 gg
      exact ⟨w6, acc, _, S6, g6, e6, h5⟩
    | true =>
      refine ⟨w5, Γ5, _, NoX, S5, h5, fun J1 w6 H6 n1 item1 ok1 Γ6 h6 S6 g6 it1 => ?_, brx_nox⟩
      have gk := gg.trans g6
      obtain ⟨Iv1, i0, iok, is, id⟩ := h6
      refine ⟨fun j m H' => m = n1 - j ∧ j ≤ n1 ∧ ∃ w' acc st, Sta K w' H' σ4 { Γ6 with st := st } ∧ Grow w6 H6 w' H' ∧ w'.as = w6.as ∧ Iv1 j acc st, ⟨n1, by simp, Nat.zero_le _, w6, acc, Γ6.st, S6, Grow.refl _ _, rfl, i0⟩, ?_⟩
      rintro j m H7 ⟨rfl, hj7, w7, acc7, st7, S7, g7, hl7, iv7⟩
      obtain ⟨okk7, hlen7⟩ := iok j acc7 st7 hj7 iv7
      obtain ⟨hstop7, hgo7⟩ := it1 j w7 H7 σ4 _ hj7 S7 g7 okk7
      by_cases hlt7 : j < n1
      · obtain ⟨go7, hy7⟩ := hgo7 hlt7
        refine .inr ⟨go7, fun H'' => ∃ w' acc st, Sta K w' H'' σ4 { Γ6 with st := st } ∧ Grow w6 H6 w' H'' ∧ w'.as = w6.as ∧ Iv1 (j + 1) acc st, fun H'' z => ⟨n1 - (j + 1), by omega, rfl, hlt7, z⟩, fun v8 H8 y8 => ?_⟩
        obtain ⟨w8, S8, r8, g8⟩ := hy7 v8 H8 y8
        refine sg1.go w8 H8 (L2.wipe σ4 vs1) _ v8 _ _ _ (S8.wipe vs1) r8 (is j acc7 st7 hlt7 iv7) fun w9 H9 σ9 Γ9 h9 S9 g9 f9 => ⟨wipe_eq (f9.1.trans (wipe_length σ4 vs1)) fun j' hm => f9.2 j' (fun z => hm (hj1 j' z)), w9, Γ9, _, NoX, S9, h9, fun b wa Ha Γa ha Sa ga => ?_, brx_nox⟩
        have ga' := (g8.trans g9).trans ga
        cases b with
        | false =>
          obtain ⟨wb, Sb, gb, eb, fb⟩ := Sta.back S6 S7 g7 hl7 Sa ga'
          exact ⟨wb, acc7, _, Sb, gb, eb, ha⟩
        | true =>
          refine ⟨wa, Γa, _, NoX, Sa, ha, fun u wc Hc yy Γc hc Sc rc gc => ?_, brx_nox⟩
          obtain ⟨d, rfl, hcm, hc⟩ := hc
          have gd := ga'.trans gc
          have hDc : wc.as[mm]? = some D := as_grow ((g2.trans gk).trans (g7.trans gd)) hDm
          obtain ⟨us, e1, l1, go1⟩ := Sc.mutD hDc hcm
          obtain ⟨Sd, gx⟩ := go1 (us ++ [u]) (acc7 ++ [d]) (l1.snoc rc)
          obtain ⟨we, Se, ge, ee, fe⟩ := Sta.back S6 S7 g7 hl7 Sd (gd.trans gx)
          exact ⟨us, e1, by rw [l1.length]; exact hlen7, we, acc7 ++ [d], _, Se, ge, ee, hc⟩
      · have e : j = n1 := by omega
        subst e
        refine .inl ⟨hstop7 rfl, ?_⟩
        obtain ⟨wb, Sb, gb, eb, fb⟩ := Sta.back S0 S2 g2 hl S7 (gk.trans g7)
        exact ⟨wb, acc7, _, Sb, gb, eb, id acc7 st7 iv7⟩
  · have e : i = n := by omega
    subst e
    refine .inl ⟨hstop rfl, ?_⟩
    have h2 := hd acc st iv
    have hD2 : w2.as[mm]? = some D := as_grow g2 hDm
    cases o with
    | true => exact hk (.ref D) w2 H' (.own mm) { Γ0 with st := st } h2 S2 ⟨D, hD2, rfl⟩ (g0.trans g2)
    | false =>
      obtain ⟨hc, h2⟩ := h2
      obtain ⟨us, e1, l1, _⟩ := S2.mutD hD2 hc
      obtain ⟨hF, _⟩ := S2.cells mm _ D hc hD2
      obtain ⟨S3, g3⟩ := S2.freeze (x := .lst acc) hD2 hF e1 (Fz.lst upd_same (l1.le (upd_le hF)))
      exact hk (.ref D) _ H' (.d (.lst acc)) _ h2 S3 (Fz.lst upd_same (l1.le (upd_le hF))) ((g0.trans g2).trans g3)
theorem lc2_sound {wi : TI} {ri ri1 : RI} {g g1 : TG} {rg rg1 : RG} {rt rt1 : RT} {re : RE} {vs js vs1 js1 : List Nat} {o : Bool} (si : SI K W wi ri) (sg : SGc K g rg js) (hj : ∀ j, j ∈ js → j ∈ vs) (sg1 : SGc K g1 rg1 js1) (hj1 : ∀ j, j ∈ js1 → j ∈ vs1) :
    SE K W (tLc2 wi g (starT K WF rt) (starI K WF ri1) g1 (starT K WF rt1) (starE K WF re) vs vs1) (rLc2 o ri rg rt ri1 rg1 rt1 re vs vs1) := ⟨fun w H σ Γ Q k x S h hk hx =>
  si.go w H σ Γ _ _ x S h (fun J w1 H1 n item ok Γ1 h1 S1 gg it => lc2_core sg hj sg1 hj1 S1 it h1 fun v w' H' y Γ' a b c d => hk v w' H' y Γ' a b c (gg.trans d)) hx⟩
end
end L3

namespace L3
open PySem L2 PyProof.Rows

/-! ### a frozen dict that is walked is locked -/
def Gam.fzv (Γ : Gam) : Val → Option D
  | .d x => some x
  | .own n => match Γ.st[n]? with
    | some (.fz x) => some x
    | _ => none
section
variable {K : PySem.W.Frag} {w : Wd} {H : Hp} {σ : L2.St} {Γ : Gam} {v : V}
theorem Sta.fzv (S : Sta K w H σ Γ) : ∀ {y : Val} {x : D}, VR K w v y → Γ.fzv y = some x → Fz K w.F v x
  | .d _, _, r, e => by cases e; exact r
  | .own n, x, ⟨a, ha, r⟩, e => by
    subst r
    unfold Gam.fzv at e
    simp only at e
    split at e
    · rename_i z hc
      cases e
      exact S.cells n _ a hc ha
    · cases e
/-- locked, or locked already: what is behind can be taken back -/
structure Locked (K : PySem.W.Frag) (w : Wd) (H : Hp) (σ : L2.St) (Γ : Gam) (d : Addr) (kv : List (Key × V)) (od : Obj) (w' : Wd) (H' : Hp) : Prop where
  hF : w.F d = some (.dK kv)
  sta : Sta K w' H' σ { Γ with lk := true }
  mem : d ∈ w'.lks
  ob : w'.lks.ob d = od
  eF : w'.F = w.F
  eq : ∀ a, a ≠ d → H' a = H a
  back : ∀ w2 H2 σ2 Γ2, Sta K w2 H2 σ2 Γ2 → Grow w' H' w2 H2 → H2 d = some (.frz od (.dK kv)) ∧ ∃ w3 H3, (H3 = H2 ∧ H' = H ∨ H3 = upd H2 d (.dK kv) ∧ H d = some (.dK kv) ∧ H' = upd H d (.frz od (.dK kv))) ∧ Sta K w3 H3 σ2 { Γ2 with lk := Γ.lk } ∧ Grow w H w3 H3 ∧ w3.F = w2.F ∧ w3.as = w2.as
theorem Sta.lockd (S : Sta K w H σ Γ) {d : Addr} {kv : List (Key × V)} (hF : w.F d = some (.dK kv)) : (∃ od, Locked K w H σ Γ d kv od w H ∧ Γ.lk = true) ∨ (H d = some (.dK kv) ∧ ∀ od, ∃ w', Locked K w H σ Γ d kv od w' (upd H d (.frz od (.dK kv)))) := by
  by_cases m : d ∈ w.lks
  · refine .inl ?_
    have hl : Γ.lk = true := by
      cases e : Γ.lk with
      | true => rfl
      | false =>
        have m' : d ∈ w.lks.l := m
        rw [S.lkd e] at m'
        cases m'
    have eΓ : ({ Γ with lk := true } : Gam) = Γ := by cases Γ; cases hl; rfl
    refine ⟨w.lks.ob d, ⟨hF, by rw [eΓ]; exact S, m, rfl, rfl, fun _ _ => rfl, fun w2 H2 σ2 Γ2 S2 g2 => ?_⟩, hl⟩
    have m2 : d ∈ w2.lks := by rw [g2.lks]; exact m
    have h2 := (S2.sub.lk0 d _ (g2.le _ _ hF) m2).2
    rw [g2.lks] at h2
    refine ⟨h2, w2, H2, .inl ⟨rfl, rfl⟩, ⟨S2.sub, fun e => ?_, S2.nd, S2.len, S2.cells, S2.alive, S2.slen, S2.slots⟩, g2, rfl, rfl⟩
    have e' : Γ.lk = false := e
    rw [hl] at e'
    cases e'
  · refine .inr ⟨S.sub.ex d _ hF m, fun od => ?_⟩
    have hd : H d = some (.dK kv) := S.sub.ex d _ hF m
    have hnm : ∀ {a : Addr}, a ∈ w.lks → a ≠ d := fun {a} h e => m (e ▸ h)
    have cellk : ∀ {w1 w2 : Wd} {H1 H2 : Hp} {a : Addr} {c : Cell}, w1.F d = some (.dK kv) → w2.F = w1.F → w2.as = w1.as → (∀ a, a ≠ d → H2 a = H1 a) → CellOk K w1 H1 a c → CellOk K w2 H2 a c := fun {w1 w2 H1 H2 a c} e0 e1 e2 e3 h => by
      by_cases c0 : a = d
      · subst c0
        cases c with
        | fz x => show Fz K w2.F _ x; rw [e1]; exact h
        | no => trivial
        | L xs => have := h.1; rw [e0] at this; cases this
        | M xs => have := h.1; rw [e0] at this; cases this
        | T xs => have := h.1; rw [e0] at this; cases this
        | O C xs => have := h.1; rw [e0] at this; cases this
      · exact h.keep (by rw [e1]; exact fun _ _ z => z) ⟨[], by rw [e2, List.append_nil]⟩ (by rw [e1]; exact fun z => z) (e3 a c0)
    have vrk : ∀ {w1 w2 : Wd} {v : V} {x : Val}, w2.F = w1.F → w2.as = w1.as → VR K w1 v x → VR K w2 v x := fun {w1 w2 v x} e1 e2 h => by
      cases x with
      | d x => show Fz K w2.F v x; rw [e1]; exact h
      | own n => obtain ⟨a, e, r⟩ := h; exact ⟨a, by rw [e2]; exact e, r⟩
    refine ⟨{ w with lks := ⟨d :: w.lks.l, fun a => if a = d then od else w.lks.ob a⟩ }, hF, ?_, List.mem_cons_self, if_pos rfl, rfl, fun a ha => upd_ne ha, fun w2 H2 σ2 Γ2 S2 g2 => ?_⟩
    · refine ⟨⟨fun a o h h2 => ?_, fun a o h h2 => ?_, fun a h => ?_, S.sub.nf⟩, (fun e => Bool.noConfusion e), S.nd, S.len, fun n c a h1 h2 => cellk (w1 := w) (H1 := H) hF rfl rfl (fun a h => upd_ne h) (S.cells n c a h1 h2), fun a h z => ?_, S.slen, fun i x h => ?_⟩
      · have h2' : a ∉ (d :: w.lks.l) := h2
        rw [List.mem_cons, not_or] at h2'
        rw [upd_ne h2'.1]
        exact S.sub.ex a o h h2'.2
      · by_cases c : a = d
        · subst c
          have h' : w.F a = some o := h
          rw [hF] at h'
          cases h'
          exact ⟨trivial, by rw [upd_same]; show some (HO.frz od (.dK kv)) = some (HO.frz (if a = a then od else _) _); rw [if_pos rfl]⟩
        · rcases List.mem_cons.mp (show a ∈ d :: w.lks.l from h2) with e | e
          · exact absurd e c
          · have z := S.sub.lk0 a o h e
            refine ⟨z.1, ?_⟩
            rw [upd_ne c, z.2]
            show some (HO.frz (w.lks.ob a) o) = some (HO.frz (if a = d then od else w.lks.ob a) o)
            rw [if_neg c]
      · rcases List.mem_cons.mp (show a ∈ d :: w.lks.l from h) with e | e
        · intro z
          have z' : w.F a = none := z
          rw [e, hF] at z'
          cases z'
        · exact S.sub.al a e
      · by_cases c : a = d
        · rw [c, upd_same] at z; cases z
        · rw [upd_ne c] at z
          exact S.alive a h z
      · obtain ⟨v, e1, r⟩ := S.slots i x h
        exact ⟨v, e1, vrk rfl rfl r⟩
    · have m2 : d ∈ w2.lks := by rw [g2.lks]; exact List.mem_cons_self
      have hF2 : w2.F d = some (.dK kv) := g2.le _ _ hF
      have h2 : H2 d = some (.frz od (.dK kv)) := by
        have := (S2.sub.lk0 d _ hF2 m2).2
        rw [g2.lks] at this
        rw [this]
        show some (HO.frz (if d = d then od else _) _) = _
        rw [if_pos rfl]
      refine ⟨h2, { w2 with lks := w.lks }, _, .inr ⟨rfl, hd, rfl⟩, ?_, ?_, rfl, rfl⟩
      · refine ⟨⟨fun a o h h3 => ?_, fun a o h h3 => ?_, fun a h => ?_, S2.sub.nf⟩, S.lkd, S2.nd, S2.len, fun n c a h1 h3 => cellk (w1 := w2) hF2 rfl rfl (fun a h => upd_ne h) (S2.cells n c a h1 h3), fun a h z => ?_, S2.slen, fun i x h => ?_⟩
        · by_cases c : a = d
          · subst c
            have h' : w2.F a = some o := h
            rw [hF2] at h'
            rw [upd_same]
            exact h'
          · rw [upd_ne c]
            refine S2.sub.ex a o h fun z => ?_
            rw [g2.lks] at z
            rcases List.mem_cons.mp (show a ∈ d :: w.lks.l from z) with e | e
            · exact c e
            · exact h3 e
        · have c : a ≠ d := hnm h3
          rw [upd_ne c]
          have m3 : a ∈ w2.lks := by rw [g2.lks]; exact List.mem_cons_of_mem _ h3
          have z := S2.sub.lk0 a o h m3
          refine ⟨z.1, ?_⟩
          rw [z.2, g2.lks]
          show some (HO.frz (if a = d then od else w.lks.ob a) o) = _
          rw [if_neg c]
        · exact fun z => S.sub.al a h (by
            cases e : w.F a with
            | none => rfl
            | some o => have := g2.le a o e; rw [this] at z; cases z)
        · by_cases c : a = d
          · rw [c, upd_same] at z; cases z
          · rw [upd_ne c] at z
            exact S2.alive a h z
        · obtain ⟨v, e1, r⟩ := S2.slots i x h
          exact ⟨v, e1, vrk (w1 := w2) rfl rfl r⟩
      · refine ⟨g2.le, g2.as, rfl, fun a u h h3 => ?_, fun a h => ?_, fun a h => ?_⟩
        · by_cases c : a = d
          · rw [c, upd_same]
            rw [c, hd] at h
            exact h
          · rw [upd_ne c]
            exact g2.fr a u (by rw [upd_ne c]; exact h) h3
        · rcases g2.nw a h with z | z
          · exact .inl z
          · by_cases c : a = d
            · rw [c, upd_same] at z; cases z
            · rw [upd_ne c] at z
              exact .inr z
        · rcases g2.nf a h with z | z | z | ⟨xs, z⟩
          · exact .inl z
          · exact .inr (.inl z)
          · by_cases c : a = d
            · rw [c, upd_same] at z; cases z
            · rw [upd_ne c] at z
              exact .inr (.inr (.inl z))
          · by_cases c : a = d
            · rw [c, upd_same] at z; cases z
            · rw [upd_ne c] at z
              exact .inr (.inr (.inr ⟨xs, z⟩))
end
end L3

namespace L3
open PySem L2 PyProof.Rows

/-! ### a place that holds a frozen dict: a name, an attribute of a name -/
structure PathE (X : Cx) (e : Expr) (rd : Gam → D → Prop) : Prop where
  ex : ∃ te, PE X e te ∧ ∀ w H σ Γ xs, Sta X.K w H σ Γ → rd Γ (.dct xs) → ∃ d kv, w.F d = some (.dK kv) ∧ kv.map (·.1) = xs.map (·.1) ∧ FzL X.K w.F (kv.map (·.2)) (xs.map (·.2)) ∧ ∀ H2 Q, (∀ a, a ≠ d → H2 a = H a) → Q (.ref d) H2 → te σ H2 Q
def rdVar (i : Nat) : Gam → D → Prop := fun Γ x => ∃ v, Γ.sl[i]? = some (some v) ∧ Γ.fzv v = some x
def rdFld (K : PySem.W.Frag) (i : Nat) (f : Str) : Gam → D → Prop := fun Γ x => ∃ v C fs q, Γ.sl[i]? = some (some v) ∧ Γ.shp v = .O C fs ∧ Cls K C ∧ NoAttr K C f ∧ fs.lookup f = some q ∧ Γ.fzv q = some x
section
variable {K : PySem.W.Frag} {X : Cx} {W : WX} {pos pos' : Pos} {e : Expr}
theorem Fz.dct_at {F : Hp} {v : V} {xs : List (Key × D)} (h : Fz K F v (.dct xs)) : ∃ d kv, v = .ref d ∧ F d = some (.dK kv) ∧ kv.map (·.1) = xs.map (·.1) ∧ FzL K F (kv.map (·.2)) (xs.map (·.2)) := by
  cases h with
  | dct a b c => exact ⟨_, _, rfl, a, b, c⟩
theorem p_var (i : Nat) {x : Str} (hN : X.N[i]? = some x := by rfl) (hv : Vis X.env.scope x := by first | exact Or.inl rfl | exact Or.inr (Or.inl rfl) | exact Or.inr (Or.inr rfl)) (hd : (x == ("__debug__" : Str)) = false := by decide) (hcd : (x == ("__classdict__" : Str)) = false := by decide) : PathE X (.Name x pos) (rdVar i) :=
  ⟨_, pe_var hN hv hd hcd, fun w H σ Γ xs S h => by
    obtain ⟨y, e1, e2⟩ := h
    obtain ⟨v, e3, r⟩ := S.slots i _ e1
    obtain ⟨d, kv, rfl, a, b, c⟩ := (S.fzv r e2).dct_at
    exact ⟨d, kv, a, b, c, fun H2 Q _ q => ⟨_, e3, q⟩⟩⟩
theorem p_fld (i : Nat) {x f : Str} (hN : X.N[i]? = some x := by rfl) (hv : Vis X.env.scope x := by first | exact Or.inl rfl | exact Or.inr (Or.inl rfl) | exact Or.inr (Or.inr rfl)) (hd : (x == ("__debug__" : Str)) = false := by decide) (hcd : (x == ("__classdict__" : Str)) = false := by decide)
    (hb : attributeBase (.Name x pos) f X.env (eval (.Name x pos) X.env) = eval (.Name x pos) X.env := by rfl) : PathE X (.Attribute (.Name x pos) f pos') (rdFld X.K i f) :=
  ⟨_, pe_fld (pe_var hN hv hd hcd) hb, fun w H σ Γ xs S h => by
    obtain ⟨y, C, fs, q, e1, e2, cl, na, l, e5⟩ := h
    obtain ⟨v, e3, r⟩ := S.slots i _ e1
    obtain ⟨a, dx, fv, rfl, ea, en, p⟩ := S.shpO r e2
    obtain ⟨u, lu, rq⟩ := lookup_vr en p l
    obtain ⟨d, kv, rfl, h1, h2, h3⟩ := (S.fzv rq e5).dct_at
    refine ⟨d, kv, h1, h2, h3, fun H2 Q he hq => ⟨_, e3, a, C, dx, fv, _, rfl, ?_, cl, na, lu, hq⟩⟩
    have : a ≠ d := fun z => by
      subst z
      by_cases m : a ∈ w.lks
      · have := (S.sub.lk0 a _ h1 m).2
        rw [this] at ea
        cases ea
      · have := S.sub.ex a _ h1 m
        rw [this] at ea
        cases ea
    rw [he a this]
    exact ea⟩
end
/-! ### what is walked of it -/
structure PL3 (X : Cx) (tg iter : Expr) (rd : Gam → D → Prop) (item : List (Key × D) → Nat → Val) : Prop where
  ex : ∃ wi, ∃ J : Addr → Obj → List (Key × V) → It, PI X tg iter wi ∧ ∀ w H σ Γ xs, Sta X.K w H σ Γ → rd Γ (.dct xs) → ∃ d kv, w.F d = some (.dK kv) ∧
    (∀ od H2 R, (∀ a, a ≠ d → H2 a = H a) → H2 d = some (.frz od (.dK kv)) → R (J d od kv) H2 → wi σ H2 R) ∧
    ∀ w' H' od, Locked X.K w H σ Γ d kv od w' H' → ItOk X.K (J d od kv) xs.length (item xs) (fun _ => True) w' H'
def itKeys (xs : List (Key × D)) (i : Nat) : Val := .d (kD (xs.getD i (.inl 0, .non)).1)
def itItems (xs : List (Key × D)) (i : Nat) : Val := .d (.tup [kD (xs.getD i (.inl 0, .non)).1, (xs.getD i (.inl 0, .non)).2])
section
variable {K : PySem.W.Frag} {X : Cx} {W : WX} {pos apos cpos tpos : Pos} {e tg : Expr} {elts : List Expr} {kk : Nat} {rd : Gam → D → Prop}
theorem kv_at {F : Hp} : ∀ {kv : List (Key × V)} {xs : List (Key × D)}, kv.map (·.1) = xs.map (·.1) → FzL K F (kv.map (·.2)) (xs.map (·.2)) → ∀ {i : Nat} {k : Key} {v : V}, kv[i]? = some (k, v) → (xs.getD i (.inl 0, .non)).1 = k ∧ Fz K F v (xs.getD i (.inl 0, .non)).2
  | [], _, _, _, _, _, _, h => by simp at h
  | _ :: _, [], e, _, _, _, _, _ => by cases e
  | (a, u) :: kv, (b, y) :: xs, e, l, i, k, v, h => by
    simp only [List.map_cons] at e l
    injection e with e1 e2
    cases l with
    | cons r l =>
      cases i with
      | zero =>
        simp at h
        obtain ⟨rfl, rfl⟩ := h
        exact ⟨by simpa using e1.symm, by simpa using r⟩
      | succ i =>
        have := kv_at e2 l (i := i) (k := k) (v := v) (by simpa using h)
        simpa using this
theorem kD_vr {F : Hp} (k : Key) : Fz K F (kV k) (kD k) := by
  cases k with
  | inl i => exact Fz.int i
  | inr s => exact Fz.str s
theorem map_len {α β γ : Type} {f : α → γ} {g : β → γ} {l : List α} {m : List β} (h : l.map f = m.map g) : l.length = m.length := by
  simpa using congrArg List.length h
theorem l_keys (p : PathE X e rd) : PL3 X tg e rd itKeys := by
  obtain ⟨te, pe, hp⟩ := p.ex
  refine ⟨_, fun d o kv => Itk d o kv, pi_keys pe, fun w H σ Γ xs S h => ?_⟩
  obtain ⟨d, kv, hF, ek, l, go⟩ := hp w H σ Γ xs S h
  refine ⟨d, kv, hF, fun od H2 R e1 e2 hR => go H2 _ e1 ⟨d, od, rfl, .inl ⟨kv, e2, hR⟩⟩, fun w' H' od L i w2 H2 σ2 Γ2 hi S2 g2 _ => ?_⟩
  obtain ⟨h2, _⟩ := L.back w2 H2 σ2 Γ2 S2 g2
  refine ⟨fun hn => ⟨h2, by rw [map_len ek, hn]; exact Nat.le_refl _⟩, fun hn => ⟨⟨h2, by rw [map_len ek]; exact hn⟩, fun v H3 hy => ?_⟩⟩
  obtain ⟨rfl, k, u, hk, rfl⟩ := hy
  refine ⟨w2, S2, ?_, Grow.refl _ _⟩
  rw [itKeys, (kv_at ek l hk).1]
  exact kD_vr k
theorem l_items (p : PathE X e rd) (hbase : attributeBase e "items" X.env (eval e X.env) = eval e X.env := by rfl) (hline : (apos.endLine == cpos.line) = true := by rfl) : PL3 X (.Tuple elts kk tpos) (.Call (.Attribute e "items" apos) [] [] cpos) rd itItems := by
  obtain ⟨te, pe, hp⟩ := p.ex
  refine ⟨_, fun d o kv => Iti d o kv, pi_items pe hbase hline, fun w H σ Γ xs S h => ?_⟩
  obtain ⟨d, kv, hF, ek, l, go⟩ := hp w H σ Γ xs S h
  refine ⟨d, kv, hF, fun od H2 R e1 e2 hR => go H2 _ e1 ⟨d, od, kv, rfl, e2, hR⟩, fun w' H' od L i w2 H2 σ2 Γ2 hi S2 g2 _ => ?_⟩
  obtain ⟨h2, _⟩ := L.back w2 H2 σ2 Γ2 S2 g2
  refine ⟨fun hn => ⟨h2, by rw [map_len ek, hn]; exact Nat.le_refl _⟩, fun hn => ⟨⟨h2, by rw [map_len ek]; exact hn⟩, fun v H3 hy => ?_⟩⟩
  obtain ⟨T, k, u, hk, rfl, hT, rfl⟩ := hy
  obtain ⟨S3, g3⟩ := S2.newF (o := .tup [kV k, u]) hT
  have z := kv_at ek l hk
  refine ⟨_, S3, ?_, g3⟩
  rw [itItems, z.1]
  exact Fz.tup upd_same (.cons (kD_vr k) (.cons ((z.2.le (by rw [← L.eF]; exact g2.le)).le g3.le) .nil))
end
/-! ### for over it -/
def Gam.lock (Γ : Gam) : Gam := { Γ with lk := true }
def Gam.unlk (Γ : Gam) (b : Bool) : Gam := { Γ with lk := b }
def En.unlk (N : En) (b : Bool) : En := { nx := fun Γ1 => N.nx (Γ1.unlk b), rt := fun y Γ1 => N.rt y (Γ1.unlk b), bk := fun Γ1 => N.bk (Γ1.unlk b), ct := fun Γ1 => N.ct (Γ1.unlk b), ex := NoX }
def rForD (rd : Gam → D → Prop) (item : List (Key × D) → Nat → Val) (rg : RG) (rb : RS) : RS := fun N Γ => ∃ xs, rd Γ (.dct xs) ∧ ForW rg rb (N.unlk Γ.lk) xs.length (item xs) (fun _ => True) Γ.lock
section
variable {K : PySem.W.Frag} {X : Cx} {W : WX} {pos : Pos} {iter tg : Expr} {body : List Stmt} {rg : RG} {rb : RS} {rd : Gam → D → Prop} {item : List (Key × D) → Nat → Val}
theorem upd_frz {H : Hp} {d : Addr} {od : Obj} {u : HO} (h : H d = some u) (e : H = upd H d (.frz od u)) : False := by
  have : some u = some (HO.frz od u) := by rw [← h, e, upd_same]
  have := Option.some.inj this
  have z := congrArg sizeOf this
  simp at z
theorem s_forD (c : GoodS X W) (hi : PL3 X tg iter rd item) (hg : PG3 X W tg rg) (hb : PSs3 X W body rb) (hs : ∀ x, foldedSetIterable iter X.env x = pure x := by intro _; rfl) : PS3 X W (.For tg iter body [] pos) (rForD rd item rg rb) := by
  obtain ⟨wi, J, pi, hp⟩ := hi.ex
  obtain ⟨g, pg, sg⟩ := hg.ex
  obtain ⟨tb, pb, sb⟩ := hb.ex
  have p1 := ps_for (pos := pos) c.ps c.calm pi pg pb hs
  have p2 := ps_lock p1
  refine ⟨fun D σ H => tFor wi g tb D σ H ∨ tLock (tFor wi g tb) D σ H, ⟨fun pins s σ H D I h => h.elim (fun h => p1.run pins s σ H D I h) fun h => p2.run pins s σ H D I h⟩, ⟨fun w H σ Γ D N S h b => ?_⟩⟩
  obtain ⟨xs, hr, h⟩ := h
  obtain ⟨d, kv, hF, go, it⟩ := hp w H σ Γ xs S hr
  rcases S.lockd hF with ⟨od, L, hl⟩ | ⟨hd, hL⟩
  · refine .inl (go od H _ (fun _ _ => rfl) (L.back w H σ _ L.sta (Grow.refl _ _)).1 ?_)
    refine for_core sg sb L.sta (it w H od L) h ⟨fun w2 H2 σ2 Γ2 a S2 g2 => ?_, fun v w2 H2 σ2 y Γ2 a S2 r2 g2 => ?_, fun w2 H2 σ2 Γ2 a S2 g2 => ?_, fun w2 H2 σ2 Γ2 a S2 g2 => ?_, fun σ' => brx_nox⟩
    all_goals
      obtain ⟨_, w3, H3, alt, S3, g3, f3, a3⟩ := L.back w2 H2 σ2 Γ2 S2 g2
      have : H3 = H2 := by
        rcases alt with z | ⟨_, z1, z2⟩
        · exact z.1
        · exact (upd_frz z1 z2).elim
      subst this
    · exact b.nx w3 H3 σ2 _ a S3 g3
    · exact b.rt v w3 H3 σ2 y _ a S3 (by cases y with | d y => show Fz _ w3.F v y; rw [f3]; exact r2 | own n => obtain ⟨q, e, r⟩ := r2; exact ⟨q, by rw [a3]; exact e, r⟩) g3
    · exact b.bk w3 H3 σ2 _ a S3 g3
    · exact b.ct w3 H3 σ2 _ a S3 g3
  · refine .inr ⟨d, _, hd, trivial, fun od => ?_⟩
    obtain ⟨w', L⟩ := hL od
    refine go od _ _ (fun a ha => upd_ne ha) upd_same ?_
    refine for_core sg sb L.sta (it w' _ od L) h ⟨fun w2 H2 σ2 Γ2 a S2 g2 => ?_, fun v w2 H2 σ2 y Γ2 a S2 r2 g2 => ?_, fun w2 H2 σ2 Γ2 a S2 g2 => ?_, fun w2 H2 σ2 Γ2 a S2 g2 => ?_, fun σ' => brx_nox⟩
    all_goals
      obtain ⟨hz, w3, H3, alt, S3, g3, f3, a3⟩ := L.back w2 H2 σ2 Γ2 S2 g2
      have : H3 = upd H2 d (.dK kv) := by
        rcases alt with z | z
        · exact (upd_frz hd z.2.symm).elim
        · exact z.1
      subst this
    · exact ⟨hz, b.nx w3 _ σ2 _ a S3 g3⟩
    · exact ⟨hz, b.rt v w3 _ σ2 y _ a S3 (by cases y with | d y => show Fz _ w3.F v y; rw [f3]; exact r2 | own n => obtain ⟨q, e, r⟩ := r2; exact ⟨q, by rw [a3]; exact e, r⟩) g3⟩
    · exact ⟨hz, b.bk w3 _ σ2 _ a S3 g3⟩
    · exact ⟨hz, b.ct w3 _ σ2 _ a S3 g3⟩
/-- an expression that walks it -/
theorem lockE_go {te : TE} {w : Wd} {H : Hp} {σ : L2.St} {Γ : Gam} {Q : VK} {k : KE3} {d : Addr} {kv : List (Key × V)} (S : Sta K w H σ Γ) (hF : w.F d = some (.dK kv)) (hk : ∀ v w' H' y Γ', k y Γ' → Sta K w' H' σ Γ' → VR K w' v y → Grow w H w' H' → Q v H')
    (h : ∀ od w' H' Q', Locked K w H σ Γ d kv od w' H' → H' d = some (.frz od (.dK kv)) → (∀ v w2 H2 y Γ2, k y (Γ2.unlk Γ.lk) → Sta K w2 H2 σ Γ2 → VR K w2 v y → Grow w' H' w2 H2 → Q' v H2) → te σ H' Q') : te σ H Q ∨ tLockE te σ H Q := by
  rcases S.lockd hF with ⟨od, L, hl⟩ | ⟨hd, hL⟩
  · refine .inl (h od w H Q L (L.back w H σ _ L.sta (Grow.refl _ _)).1 fun v w2 H2 y Γ2 a S2 r2 g2 => ?_)
    obtain ⟨_, w3, H3, alt, S3, g3, f3, a3⟩ := L.back w2 H2 σ Γ2 S2 g2
    have : H3 = H2 := by
      rcases alt with z | ⟨_, z1, z2⟩
      · exact z.1
      · exact (upd_frz z1 z2).elim
    subst this
    exact hk v w3 H3 y _ a S3 (by cases y with | d y => show Fz _ w3.F v y; rw [f3]; exact r2 | own n => obtain ⟨q, e, r⟩ := r2; exact ⟨q, by rw [a3]; exact e, r⟩) g3
  · refine .inr ⟨d, _, hd, trivial, fun od => ?_⟩
    obtain ⟨w', L⟩ := hL od
    refine h od w' _ _ L upd_same fun v w2 H2 y Γ2 a S2 r2 g2 => ?_
    obtain ⟨hz, w3, H3, alt, S3, g3, f3, a3⟩ := L.back w2 H2 σ Γ2 S2 g2
    have : H3 = upd H2 d (.dK kv) := by
      rcases alt with z | z
      · exact (upd_frz hd z.2.symm).elim
      · exact z.1
    subst this
    exact ⟨hz, hk v w3 _ y _ a S3 (by cases y with | d y => show Fz _ w3.F v y; rw [f3]; exact r2 | own n => obtain ⟨q, e, r⟩ := r2; exact ⟨q, by rw [a3]; exact e, r⟩) g3⟩
theorem pe_lockE {e : Expr} {t : TE} (h : PE X e t) : PE X e (fun σ H Q => t σ H Q ∨ tLockE t σ H Q) := ⟨fun pins s σ H Q I q => q.elim (fun q => h.run pins s σ H Q I q) fun q => (pe_lock h).run pins s σ H Q I q⟩
end
/-! ### comprehensions: rules -/
section
variable {X : Cx} {W : WX} {elt tg iter tg1 iter1 : Expr} {ifs ifs1 : List Expr} {scope : Scope} {own : List (Str × Nat)} {pos : Pos} {ri ri1 : RI} {g g1 : TG} {rg rg1 : RG} {rt rt1 : RT} {re : RE} {js js1 vs1 : List Nat} {rd : Gam → D → Prop} {item : List (Key × D) → Nat → Val}
theorem w_lc2 (o : Bool) (vs1 : List Nat) (c : Good X W) (hi : PI3 X W tg iter ri) (ok : BlkOk X.N X.env.scope scope own)
    (hg : ∀ (s : Shared) (H : Hp) (C : Addr) (cl : List (Str × Addr)) (fp : List Addr), PGc (X.blk s H scope (compEnvC scope cl C X.env) fp) tg g rg js) (ht : ∀ (s : Shared) (H : Hp) (C : Addr) (cl : List (Str × Addr)) (fp : List Addr), PTs3 (X.blk s H scope (compEnvC scope cl C X.env) fp) ifs rt)
    (hi1 : ∀ (s : Shared) (H : Hp) (C : Addr) (cl : List (Str × Addr)) (fp : List Addr), PI3 (X.blk s H scope (compEnvC scope cl C X.env) fp) WF tg1 iter1 ri1)
    (hg1 : ∀ (s : Shared) (H : Hp) (C : Addr) (cl : List (Str × Addr)) (fp : List Addr), PGc (X.blk s H scope (compEnvC scope cl C X.env) fp) tg1 g1 rg1 js1) (ht1 : ∀ (s : Shared) (H : Hp) (C : Addr) (cl : List (Str × Addr)) (fp : List Addr), PTs3 (X.blk s H scope (compEnvC scope cl C X.env) fp) ifs1 rt1)
    (he : ∀ (s : Shared) (H : Hp) (C : Addr) (cl : List (Str × Addr)) (fp : List Addr), PE3 (X.blk s H scope (compEnvC scope cl C X.env) fp) WF elt re) (hj : ∀ j, j ∈ js → j ∈ own.map (·.2) := by decide) (hv : ∀ i ∈ vs1, i ∈ own.map (·.2) := by decide) (hj1 : ∀ j, j ∈ js1 → j ∈ vs1 := by decide)
    (hs : ∀ x, foldedSetIterable iter X.env x = pure x := by intro _; rfl) (hs1 : ∀ env x, foldedSetIterable iter1 env x = pure x := by intro _ _; rfl) :
    PE3 X W (.ListComp elt [⟨tg, iter, ifs, 0⟩, ⟨tg1, iter1, ifs1, 0⟩] scope pos) (rLc2 o ri rg rt ri1 rg1 rt1 re (own.map (·.2)) vs1) := by
  obtain ⟨wi, pi, si⟩ := hi.ex
  exact ⟨_, pe_lc2 c.calm c.nd pi ok hv (fun s H C cl fp => (hg s H C cl fp).p) (fun s H C cl fp => (ht s H C cl fp).p) (fun s H C cl fp => (hi1 s H C cl fp).star) (fun s H C cl fp => (hg1 s H C cl fp).p) (fun s H C cl fp => (ht1 s H C cl fp).p) (fun s H C cl fp => (he s H C cl fp).star) hs hs1,
    lc2_sound si (hg X.s_0 X.H_0 0 [] []).s hj (hg1 X.s_0 X.H_0 0 [] []).s hj1⟩
def rLc2D (o : Bool) (rd : Gam → D → Prop) (item : List (Key × D) → Nat → Val) (rg : RG) (rt : RT) (ri1 : RI) (rg1 : RG) (rt1 : RT) (re : RE) (vs vs1 : List Nat) : RE := fun Γ k x => ∃ xs, rd Γ (.dct xs) ∧ Lc2W rg rt ri1 rg1 rt1 re vs vs1 xs.length (item xs) (fun _ => True) Γ.lock (putLc2 o Γ.st.length fun y Γ' => k y (Γ'.unlk Γ.lk))
theorem w_lc2D (o : Bool) (vs1 : List Nat) (c : Good X W) (hi : PL3 X tg iter rd item) (ok : BlkOk X.N X.env.scope scope own)
    (hg : ∀ (s : Shared) (H : Hp) (C : Addr) (cl : List (Str × Addr)) (fp : List Addr), PGc (X.blk s H scope (compEnvC scope cl C X.env) fp) tg g rg js) (ht : ∀ (s : Shared) (H : Hp) (C : Addr) (cl : List (Str × Addr)) (fp : List Addr), PTs3 (X.blk s H scope (compEnvC scope cl C X.env) fp) ifs rt)
    (hi1 : ∀ (s : Shared) (H : Hp) (C : Addr) (cl : List (Str × Addr)) (fp : List Addr), PI3 (X.blk s H scope (compEnvC scope cl C X.env) fp) WF tg1 iter1 ri1)
    (hg1 : ∀ (s : Shared) (H : Hp) (C : Addr) (cl : List (Str × Addr)) (fp : List Addr), PGc (X.blk s H scope (compEnvC scope cl C X.env) fp) tg1 g1 rg1 js1) (ht1 : ∀ (s : Shared) (H : Hp) (C : Addr) (cl : List (Str × Addr)) (fp : List Addr), PTs3 (X.blk s H scope (compEnvC scope cl C X.env) fp) ifs1 rt1)
    (he : ∀ (s : Shared) (H : Hp) (C : Addr) (cl : List (Str × Addr)) (fp : List Addr), PE3 (X.blk s H scope (compEnvC scope cl C X.env) fp) WF elt re) (hj : ∀ j, j ∈ js → j ∈ own.map (·.2) := by decide) (hv : ∀ i ∈ vs1, i ∈ own.map (·.2) := by decide) (hj1 : ∀ j, j ∈ js1 → j ∈ vs1 := by decide)
    (hs : ∀ x, foldedSetIterable iter X.env x = pure x := by intro _; rfl) (hs1 : ∀ env x, foldedSetIterable iter1 env x = pure x := by intro _ _; rfl) :
    PE3 X W (.ListComp elt [⟨tg, iter, ifs, 0⟩, ⟨tg1, iter1, ifs1, 0⟩] scope pos) (rLc2D o rd item rg rt ri1 rg1 rt1 re (own.map (·.2)) vs1) := by
  obtain ⟨wi, J, pi, hp⟩ := hi.ex
  refine ⟨_, pe_lockE (pe_lc2 (tt := starT X.K WF rt) (wi1 := starI X.K WF ri1) (tt1 := starT X.K WF rt1) (te := starE X.K WF re) c.calm c.nd pi ok hv (fun s H C cl fp => (hg s H C cl fp).p) (fun s H C cl fp => (ht s H C cl fp).p) (fun s H C cl fp => (hi1 s H C cl fp).star) (fun s H C cl fp => (hg1 s H C cl fp).p) (fun s H C cl fp => (ht1 s H C cl fp).p) (fun s H C cl fp => (he s H C cl fp).star) hs hs1), ⟨fun w H σ Γ Q k x S h hk hx => ?_⟩⟩
  obtain ⟨xs, hr, h⟩ := h
  obtain ⟨d, kv, hF, go, it⟩ := hp w H σ Γ xs S hr
  refine lockE_go S hF hk fun od w' H' Q' L e hk' => go od H' _ L.eq e ?_
  exact lc2_core (hg X.s_0 X.H_0 0 [] []).s hj (hg1 X.s_0 X.H_0 0 [] []).s hj1 L.sta (it w' H' od L) h hk'
end
end L3

namespace L3
open PySem L2 PyProof.Rows

/-! ### handles on what may be called -/
structure Hand (P : Program) (w : World) (K : PySem.W.Frag) (mg : Str → Option Value) (base : Heap) (k : Nat) (f : Addr) (sp : VSp) (dys : List D) : Prop where
  ex : ∃ fd ps ds dvs, FnOk P w K mg base (L2.CX P w) k f fd ps (spOf K sp) ∧ Binds K fd ps ds ∧ Vals dvs ds ∧ ∀ F, FzL K F dvs dys
structure Cal3 (P : Program) (w : World) (K : PySem.W.Frag) (mg : Str → Option Value) (base : Heap) (k : Nat) (x : Str) (sp : VSp) (dys : List D) : Prop where
  ex : ∃ f, mg x = some (.ref f) ∧ PySem.W.keepIn K (.ref f) = true ∧ Hand P w K mg base k f sp dys
structure Met3 (P : Program) (w : World) (K : PySem.W.Frag) (mg : Str → Option Value) (base : Heap) (k : Nat) (C : Addr) (m : Str) (sp : VSp) (dys : List D) : Prop where
  ex : ∃ f, Cls K C ∧ Meth K C m f ∧ Hand P w K mg base k f sp dys
structure Mak3 (P : Program) (w : World) (K : PySem.W.Frag) (mg : Str → Option Value) (base : Heap) (k : Nat) (x : Str) (C : Addr) (sp : VSp) (dys : List D) : Prop where
  ex : ∃ f, Mk K C f ∧ mg x = some (.ref C) ∧ Hand P w K mg base k f sp dys
structure Spc3 (P : Program) (w : World) (K : PySem.W.Frag) (mg : Str → Option Value) (base : Heap) (k : Nat) (C : Addr) (m : Str) (sp : VSp) : Prop where
  ex : ∃ f fd ps, PySem.W.findIn K (.ref C) m = some (some (.ref f)) ∧ PySem.W.isFn K (.ref f) = true ∧ FnOk P w K mg base (L2.CX P w) k f fd ps (spOf K sp) ∧ Binds K fd ps []
section
variable {X : Cx} {W : WX} {k j : Nat} {C : Addr} {sp : VSp} {dys : List D} {x m : Str} {p pos apos : Pos} {e o : Expr} {es : List Expr} {ra : RA} {ro : RE}
theorem w_c (c : Good X W) (h : Cal3 X.prog X.w X.K X.mg X.base k x sp dys) (hr : Room j X.A) (hk : k ≤ j) (hg : Gl X x) (ha : PA3 X W (e :: es) ra)
    (hdb : (x == ("__debug__" : Str)) = false := by decide) (hA : Args1 X pos e es := by exact ⟨rfl, rfl⟩) :
    PE3 X W (.Call (.Name x p) (e :: es) [] pos) (rCall sp dys ra) := by
  obtain ⟨f, hm, kp, fd, ps, ds, dvs, F, hb, hd, hdd⟩ := h.ex
  exact w_call c F (hr.mono hk) hg hm kp hb hd hdd ha hdb hA
theorem w_m {pl : Sem Bool} (c : Good X W) (h : Met3 X.prog X.w X.K X.mg X.base k C m sp dys) (hr : Room j X.A) (hk : k ≤ j) (ho : PE3 X W o ro) (ha : PA3 X W (e :: es) ra)
    (hA : Args1 X pos e es := by exact ⟨rfl, rfl⟩)
    (ht : MethEv X pl o m apos pos (e :: es) := by exact ⟨rfl⟩) :
    PE3 X W (.Call (.Attribute o m apos) (e :: es) [] pos) (rMeth C m sp dys ro ra) := by
  obtain ⟨f, cl, hm, fd, ps, ds, dvs, F, hb, hd, hdd⟩ := h.ex
  exact w_meth (pl := pl) c ho cl hm F (hr.mono hk) hb hd hdd ha hA ht
theorem w_m0 {pl : Sem Bool} (c : Good X W) (h : Met3 X.prog X.w X.K X.mg X.base k C m sp dys) (hr : Room j X.A) (hk : k ≤ j) (ho : PE3 X W o ro)
    (ht : MethEv X pl o m apos pos [] := by exact ⟨rfl⟩) :
    PE3 X W (.Call (.Attribute o m apos) [] [] pos) (rMeth C m sp dys ro raNil) := by
  obtain ⟨f, cl, hm, fd, ps, ds, dvs, F, hb, hd, hdd⟩ := h.ex
  exact w_meth0 (pl := pl) c ho cl hm F (hr.mono hk) hb hd hdd ht
theorem w_mk (c : Good X W) (h : Mak3 X.prog X.w X.K X.mg X.base k x C sp dys) (hr : Room j X.A) (hk : k + 1 ≤ j) (hg : Gl X x) (ha : PA3 X W (e :: es) ra)
    (hdb : (x == ("__debug__" : Str)) = false := by decide) (hA : Args1 X pos e es := by exact ⟨rfl, rfl⟩) :
    PE3 X W (.Call (.Name x p) (e :: es) [] pos) (rMake C sp dys ra) := by
  obtain ⟨f, M, hm, fd, ps, ds, dvs, F, hb, hd, hdd⟩ := h.ex
  exact w_make c M F (hr.mono hk) hg hm hb hd hdd ha hdb hA
/-- len(o), o of a class with its own __len__ -/
def rLenO (C : Addr) (sp : VSp) : List Val → Gam → KE3 → Prop := fun ys Γ k => ∃ y fs, ys = [y] ∧ Γ.shp y = .O C fs ∧ CallW sp [y] Γ (fun v Γ2 => ∃ n : Int, v = .d (.int n) ∧ (0 ≤ n ∧ n < 2 ^ 63) ∧ k (.d (.int n)) Γ2) NoX
theorem c_lenO (h : Spc3 X.prog X.w X.K X.mg X.base k C "__len__" sp) (hr : Room j X.A) (hk : k + 1 ≤ j) : Call3 X (.builtin "len") (rLenO C sp) := by
  obtain ⟨f, fd, ps, hs, hf, F, hb⟩ := h.ex
  have hr := hr.mono hk
  refine ⟨fun vs H Q => ∃ a dx fs, vs = [.ref a] ∧ H a = some (.ins C dx fs) ∧ spOf X.K sp [.ref a] H (fun v H' => ∃ n, v = .int n ∧ (0 ≤ n ∧ n < 2 ^ 63) ∧ Q (.int n) H') (fun _ _ _ => False), fun pins s σ H vs us Q I r h => ?_, ⟨fun w H σ Γ Q k us ys S r h hk => ?_⟩⟩
  · obtain ⟨a, dx, fs, rfl, ha, hsp⟩ := h
    rw [Vals.ref1 r]
    have ⟨_, J, _⟩ := ins_get I.hok ha
    obtain ⟨od, J, _⟩ := J.look
    obtain ⟨m, hF⟩ := I.fr
    refine PySem.W.len_K hF I.ok.mod.kin J hs hf ?_
    have e0 : Env0 X.prog X.w X.K X.mg X.base X.A.in1 X.stack s H := by
      have e := I.env0
      exact ⟨e.frames, e.mod, e.bs, e.bsz, e.funs, e.frf, e.hok, e.bare⟩
    have hl := F.len _ _ _ _ hsp
    refine wpAny_call (codeAny_mono (F.run X.A.in1 X.stack s H ⟨[.ref a], []⟩ [.ref a] [.ref a] _ _ hr.in1 e0 (by
      have := hb s [.ref a] I.kIn (by simpa using hl)
      simpa using this) (.cons rfl .nil) hsp) fun r s' hq => ?_)
    cases r with
    | error e => exact noPass pins σ H s e s' I hq
    | ok fl =>
      cases fl with
      | ret u =>
        obtain ⟨z, H', I', rz, n, ez, hn, q⟩ := I.after hq
        subst ez
        obtain ⟨t, rfl⟩ := rz
        exact ⟨hn, ⟨.int n, H', I'.tok _, ⟨_, rfl⟩, q⟩⟩
      | next => exact False.elim hq
      | brk => exact False.elim hq
      | cont => exact False.elim hq
  · obtain ⟨y, fs, rfl, e, h⟩ := h
    obtain ⟨u, rfl, r1⟩ := vals1' r
    obtain ⟨a, dx, fv, rfl, ea, _⟩ := S.shpO r1 e
    refine ⟨a, dx, fv, rfl, ea, ?_⟩
    have := callW_go (W := WF) (Q := fun v H' => ∃ n, v = .int n ∧ (0 ≤ n ∧ n < 2 ^ 63) ∧ Q (.int n) H') S (.cons r1 .nil) h (fun v w' H' y Γ' hy b c d => by
      obtain ⟨n, rfl, hn, hy⟩ := hy
      have := vr_int c
      subst this
      exact ⟨n, rfl, hn, hk _ w' H' _ Γ' hy b (Fz.int _) d⟩) brx_nox
    exact this
end

/-! ### a def with defaults keeps its promise -/
theorem lks_trans {w w' : Wd} (h : w'.lks = w.lks) (e : w.lks.l = []) : w'.lks.l = [] := by rw [h]; exact e
theorem fn3D {P : Program} {w : World} {K : PySem.W.Frag} {mg : Str → Option Value} {base : Heap} {x qual : Str} {st : Stmt} {f : Addr} {fd : FuncData} {N ps : List Str} {k : Nat} {sp : VSp} {dvs : List V} {kws : List (Str × V)} (F : FunD K x qual (defArgs st) (defBody st) (defScope st) dvs kws f fd) (S : FnScope N ps (defScope st))
    (h : ∃ rs, (∀ (cdv : Value) (A : Around) (outer : List Env) (s : Shared) (H : Hp) (E : XK), Room k (A.deeper (envOfC qual (defScope st) s.heap.objs.size f cdv)) → PSs3 (cxOf (L2.CX P w) P w K mg base N qual (defScope st) f cdv A outer s H E) (fun c d _ H => E c d H) (defBody st) rs) ∧
      ∀ lk ys cells k x, sp lk ys cells k x → ys.length = ps.length ∧ rs (endsOf cells.length k x) ⟨ys.map some ++ List.replicate (N.length - ys.length) none, cells, lk⟩) : FnOk P w K mg base (L2.CX P w) (k + 1) f fd ps (spOf K sp) := by
  obtain ⟨rs, hb, hv⟩ := h
  refine F.ok S (fun vs H Q E hs => ?_) fun cdv A outer s H vs Q E hr hs => ?_
  · obtain ⟨w0, ys, cells, lk, kk, x, S0, hs, _⟩ := hs
    have e := S0.slen
    simp only [List.length_map] at e
    rw [e]
    exact (hv lk ys cells kk x hs).1
  · obtain ⟨w0, ys, cells, lk, kk, x, S0, hs, hk, hx⟩ := hs
    obtain ⟨t, p, ss⟩ := (hb cdv A outer s H E hr).ex
    obtain ⟨_, hv⟩ := hv lk ys cells kk x hs
    have e : vs.length = ys.length := by
      have e := S0.slen
      rwa [List.length_map, List.length_map] at e
    have S1 : Sta K w0 H (start N vs) ⟨ys.map some ++ List.replicate (N.length - ys.length) none, cells, lk⟩ := by
      refine ⟨S0.sub, S0.lkd, S0.nd, S0.len, S0.cells, S0.alive, ?_, fun i y h => ?_⟩
      · show (vs.map some ++ List.replicate (N.length - vs.length) none).length = (ys.map some ++ List.replicate (N.length - ys.length) none).length
        rw [List.length_append, List.length_append, List.length_map, List.length_map, List.length_replicate, List.length_replicate, e]
      · have h' : (ys.map some ++ List.replicate (N.length - ys.length) none)[i]? = some (some y) := h
        by_cases hi : i < ys.length
        · rw [List.getElem?_append_left (by rw [List.length_map]; exact hi)] at h'
          obtain ⟨v, e1, r⟩ := S0.slots i y h'
          refine ⟨v, ?_, r⟩
          show (vs.map some ++ List.replicate (N.length - vs.length) none)[i]? = some (some v)
          rw [List.getElem?_append_left (by rw [List.length_map, e]; exact hi)]
          exact e1
        · rw [List.getElem?_append_right (by rw [List.length_map]; omega)] at h'
          have z := List.mem_of_getElem? h'
          exact absurd (List.eq_of_mem_replicate z) (fun z => by cases z)
    refine ⟨t, p, ss.go w0 H _ _ _ _ S1 hv ⟨fun w' H' σ' Γ' a b c => ?_, fun v w' H' σ' y Γ' a b r c => ?_, fun w' H' σ' Γ' a _ _ => a.elim, fun w' H' σ' Γ' a _ _ => a.elim, fun σ' => ⟨fun C fs Γ' w' H' c d a b r g => ?_⟩⟩⟩
    · exact ret_done S1 b (y := .d .non) (v := .non) Fz.non c a hk
    · exact ret_done S1 b r c a hk
    · obtain ⟨S2, g2⟩ := b.trimX g
      have el : w0.as.length = cells.length := S1.len
      rw [el] at S2 g2
      exact hx C fs _ _ H' c d a (S2.noSlots fun e => lks_trans g.lks (S1.lkd e)) r g2
/-- the law: a script of at most n ints, True -/
def spLaw : VSp := fun _ ys cells k _ => ∃ ns, ys = [.d (.scr ns)] ∧ cells = [] ∧ ns.length ≤ 100000 ∧ k (.d (.bl true)) []
end L3

namespace L3
open PySem L2 PyProof.Rows
def lawF (H : Hp) (a : Addr) : Hp := fun b => if b = a then match H a with
  | some (.lst xs) => some (.lst xs)
  | some (.frz o (.lst xs)) => some (.frz o (.lst xs))
  | _ => none else none
theorem lawF_le {H : Hp} {a : Addr} : ∀ b o, lawF H a b = some o → H b = some o ∧ ∀ ob u, o = .frz ob u → ¬ dictish u := fun b o h => by
  unfold lawF at h
  split at h
  · rename_i e
    subst e
    split at h
    · rename_i h2; cases h; exact ⟨h2, fun _ _ z => by cases z⟩
    · rename_i h2; cases h; exact ⟨h2, fun _ _ z => by cases z; exact fun z => z⟩
    · cases h
  · cases h
theorem law_sql {K : PySem.W.Frag} {H : Hp} {a : Addr} {xs : List V} (hq : SqL K H a xs) : SqL K (lawF H a) a xs := by
  obtain (h | ⟨o, h⟩) | h := hq
  · refine .inl (.inl ?_)
    unfold lawF
    rw [if_pos rfl, h]
  · refine .inl (.inr ⟨o, ?_⟩)
    unfold lawF
    rw [if_pos rfl, h]
  · exact .inr h
theorem law_sp {K : PySem.W.Frag} {H : Hp} {a : Addr} {ns : List Int} {n : Nat} (hl : ns.length ≤ n) (h : SqL K H a (ns.map V.int)) (hn : n ≤ 100000) : spOf K spLaw [.ref a] H (fun v _ => v = .bl true) fun _ _ _ => False := by
  refine ⟨⟨lawF H a, [], ⟨[], fun _ => ⟨.none, none, .fields #[], #[]⟩⟩⟩, [.d (.scr ns)], [], false, fun y _ => y = .d (.bl true), fun _ _ _ => False, ?_, ⟨ns, rfl, rfl, Nat.le_trans hl hn, rfl⟩, fun v w' H' y st' e _ r _ => ?_, fun C fs st' w' H' c d z => z.elim⟩
  · refine ⟨⟨fun b o h _ => (lawF_le b o h).1, fun b o _ m => ?_, fun b m => ?_, fun b ob u h => (lawF_le b _ h).2 ob u rfl⟩, fun _ => rfl, List.nodup_nil, rfl, fun m c b h _ => ?_, (fun b m => by cases m), rfl, fun i x hi => ?_⟩
    · have m' : b ∈ ([] : List Addr) := m
      cases m'
    · have m' : b ∈ ([] : List Addr) := m
      cases m'
    · simp at h
    · match i, hi with
      | 0, hi =>
        cases hi
        exact ⟨_, rfl, Fz.scr (law_sql h)⟩
      | i + 1, hi => simp at hi
  · have e' : y = .d (.bl true) := e
    subst e'
    cases (show Fz K w'.F v (.bl true) from r)
    rfl
/-- what the text must give of its law: at every heap that holds the written part, the law's def keeps spLaw's promise -/
def Gives (P : Program) (K : Params → PySem.W.Frag) (k : Nat) (nm x : Str) : Prop := ∀ (w : World) (mg : Str → Option Value) (fa : Addr) (h : Heap), (K w.params).In h → h.Ns mainGlobals mg → mg nm = some (.ref fa) →
  ∃ fd, (∀ (s : Shared) (u : Value), BindsTo s fd ⟨[u], []⟩ [(x, u)]) ∧ ∀ base : Heap, (K w.params).In base → base.Ns mainGlobals mg → FnOk P w (K w.params) mg base (L2.CX P w) k fa fd [x] (spOf (K w.params) spLaw)
theorem walk3 {l : PySem.W.OpenLaw} {n k : Nat} {q : Program} {loose : List Str} {XP : (Str → Option Value) → Heap → Prop} {YP : World → Heap → Prop} {d : DefRec} {K : Params → PySem.W.Frag} {x : Str}
    (hn : l.most = some n) (hn2 : n ≤ 100000) (hdf : d.params.defaults = []) (hr : Room k callerA) (hY : ∀ (w : World) (h : Heap), YP w h → (K w.params).In h) (F : Gives l.prog K k d.name x) : PySem.W.WalkO q loose XP YP l.row.toRowW d [] (fun f vs => PySem.call f vs) :=
  L2.walk_of (CX := fun w => L2.CX l.prog w) (sp := fun w => spOf (K w.params) spLaw) hn (Nat.le_trans hn2 (by decide)) hdf hr hY F (fun w H a ns h1 _ h3 => law_sp h1 h3 hn2) fun _ _ _ _ _ h => no_out h
end L3

namespace L3
open PySem L2 PyProof.Rows
/-! ### names for readings -/
abbrev RO3 := Val → Val → Gam → KE3 → Prop
abbrev opAdd : RO3 := rAdd3
abbrev opSub : RO3 := rII (fun _ _ => True) fun i j => .int (i - j)
abbrev opMul : RO3 := rII CMul fun i j => .int (i * j)
abbrev opMod : RO3 := rII (fun _ j => 0 < j) fun i j => .int (i % j)
abbrev opFdiv : RO3 := rII CDiv fun i j => .int (i / j)
abbrev opPow : RO3 := rII CPow fun i j => .int (i ^ j.toNat)
abbrev opEq : RO3 := rEq3
abbrev opNe : RO3 := rNe3
abbrev opLt : RO3 := rOrd (fun i j => decide (i < j)) sLt
abbrev opLe : RO3 := rOrd (fun i j => decide (i ≤ j)) fun a b => !sLt b a
abbrev opGt : RO3 := rOrd (fun i j => decide (j < i)) fun a b => sLt b a
abbrev opGe : RO3 := rOrd (fun i j => decide (j ≤ i)) fun a b => !sLt a b
abbrev opIs : RO3 := rIs false
abbrev opIsnot : RO3 := rIs true
def opIn : RO3 := fun y z Γ k => ∃ b, Γ.has y z b ∧ k (.d (.bl b)) Γ
def opNotin : RO3 := fun y z Γ k => ∃ b, Γ.has y z b ∧ k (.d (.bl (!b))) Γ
theorem o_in3 {X : Cx} {W : WX} (c : Good X W) : Op3 X (compareOp .In) opIn := o_in c
theorem o_notin3 {X : Cx} {W : WX} (c : Good X W) : Op3 X (compareOp .NotIn) opNotin := o_notin c
theorem in_go {Γ : Gam} {y z : Val} {k : KE3} {b : Bool} (h : Γ.has y z b) (hk : k (.d (.bl b)) Γ) : opIn y z Γ k := ⟨b, h, hk⟩
theorem notin_go {Γ : Gam} {y z : Val} {k : KE3} {b : Bool} (h : Γ.has y z b) (hk : k (.d (.bl (!b))) Γ) : opNotin y z Γ k := ⟨b, h, hk⟩
/-! ### {k: v} -/
section
variable {K : PySem.W.Frag} {X : Cx} {W : WX} {pos : Pos} {kx vx : Expr} {rk rv : RE}
def rDisp1 (rk rv : RE) : RE := fun Γ k x => rk Γ (fun y Γ1 => rv Γ1 (fun z Γ2 => ∃ q, y = .d (kD q) ∧ k (.own Γ2.st.length) { Γ2 with st := Γ2.st ++ [.M [(q, z)]] }) x) x
theorem w_disp1 (hk : PE3 X W kx rk) (hv : PE3 X W vx rv) : PE3 X W (.Dict [some kx] [vx] pos) (rDisp1 rk rv) := by
  obtain ⟨tk, pk, sk⟩ := hk.ex
  obtain ⟨tv, pv, sv⟩ := hv.ex
  refine ⟨_, pe_disp (pps_cons pk pv pps_nil) rfl rfl (fun z => by cases z) (Nat.le_of_ble_eq_true rfl), ⟨fun w H σ Γ Q k x S h hkk hx => ?_⟩⟩
  intro p hp
  have S0 : Sta X.K w (upd H p (.dK [])) σ Γ := S.side (S.Fnone hp) (S.fresh hp)
  have g0 : Grow w H w (upd H p (.dK [])) := (Grow.refl _ _).side hp
  have h0 : Hid w (upd H p (.dK [])) p (.dK []) := Hid.of (S.Fnone hp) (S.fresh hp) (fun _ z => by cases z)
  refine sk.go w _ σ Γ _ _ x S0 h (fun u w1 H1 y Γ1 h1 S1 r1 g1 => ?_) (hx.grow g0)
  refine sv.go w1 H1 σ Γ1 _ _ x S1 h1 (fun u2 w2 H2 z Γ2 h2 S2 r2 g2 => ?_) (hx.grow (g0.trans g1))
  obtain ⟨q, rfl, h2⟩ := h2
  have hq := Fz.key r1
  subst hq
  have gg := g1.trans g2
  have hid := h0.grow gg
  refine ⟨hid.h, [(q, u2)], rfl, Nat.le_of_ble_eq_true rfl, ?_⟩
  have em : mergeK [] [(q, u2)] = [(q, u2)] := rfl
  rw [em]
  have S3 : Sta X.K w2 (upd H2 p (.dK [(q, u2)])) σ Γ2 := S2.side hid.f hid.a
  have hid3 : Hid w2 (upd H2 p (.dK [(q, u2)])) p (.dK [(q, u2)]) := Hid.of hid.f hid.a (fun _ z => by cases z)
  have g3 : Grow w H w2 (upd H2 p (.dK [(q, u2)])) := (g0.trans gg).side hp
  obtain ⟨S4, g4⟩ := S3.adoptO hid3 (c := .M [(q, z)]) ⟨hid.f, [(q, u2)], upd_same, rfl, .cons (vr_more r2) .nil⟩ g3 hp
  exact hkk _ _ _ _ _ h2 S4 ⟨p, S3.newOR p, rfl⟩ g4
end
end L3

namespace L3
open PySem L2 PyProof.Rows

/-! ### where the program's classes stand -/
structure Wh where
  K : PySem.W.Frag
  Web : Addr
  BadHouses : Addr
  BadLink : Addr
  NotJoined : Addr
  UnknownHouse : Addr

/-! ### data of the program -/
def sD (l : List Str) : List D := l.map .str
def tp (p : Str × Str) : D := .tup [.str p.1, .str p.2]
def tpD (l : List (Str × Str)) : List D := l.map tp
def dlS (st : List Cell) (y : Val) : Option (List D) := Gam.dl ⟨[], st, false⟩ y
/-- cells that hold no cells -/
def Flat (st : List Cell) : Prop := ∀ c, c ∈ st → Cell.ok 0 c = true
def letters : Str := "abcdefghijklmnopqrstuvwxyz"
def isName (x : Str) : Bool := decide (1 ≤ x.cps.size) && decide (x.cps.size ≤ 8) && x.cps.toList.all fun c => decide (c ∈ letters.cps.toList)
def pairOf (p : Str × Str) : Str × Str := if sLt p.2 p.1 = true then (p.2, p.1) else p
def sLe (a b : Str) : Bool := !sLt b a
def sortS (l : List Str) : List Str := l.mergeSort sLe
/-- the neighbours of h, as the links tell them -/
def neigh (links : List (Str × Str)) (h : Str) : List Str := links.flatMap fun p => (if p.1 = h then [p.2] else []) ++ (if p.2 = h then [p.1] else [])
def nearL (names : List Str) (links : List (Str × Str)) : List (Str × List Str) := (sortS names).map fun h => (h, sortS (neigh links h))
def nearK (near : List (Str × List Str)) : List (Key × D) := near.map fun p => (.inr p.1, .lst (sD p.2))
def nearD (names : List Str) (links : List (Str × Str)) : D := .dct (nearK (nearL names links))
def fs1 (f : Str) (x : D) : List (Str × D) := [(f, x)]
def webD (Θ : Wh) (names : List Str) (links : List (Str × Str)) : D := .obj Θ.Web [("_near", nearD names links)]
structure NamesOk (names : List Str) : Prop where
  nd : names.Nodup
  ok : ∀ x, x ∈ names → isName x = true
  lo : 2 ≤ names.length
  hi : names.length ≤ 14
structure LinksOk (names : List Str) (links : List (Str × Str)) : Prop where
  mem : ∀ p, p ∈ links → p.1 ∈ names ∧ p.2 ∈ names ∧ p.1 ≠ p.2
  dj : (links.map pairOf).Nodup
  few : links.length ≤ 1000
/-- b is reached from a -/
inductive Reach (near : Str → List Str) (bar : Option (Str × Str)) : Str → Str → Prop
  | refl (a : Str) : Reach near bar a a
  | step {a b c : Str} : Reach near bar a b → c ∈ near b → some (pairOf (b, c)) ≠ bar → Reach near bar a c
def Joined (names : List Str) (links : List (Str × Str)) : Prop := ∀ a b, a ∈ names → b ∈ names → Reach (neigh links) none a b
structure WebOk (names : List Str) (links : List (Str × Str)) : Prop extends NamesOk names, LinksOk names links where
  jo : Joined names links
/-- what is asked of the class Web -/
structure WebCls (Θ : Wh) : Prop where
  cl : Cls Θ.K Θ.Web
  na : NoAttr Θ.K Θ.Web "_near"

/-! ### promises -/
/-- the law's pool of draws -/
structure PoolOk (p : List Int) : Prop where
  ex : ∃ a b c d, p = [a, b, c, d] ∧ 0 ≤ a ∧ 0 ≤ b ∧ 0 ≤ c ∧ 0 ≤ d ∧ d < 1000000007
def poolC (p : List Int) : Cell := .L (p.map fun i => .d (.int i))
def sp_law_take (_ : Wh) : VSp := fun _ ys cells k _ => ∃ ns p many, ys = [.d (.scr ns), .own 0, .d (.int many)] ∧ cells = [poolC p] ∧ PoolOk p ∧ 0 < many ∧ many < 1073741824 ∧ ∀ r p', PoolOk p' → 0 ≤ r → r < many → k (.d (.int r)) [poolC p']
def sp_law_names (_ : Wh) : VSp := fun _ ys cells k _ => ∃ ns p many, ys = [.d (.scr ns), .own 0, .d (.int many)] ∧ cells = [poolC p] ∧ PoolOk p ∧ 0 ≤ many ∧ many ≤ 14 ∧
  ∀ (names : List Str) p', PoolOk p' → names.Nodup → (∀ x, x ∈ names → isName x = true) → names.length = many.toNat → k (.own 1) [poolC p', .L ((sD names).map .d)]
def sp_law_links (_ : Wh) : VSp := fun _ ys cells k _ => ∃ ns p names, ys = [.d (.scr ns), .own 0, .d (.lst (sD names))] ∧ cells = [poolC p] ∧ PoolOk p ∧ NamesOk names ∧
  ∀ links p', PoolOk p' → WebOk names links → k (.own 1) [poolC p', .L ((tpD links).map .d)]
def sp_law_shuffled (_ : Wh) : VSp := fun _ ys cells k _ => ∃ ns p things y rest, ys = [.d (.scr ns), .own 0, y] ∧ cells = poolC p :: rest ∧ Flat rest ∧ dlS cells y = some things ∧ PoolOk p ∧ things.length ≤ 100000 ∧
  (∀ (found : List D) p', PoolOk p' → found.Perm things → k (.own cells.length) (poolC p' :: rest ++ [.L (found.map .d)]))
def sp_is_name (_ : Wh) : VSp := fun _ ys cells k _ => ∃ x, ys = [.d (.str x)] ∧ cells = [] ∧ x.length ≤ sizeLine ∧ k (.d (.bl (isName x))) []
def sp_pair_of (_ : Wh) : VSp := fun _ ys cells k _ => ∃ a b, ys = [.d (.str a), .d (.str b)] ∧ cells = [] ∧ k (.d (tp (pairOf (a, b)))) []
def sp_check_houses (_ : Wh) : VSp := fun _ ys cells k _ => ∃ y names, ys = [y] ∧ dlS cells y = some (sD names) ∧ Flat cells ∧ NamesOk names ∧ k (.d .non) cells
def sp_check_links (_ : Wh) : VSp := fun _ ys cells k _ => ∃ y z names links, ys = [y, z] ∧ dlS cells y = some (sD names) ∧ dlS cells z = some (tpD links) ∧ Flat cells ∧ NamesOk names ∧ LinksOk names links ∧ k (.d .non) cells
def barD : Option (Str × Str) → D
  | none => .non
  | some p => tp p
/-- found: a dict of the reached houses, each with True -/
def sp_reached (_ : Wh) : VSp := fun lk ys cells k _ => ∃ y start bar near, ys = [y, .d (.str start), .d (barD bar)] ∧ Gam.shp ⟨[], cells, lk⟩ y = .M (snd (nearK near)) ∧ Flat cells ∧ (near.map (·.1)).Nodup ∧ start ∈ near.map (·.1) ∧ near.length ≤ 14 ∧ (∀ p, bar = some p → PyData.strOk p.1 = true ∧ PyData.strOk p.2 = true) ∧
  (∀ x, x ∈ near.map (·.1) → isName x = true) ∧ (∀ p, p ∈ near → p.2.length ≤ 100000 ∧ ∀ b, b ∈ p.2 → b ∈ near.map (·.1)) ∧
  ∀ found : List Str, found.Nodup → (∀ x, x ∈ found ↔ Reach (fun a => (look near a).getD []) bar start x) → k (.own cells.length) (cells ++ [.M (found.map fun x => (.inr x, .d (.bl true)))])
def sp_Web__init__ (Θ : Wh) : VSp := fun _ ys cells k _ => ∃ y z names links rest, ys = [.own 0, y, z] ∧ cells = .O Θ.Web [] :: rest ∧ Flat rest ∧ dlS cells y = some (sD names) ∧ dlS cells z = some (tpD links) ∧ WebOk names links ∧
  k (.d .non) (.O Θ.Web [("_near", .d (nearD names links))] :: rest)
/-- the links that a Web tells -/
def toldL (names : List Str) (links : List (Str × Str)) : List (Str × Str) := (nearL names links).flatMap fun p => (p.2.filter fun b => sLt p.1 b).map fun b => (p.1, b)
def sp_Web_houses (Θ : Wh) : VSp := fun _ ys cells k _ => ∃ names links, ys = [.d (webD Θ names links)] ∧ cells = [] ∧ WebOk names links ∧ k (.own 0) [.L ((sD (sortS names)).map .d)]
def sp_Web_links (Θ : Wh) : VSp := fun _ ys cells k _ => ∃ names links, ys = [.d (webD Θ names links)] ∧ cells = [] ∧ WebOk names links ∧ k (.own 0) [.L ((tpD (toldL names links)).map .d)]
def sp_Web__len__ (Θ : Wh) : VSp := fun _ ys cells k _ => ∃ names links, ys = [.d (webD Θ names links)] ∧ cells = [] ∧ WebOk names links ∧ k (.d (.int (names.length : Nat))) []
def sp_law_same_texts (_ : Wh) : VSp := fun _ ys cells k _ => ∃ y z xs, ys = [y, z] ∧ dlS cells y = some (sD xs) ∧ dlS cells z = some (sD xs) ∧ (∀ x, x ∈ xs → PyData.strOk x = true) ∧ xs.length ≤ 1000000 ∧ Flat cells ∧ k (.d (.bl true)) cells
def sp_law_pair (_ : Wh) : VSp := fun _ ys cells k _ => ∃ a b, ys = [.d (.str a), .d (.str b)] ∧ cells = [] ∧ a ≠ b ∧ k (.d (tp (pairOf (a, b)))) []
def tpLe (p q : Str × Str) : Bool := leD (tp p) (tp q)
def sortP (l : List (Str × Str)) : List (Str × Str) := l.mergeSort tpLe
def sp_law_pairs (_ : Wh) : VSp := fun _ ys cells k _ => ∃ links, ys = [.d (.lst (tpD links))] ∧ cells = [] ∧ (∀ p, p ∈ links → p.1 ≠ p.2 ∧ PyData.strOk p.1 = true ∧ PyData.strOk p.2 = true) ∧ links.length ≤ 1000000 ∧ k (.d (.lst (tpD (sortP (links.map pairOf))))) []
def sp_law_same_pairs (_ : Wh) : VSp := fun _ ys cells k _ => ∃ y z xs, ys = [y, z] ∧ dlS cells y = some (tpD xs) ∧ dlS cells z = some (tpD xs) ∧ (∀ p, p ∈ xs → PyData.strOk p.1 = true ∧ PyData.strOk p.2 = true) ∧ xs.length ≤ 1000000 ∧ Flat cells ∧ k (.d (.bl true)) cells
end L3

namespace L3
open PySem L2 PyProof.Rows
/-! ### what each def reads -/
def r_law_take (Θ : Wh) : RS := rSeq (rAsg (rOp opAdd (rOp rIx3 (rVar 1) (rC (.int 2))) (rC (.int 1))) (rgSub (rVar 1) (rC (.int 2))))
    (rSeq (rIf (rAndT (rTB (rOp opEq (rOp rIx3 (rVar 1) (rC (.int 1))) (rC (.int 0)))) (rTB (rOp opLt (rOp rIx3 (rVar 1) (rC (.int 0))) (rCB rLen (raCons (rVar 0) (raNil)))))) (rSeq (rAsg (rOp rIx3 (rVar 0) (rOp rIx3 (rVar 1) (rC (.int 0)))) (rgName 3))
    (rSeq (rAsg (rOp opAdd (rOp rIx3 (rVar 1) (rC (.int 0))) (rC (.int 1))) (rgSub (rVar 1) (rC (.int 0))))
    (rSeq (rIf (rTB (rOp opLt (rVar 3) (rC (.int 0)))) (rAsg (rNeg3 (rVar 3)) (rgName 3)) (rNext))
    (rIf (rTB (rOp opGe (rVar 3) (rOp opPow (rC (.int 10)) (rC (.int 18))))) (rAsg (rVar 3) (rgSub (rVar 1) (rC (.int 1)))) (rAsg (rOp opMod (rCB rInt (raCons (rOp opAdd (rOp opAdd (rOp opMul (rOp rIx3 (rVar 1) (rC (.int 3))) (rC (.int 31))) (rVar 3)) (rC (.int 17))) (raNil))) (rC (.int 1000000007))) (rgSub (rVar 1) (rC (.int 3)))))))) (rNext))
    (rSeq (rIf (rTB (rOp opGt (rOp rIx3 (rVar 1) (rC (.int 1))) (rC (.int 0)))) (rSeq (rAsg (rOp opMod (rCB rInt (raCons (rOp rIx3 (rVar 1) (rC (.int 1))) (raNil))) (rVar 2)) (rgName 4))
    (rSeq (rAsg (rOp opFdiv (rOp rIx3 (rVar 1) (rC (.int 1))) (rVar 2)) (rgSub (rVar 1) (rC (.int 1))))
    (rRet (rVar 4)))) (rNext))
    (rSeq (rAsg (rOp opMod (rOp opMul (rCB rInt (raCons (rOp opAdd (rOp opAdd (rOp rIx3 (rVar 1) (rC (.int 3))) (rOp opMul (rC (.int 7919)) (rOp rIx3 (rVar 1) (rC (.int 2))))) (rC (.int 1))) (raNil))) (rC (.int 48271))) (rC (.int 2147483647))) (rgName 5))
    (rSeq (rAsg (rOp opMod (rCB rInt (raCons (rOp opMul (rVar 5) (rOp opAdd (rOp opFdiv (rVar 5) (rC (.int 1009))) (rC (.int 69621)))) (raNil))) (rC (.int 2147483629))) (rgName 5))
    (rSeq (rAsg (rOp opMod (rCB rInt (raCons (rOp opMul (rVar 5) (rOp opAdd (rOp opFdiv (rVar 5) (rC (.int 2003))) (rC (.int 40692)))) (raNil))) (rC (.int 2147483399))) (rgName 5))
    (rRet (rOp opMod (rCB rInt (raCons (rOp opFdiv (rVar 5) (rC (.int 16))) (raNil))) (rVar 2))))))))
def r_law_names (Θ : Wh) : RS := rSeq (rAsg (rC (.str "abcdefghijklmnopqrstuvwxyz")) (rgName 3))
    (rSeq (rAsg (rLst true (raNil)) (rgName 4))
    (rSeq (rFor (riRange1 (raCons (rVar 2) (raNil))) (rgName 5) (rSeq (rAsg (rOp opAdd (rC (.int 1)) (rCall (sp_law_take Θ) [] (raCons (rVar 0) (raCons (rVar 1) (raCons (rC (.int 8)) (raNil)))))) (rgName 6))
    (rSeq (rAsg (rBM "str" rJoin3 (rC (.str "")) (raCons (rLc false (riRange1 (raCons (rVar 6) (raNil))) (rgName 9) (rtYes) (rOp rIx3 (rVar 3) (rCall (sp_law_take Θ) [] (raCons (rVar 0) (raCons (rVar 1) (raCons (rC (.int 26)) (raNil)))))) [9]) (raNil))) (rgName 7))
    (rSeq (rFor (riStr (rVar 3)) (rgName 8) (rIf (rAndT (rTB (rOp opIn (rVar 7) (rVar 4))) (rTB (rOp opNotin (rVar 8) (rVar 4)))) (rAsg (rVar 8) (rgName 7)) (rNext)))
    (rDrop (rBM "list" rAppend3 (rVar 4) (raCons (rVar 7) (raNil))))))))
    (rRet (rVar 4))))
def r_law_links (Θ : Wh) : RS := rSeq (rAsg (rLst true (raNil)) (rgName 3))
    (rSeq (rAsg (rCall (sp_law_take Θ) [] (raCons (rVar 0) (raCons (rVar 1) (raCons (rC (.int 5)) (raNil))))) (rgName 4))
    (rSeq (rAsg (rCall (sp_law_take Θ) [] (raCons (rVar 0) (raCons (rVar 1) (raCons (rC (.int 4)) (raNil))))) (rgName 5))
    (rSeq (rIf (rTB (rOp opEq (rVar 5) (rC (.int 3)))) (rAsg (rCall (sp_law_take Θ) [] (raCons (rVar 0) (raCons (rVar 1) (raCons (rOp opAdd (rOp opFdiv (rOp opMul (rCB rLen (raCons (rVar 2) (raNil))) (rCB rLen (raCons (rVar 2) (raNil)))) (rC (.int 2))) (rC (.int 1))) (raNil))))) (rgName 5)) (rNext))
    (rSeq (rFor (riRange2 (raCons (rC (.int 1)) (raCons (rCB rLen (raCons (rVar 2) (raNil))) (raNil)))) (rgName 6) (rSeq (rAsg (rCall (sp_law_take Θ) [] (raCons (rVar 0) (raCons (rVar 1) (raCons (rVar 6) (raNil))))) (rgName 7))
    (rSeq (rIf (rTB (rOp opEq (rVar 4) (rC (.int 1)))) (rAsg (rOp opSub (rVar 6) (rC (.int 1))) (rgName 7)) (rNext))
    (rSeq (rIf (rTB (rOp opEq (rVar 4) (rC (.int 2)))) (rAsg (rC (.int 0)) (rgName 7)) (rNext))
    (rIf (rTB (rOp opEq (rCall (sp_law_take Θ) [] (raCons (rVar 0) (raCons (rVar 1) (raCons (rC (.int 2)) (raNil))))) (rC (.int 0)))) (rDrop (rBM "list" rAppend3 (rVar 3) (raCons (rTup (raCons (rOp rIx3 (rVar 2) (rVar 7)) (raCons (rOp rIx3 (rVar 2) (rVar 6)) (raNil)))) (raNil)))) (rDrop (rBM "list" rAppend3 (rVar 3) (raCons (rTup (raCons (rOp rIx3 (rVar 2) (rVar 6)) (raCons (rOp rIx3 (rVar 2) (rVar 7)) (raNil)))) (raNil)))))))))
    (rSeq (rIf (rAndT (rTB (rOp opEq (rVar 4) (rC (.int 3)))) (rAndT (rTB (rOp opGt (rCB rLen (raCons (rVar 2) (raNil))) (rC (.int 2)))) (rAndT (rTB (rOp opNotin (rTup (raCons (rOp rIx3 (rVar 2) (rC (.int 0))) (raCons (rOp rIx3 (rVar 2) (rNeg3 (rC (.int 1)))) (raNil)))) (rVar 3))) (rTB (rOp opNotin (rTup (raCons (rOp rIx3 (rVar 2) (rNeg3 (rC (.int 1)))) (raCons (rOp rIx3 (rVar 2) (rC (.int 0))) (raNil)))) (rVar 3)))))) (rDrop (rBM "list" rAppend3 (rVar 3) (raCons (rTup (raCons (rOp rIx3 (rVar 2) (rC (.int 0))) (raCons (rOp rIx3 (rVar 2) (rNeg3 (rC (.int 1)))) (raNil)))) (raNil)))) (rNext))
    (rSeq (rFor (riRange1 (raCons (rVar 5) (raNil))) (rgName 6) (rSeq (rAsg (rOp rIx3 (rVar 2) (rCall (sp_law_take Θ) [] (raCons (rVar 0) (raCons (rVar 1) (raCons (rCB rLen (raCons (rVar 2) (raNil))) (raNil)))))) (rgName 8))
    (rSeq (rAsg (rOp rIx3 (rVar 2) (rCall (sp_law_take Θ) [] (raCons (rVar 0) (raCons (rVar 1) (raCons (rCB rLen (raCons (rVar 2) (raNil))) (raNil)))))) (rgName 9))
    (rIf (rAndT (rTB (rOp opNe (rVar 8) (rVar 9))) (rAndT (rTB (rOp opNotin (rTup (raCons (rVar 8) (raCons (rVar 9) (raNil)))) (rVar 3))) (rTB (rOp opNotin (rTup (raCons (rVar 9) (raCons (rVar 8) (raNil)))) (rVar 3))))) (rDrop (rBM "list" rAppend3 (rVar 3) (raCons (rTup (raCons (rVar 8) (raCons (rVar 9) (raNil)))) (raNil)))) (rNext)))))
    (rRet (rVar 3))))))))
def r_law_shuffled (Θ : Wh) : RS := rSeq (rAsg (rCB (rList true) (raCons (rVar 2) (raNil))) (rgName 3))
    (rSeq (rAsg (rLst true (raNil)) (rgName 4))
    (rSeq (rFor (riRange1 (raCons (rCB rLen (raCons (rVar 2) (raNil))) (raNil))) (rgName 5) (rDrop (rBM "list" rAppend3 (rVar 4) (raCons (rBM "list" rPopAt3 (rVar 3) (raCons (rCall (sp_law_take Θ) [] (raCons (rVar 0) (raCons (rVar 1) (raCons (rCB rLen (raCons (rVar 3) (raNil))) (raNil))))) (raNil))) (raNil)))))
    (rRet (rVar 4))))
def r_is_name (Θ : Wh) : RS := rRet (rAndV (rChain opLe opLe (rC (.int 1)) (rCB rLen (raCons (rVar 0) (raNil))) (rC (.int 8))) (rCB rAll3 (raCons (rLc false (riStr (rVar 0)) (rgName 1) (rtYes) (rOp opIn (rVar 1) (rC (.str "abcdefghijklmnopqrstuvwxyz"))) [1]) (raNil))))
def r_check_houses (Θ : Wh) : RS := rSeq (rIf (rNotT (rTB (rChain opLe opLe (rC (.int 2)) (rCB rLen (raCons (rVar 0) (raNil))) (rC (.int 14))))) (rNever) (rNext))
    (rFor (riEnum (raCons (rVar 0) (raNil))) (rgTup 2 (rgCons (rgName 1) (rgCons (rgName 2) (rgNil)))) (rIf (rOrT (rNotT (rTru (rCall (sp_is_name Θ) [] (raCons (rVar 2) (raNil))))) (rTB (rOp opIn (rVar 2) (rSl false (rVar 0) (roNone) (roSome (rVar 1)))))) (rNever) (rNext)))
def r_pair_of (Θ : Wh) : RS := rSeq (rIf (rTB (rOp opLt (rVar 1) (rVar 0))) (rRet (rTup (raCons (rVar 1) (raCons (rVar 0) (raNil))))) (rNext))
    (rRet (rTup (raCons (rVar 0) (raCons (rVar 1) (raNil)))))
def r_check_links (Θ : Wh) : RS := rSeq (rAsg (rDnewT) (rgName 2))
    (rFor (riEnum (raCons (rVar 1) (raNil))) (rgTup 2 (rgCons (rgName 3) (rgCons (rgTup 2 (rgCons (rgName 4) (rgCons (rgName 5) (rgNil)))) (rgNil)))) (rSeq (rIf (rOrT (rTB (rOp opNotin (rVar 4) (rVar 0))) (rOrT (rTB (rOp opNotin (rVar 5) (rVar 0))) (rOrT (rTB (rOp opEq (rVar 4) (rVar 5))) (rTB (rOp opIn (rCall (sp_pair_of Θ) [] (raCons (rVar 4) (raCons (rVar 5) (raNil)))) (rVar 2)))))) (rNever) (rNext))
    (rAsg (rC (.bl true)) (rgSub (rVar 2) (rCall (sp_pair_of Θ) [] (raCons (rVar 4) (raCons (rVar 5) (raNil))))))))
def r_reached (Θ : Wh) : RS := rSeq (rAsg (rDisp1 (rVar 1) (rC (.bl true))) (rgName 3))
    (rSeq (rAsg (rLst true (raCons (rVar 1) (raNil))) (rgName 4))
    (rSeq (rAsg (rC (.int 0)) (rgName 5))
    (rSeq (rWhile (rTB (rOp opLt (rVar 5) (rCB rLen (raCons (rVar 4) (raNil))))) (rSeq (rAsg (rOp rIx3 (rVar 4) (rVar 5)) (rgName 6))
    (rSeq (rAug 5 (fun a b => a + b) (rC (.int 1)))
    (rFor (riList (rOp rIx3 (rVar 0) (rVar 6))) (rgName 7) (rIf (rAndT (rTB (rOp opNotin (rVar 7) (rVar 3))) (rTB (rOp opNe (rCall (sp_pair_of Θ) [] (raCons (rVar 6) (raCons (rVar 7) (raNil)))) (rVar 2)))) (rSeq (rAsg (rC (.bl true)) (rgSub (rVar 3) (rVar 7)))
    (rDrop (rBM "list" rAppend3 (rVar 4) (raCons (rVar 7) (raNil))))) (rNext))))))
    (rRet (rVar 3)))))
def r_Web__init__ (Θ : Wh) : RS := rFin 0 "_near" (rSeq (rDrop (rCall (sp_check_houses Θ) [] (raCons (rVar 1) (raNil))))
    (rSeq (rDrop (rCall (sp_check_links Θ) [] (raCons (rVar 1) (raCons (rVar 2) (raNil)))))
    (rSeq (rStF Θ.K (rVar 0) (rDc (riList (rCB (rSorted3 false) (raCons (rVar 1) (raNil)))) (rgName 5) (rtYes) (rVar 5) (rLst true (raNil)) [5]) "_near")
    (rSeq (rFor (riList (rVar 2)) (rgTup 2 (rgCons (rgName 3) (rgCons (rgName 4) (rgNil)))) (rSeq (rDrop (rBM "list" rAppend3 (rOp rIx3 (rFld Θ.K (rVar 0) "_near") (rVar 3)) (raCons (rVar 4) (raNil))))
    (rDrop (rBM "list" rAppend3 (rOp rIx3 (rFld Θ.K (rVar 0) "_near") (rVar 4)) (raCons (rVar 3) (raNil))))))
    (rSeq (rFor (riList (rCB (rSorted3 false) (raCons (rVar 1) (raNil)))) (rgName 5) (rAsg (rCB (rSorted3 false) (raCons (rOp rIx3 (rFld Θ.K (rVar 0) "_near") (rVar 5)) (raNil))) (rgSub (rFld Θ.K (rVar 0) "_near") (rVar 5))))
    (rSeq (rAsg (rCall (sp_reached Θ) [.non] (raCons (rFld Θ.K (rVar 0) "_near") (raCons (rCB rMin3 (raCons (rVar 1) (raNil))) (raNil)))) (rgName 6))
    (rFor (riList (rCB (rSorted3 false) (raCons (rVar 1) (raNil)))) (rgName 5) (rIf (rTB (rOp opNotin (rVar 5) (rVar 6))) (rNever) (rNext)))))))))
def r_Web_houses (Θ : Wh) : RS := rRet (rCB (rList true) (raCons (rFld Θ.K (rVar 0) "_near") (raNil)))
def r_Web_links (Θ : Wh) : RS := rRet (rLc2D true (rdFld Θ.K 0 "_near") itKeys (rgName 1) (rtYes) (riList (rOp rIx3 (rFld Θ.K (rVar 0) "_near") (rVar 1))) (rgName 2) (rTB (rOp opLt (rVar 1) (rVar 2))) (rTup (raCons (rVar 1) (raCons (rVar 2) (raNil)))) [1, 2] [2])
def r_law_same_texts (Θ : Wh) : RS := rSeq (rIf (rOrT (rNotT (rTru (rCB rIsi3 (raCons (rVar 0) (raCons (rC (.ty "list")) (raNil)))))) (rTB (rOp opNe (rCB rLen (raCons (rVar 0) (raNil))) (rCB rLen (raCons (rVar 1) (raNil)))))) (rRet (rC (.bl false))) (rNext))
    (rSeq (rFor (riRange1 (raCons (rCB rLen (raCons (rVar 1) (raNil))) (raNil))) (rgName 2) (rIf (rOrT (rNotT (rTru (rCB rIsi3 (raCons (rOp rIx3 (rVar 0) (rVar 2)) (raCons (rC (.ty "str")) (raNil)))))) (rTB (rOp opNe (rOp rIx3 (rVar 0) (rVar 2)) (rOp rIx3 (rVar 1) (rVar 2))))) (rRet (rC (.bl false))) (rNext)))
    (rRet (rC (.bl true))))
def r_law_pair (Θ : Wh) : RS := rSeq (rIf (rTB (rOp opLt (rVar 0) (rVar 1))) (rRet (rTup (raCons (rVar 0) (raCons (rVar 1) (raNil))))) (rNext))
    (rRet (rTup (raCons (rVar 1) (raCons (rVar 0) (raNil)))))
def r_law_pairs (Θ : Wh) : RS := rRet (rCB (rSorted3 false) (raCons (rLc false (riList (rVar 0)) (rgName 1) (rtYes) (rCall (sp_law_pair Θ) [] (raCons (rOp rIx3 (rVar 1) (rC (.int 0))) (raCons (rOp rIx3 (rVar 1) (rC (.int 1))) (raNil)))) [1]) (raNil)))
def r_law_same_pairs (Θ : Wh) : RS := rSeq (rIf (rOrT (rNotT (rTru (rCB rIsi3 (raCons (rVar 0) (raCons (rC (.ty "list")) (raNil)))))) (rTB (rOp opNe (rCB rLen (raCons (rVar 0) (raNil))) (rCB rLen (raCons (rVar 1) (raNil)))))) (rRet (rC (.bl false))) (rNext))
    (rSeq (rFor (riRange1 (raCons (rCB rLen (raCons (rVar 1) (raNil))) (raNil))) (rgName 2) (rIf (rOrT (rNotT (rTru (rCB rIsi3 (raCons (rOp rIx3 (rVar 0) (rVar 2)) (raCons (rC (.ty "tuple")) (raNil)))))) (rNotT (rTru (rCall (sp_law_same_texts Θ) [] (raCons (rCB (rList false) (raCons (rOp rIx3 (rVar 0) (rVar 2)) (raNil))) (raCons (rCB (rList false) (raCons (rOp rIx3 (rVar 1) (rVar 2)) (raNil))) (raNil))))))) (rRet (rC (.bl false))) (rNext)))
    (rRet (rC (.bl true))))
def r_Web__len__ (Θ : Wh) : RS := rRet (rCB rLen (raCons (rFld Θ.K (rVar 0) "_near") (raNil)))
def r_law (Θ : Wh) : RS := rSeq (rAsg (rLst true (raCons (rC (.int 0)) (raCons (rC (.int 0)) (raCons (rC (.int 0)) (raCons (rC (.int 0)) (raNil)))))) (rgName 1))
    (rSeq (rAsg (rFrz (rCall (sp_law_names Θ) [] (raCons (rVar 0) (raCons (rVar 1) (raCons (rOp opAdd (rC (.int 2)) (rCall (sp_law_take Θ) [] (raCons (rVar 0) (raCons (rVar 1) (raCons (rC (.int 13)) (raNil)))))) (raNil)))))) (rgName 2))
    (rSeq (rAsg (rFrz (rCall (sp_law_shuffled Θ) [] (raCons (rVar 0) (raCons (rVar 1) (raCons (rCall (sp_law_links Θ) [] (raCons (rVar 0) (raCons (rVar 1) (raCons (rVar 2) (raNil))))) (raNil)))))) (rgName 3))
    (rSeq (rAsg (rCall (sp_law_shuffled Θ) [] (raCons (rVar 0) (raCons (rVar 1) (raCons (rVar 2) (raNil))))) (rgName 4))
    (rSeq (rAsg (rCB (rList true) (raCons (rVar 3) (raNil))) (rgName 5))
    (rSeq (rAsg (rCB (rList false) (raCons (rVar 4) (raNil))) (rgName 6))
    (rSeq (rAsg (rFrz (rMake Θ.Web (sp_Web__init__ Θ) [] (raCons (rVar 4) (raCons (rVar 5) (raNil))))) (rgName 7))
    (rSeq (rIf (rOrT (rTB (rOp opNe (rVar 4) (rVar 6))) (rTB (rOp opNe (rVar 5) (rVar 3)))) (rRet (rC (.bl false))) (rNext))
    (rSeq (rDrop (rBM "list" rPop3 (rVar 4) (raNil)))
    (rSeq (rDrop (rBM "list" rAppend3 (rVar 4) (raCons (rC (.str "other")) (raNil))))
    (rSeq (rDrop (rBM "list" rClear3 (rVar 5) (raNil)))
    (rSeq (rFor (riRange1 (raCons (rC (.int 3)) (raNil))) (rgName 8) (rSeq (rAsg (rMeth Θ.Web "houses" (sp_Web_houses Θ) [] (rVar 7) raNil) (rgName 9))
    (rSeq (rAsg (rMeth Θ.Web "links" (sp_Web_links Θ) [] (rVar 7) raNil) (rgName 10))
    (rSeq (rIf (rOrT (rNotT (rTru (rCall (sp_law_same_texts Θ) [] (raCons (rVar 9) (raCons (rCB (rSorted3 false) (raCons (rVar 2) (raNil))) (raNil)))))) (rNotT (rTru (rCall (sp_law_same_pairs Θ) [] (raCons (rVar 10) (raCons (rCall (sp_law_pairs Θ) [] (raCons (rVar 3) (raNil))) (raNil))))))) (rRet (rC (.bl false))) (rNext))
    (rSeq (rIf (rTB (rOp opNe (rCB (rLenO Θ.Web (sp_Web__len__ Θ)) (raCons (rVar 7) (raNil))) (rCB rLen (raCons (rVar 2) (raNil))))) (rRet (rC (.bl false))) (rNext))
    (rSeq (rDrop (rBM "list" rPopAt3 (rVar 9) (raCons (rOp opMod (rVar 8) (rCB rLen (raCons (rVar 9) (raNil)))) (raNil))))
    (rSeq (rDrop (rBM "list" rRev3 (rVar 10) (raNil)))
    (rDrop (rBM "list" rAppend3 (rVar 10) (raCons (rTup (raCons (rC (.str "a")) (raCons (rC (.str "a")) (raNil)))) (raNil)))))))))))
    (rRet (rC (.bl true))))))))))))))
end L3

namespace L3
open PySem L2 PyProof.Rows

/-! ### the readings, for simp -/
def VOk (rs : RS) (n m : Nat) (sp : VSp) : Prop := ∀ lk ys cells k x, sp lk ys cells k x → ys.length = n ∧ rs (endsOf cells.length k x) ⟨ys.map some ++ List.replicate (m - ys.length) none, cells, lk⟩
/-- one statement, the rest hidden -/
theorem sq {r1 r2 : RS} {N : En} {Γ : Gam} (h : ∀ M : Gam → Prop, (∀ Γ', r2 N Γ' → M Γ') → r1 { N with nx := M } Γ) : rSeq r1 r2 N Γ := h (r2 N) fun _ h => h
section
variable {Γ : Gam} {k : KE3} {x : XC} {N : En} {sl : List (Option Val)} {st : List Cell} {lk : Bool}
@[simp] theorem z_var {i : Nat} : rVar i Γ k x = ∃ y, Γ.sl[i]? = some (some y) ∧ k y Γ := rfl
@[simp] theorem z_c {d : D} : rC d Γ k x = k (.d d) Γ := rfl
@[simp] theorem z_op {rr} {ra rb : RE} : rOp rr ra rb Γ k x = ra Γ (fun y Γ1 => rb Γ1 (fun z Γ2 => rr y z Γ2 k) x) x := rfl
@[simp] theorem z_tb {re : RE} {k : Bool → Gam → Prop} : rTB re Γ k x = re Γ (fun y Γ1 => ∃ b, y = .d (.bl b) ∧ k b Γ1) x := rfl
@[simp] theorem z_add_i {i j : Int} : rAdd3 (.d (.int i)) (.d (.int j)) Γ k = k (.d (.int (i + j))) Γ := by
  refine propext ⟨fun h => ?_, fun h => .inl ⟨i, j, rfl, rfl, h⟩⟩
  rcases h with ⟨i', j', e1, e2, h⟩ | ⟨a, b, e1, _⟩ | ⟨xs, ys, e1, _⟩
  · cases e1; cases e2; exact h
  · cases e1
  · cases e1
@[simp] theorem z_ii {C : Int → Int → Prop} {g : Int → Int → D} {i j : Int} : rII C g (.d (.int i)) (.d (.int j)) Γ k = (C i j ∧ k (.d (g i j)) Γ) := by
  refine propext ⟨fun h => ?_, fun h => ⟨i, j, rfl, rfl, h⟩⟩
  obtain ⟨i', j', e1, e2, h⟩ := h
  cases e1; cases e2; exact h
@[simp] theorem z_ord_i {gi gs} {i j : Int} : rOrd gi gs (.d (.int i)) (.d (.int j)) Γ k = k (.d (.bl (gi i j))) Γ := by
  refine propext ⟨fun h => ?_, fun h => .inl ⟨i, j, rfl, rfl, h⟩⟩
  rcases h with ⟨i', j', e1, e2, h⟩ | ⟨a, b, e1, _⟩
  · cases e1; cases e2; exact h
  · cases e1
@[simp] theorem z_ord_s {gi gs} {i j : Str} : rOrd gi gs (.d (.str i)) (.d (.str j)) Γ k = k (.d (.bl (gs i j))) Γ := by
  refine propext ⟨fun h => ?_, fun h => .inr ⟨i, j, rfl, rfl, h⟩⟩
  rcases h with ⟨i', j', e1, e2, h⟩ | ⟨a, b, e1, e2, h⟩
  · cases e1
  · cases e1; cases e2; exact h
@[simp] theorem z_eq {y z : Val} : rEq3 y z Γ k = ∃ a b, Γ.dv y = some a ∧ Γ.dv z = some b ∧ a.eqOk = true ∧ b.eqOk = true ∧ k (.d (.bl (a.eqv b))) Γ := rfl
@[simp] theorem z_ne {y z : Val} : rNe3 y z Γ k = ∃ a b, Γ.dv y = some a ∧ Γ.dv z = some b ∧ a.eqOk = true ∧ b.eqOk = true ∧ k (.d (.bl (!a.eqv b))) Γ := rfl
@[simp] theorem z_dv_d {d : D} : Γ.dv (.d d) = some d := rfl
@[simp] theorem z_dv_o {n : Nat} : Gam.dv ⟨sl, st, lk⟩ (.own n) = (st[n]?).bind Cell.dv := by
  show (match st[n]? with | some c => c.dv | none => none) = _
  cases st[n]? <;> rfl
@[simp] theorem z_cdv_L {xs : List Val} : Cell.dv (.L xs) = (dvals xs).map .lst := rfl
@[simp] theorem z_dvals {xs : List D} : dvals (xs.map .d) = some xs := dvals_map xs
@[simp] theorem z_dvals0 : dvals [] = some [] := rfl
@[simp] theorem z_ok_i {i : Int} : D.eqOk (.int i) = true := rfl
@[simp] theorem z_ok_n : D.eqOk .non = true := rfl
@[simp] theorem z_ok_b {i : Bool} : D.eqOk (.bl i) = true := rfl
@[simp] theorem z_eqv_i {i j : Int} : D.eqv (.int i) (.int j) = decide (i = j) := rfl
@[simp] theorem z_ix {y z : Val} : rIx3 y z Γ k = ∃ q, Γ.item y z q ∧ k q Γ := rfl
@[simp] theorem z_shp_d {d : D} : Γ.shp (.d d) = d.shp := rfl
@[simp] theorem z_shp_o {n : Nat} : Gam.shp ⟨sl, st, lk⟩ (.own n) = ((st[n]?).map Cell.shp).getD (.s .non) := by
  show (match st[n]? with | some c => c.shp | none => Shp.s .non) = _
  cases st[n]? <;> rfl
@[simp] theorem z_cshp_L {xs : List Val} : Cell.shp (.L xs) = .L xs := rfl
@[simp] theorem z_cshp_M {xs : List (Key × Val)} : Cell.shp (.M xs) = .M xs := rfl
@[simp] theorem z_cshp_O {C : Addr} {xs : List (Str × Val)} : Cell.shp (.O C xs) = .O C xs := rfl
@[simp] theorem z_dshp_l {xs : List D} : D.shp (.lst xs) = .L (xs.map .d) := rfl
@[simp] theorem z_dshp_t {xs : List D} : D.shp (.tup xs) = .U (xs.map .d) := rfl
@[simp] theorem z_dshp_i {i : Int} : D.shp (.int i) = .s (.int i) := rfl
@[simp] theorem z_dshp_s {i : Str} : D.shp (.str i) = .s (.str i) := rfl
@[simp] theorem z_dshp_m {xs : List (Key × D)} : D.shp (.dct xs) = .M (snd xs) := rfl
@[simp] theorem z_dshp_o {C : Addr} {xs : List (Str × D)} : D.shp (.obj C xs) = .O C (snd xs) := rfl
@[simp] theorem z_asg {re : RE} {rg : RG} : rAsg re rg N Γ = re Γ (fun y Γ1 => rg y Γ1 N.nx N.ex) N.ex := rfl
@[simp] theorem z_gname {i : Nat} {y : Val} {k : Gam → Prop} : rgName i y Γ k x = k { Γ with sl := Γ.sl.set i (some y) } := rfl
@[simp] theorem z_gsub {ro ri : RE} {y : Val} {k : Gam → Prop} : rgSub ro ri y Γ k x = ro Γ (fun o Γ1 => ri Γ1 (fun i Γ2 => rSt3 o i y Γ2 k) x) x := rfl
@[simp] theorem z_gcons {rg : RG} {rgs : RGs} {y : Val} {r : List Val} {k : Gam → Prop} : rgCons rg rgs (y :: r) Γ k x = rg y Γ (fun Γ1 => rgs r Γ1 k x) x := propext ⟨fun ⟨y', r', e, h⟩ => by cases e; exact h, fun h => ⟨y, r, rfl, h⟩⟩
@[simp] theorem z_gnil {k : Gam → Prop} : rgNil [] Γ k x = k Γ := propext ⟨fun h => h.2, fun h => ⟨rfl, h⟩⟩
@[simp] theorem z_gtup {n : Nat} {rgs : RGs} {y : Val} {k : Gam → Prop} : rgTup n rgs y Γ k x = ∃ ys, Γ.shp y = .U ys ∧ ys.length = n ∧ rgs ys Γ k x := rfl
@[simp] theorem z_if {rt : RT} {r1 r2 : RS} : rIf rt r1 r2 N Γ = rt Γ (fun b Γ1 => if b = true then r1 N Γ1 else r2 N Γ1) N.ex := rfl
@[simp] theorem z_next : rNext N Γ = N.nx Γ := rfl
@[simp] theorem z_ret {re : RE} : rRet re N Γ = re Γ N.rt N.ex := rfl
@[simp] theorem z_retN : rRetN N Γ = N.rt (.d .non) Γ := rfl
@[simp] theorem z_drop {re : RE} : rDrop re N Γ = re Γ (fun _ Γ1 => N.nx Γ1) N.ex := rfl
@[simp] theorem z_never : rNever N Γ = False := rfl
@[simp] theorem z_andT {ra rb : RT} {k : Bool → Gam → Prop} : rAndT ra rb Γ k x = ra Γ (fun b Γ1 => if b = true then rb Γ1 k x else k false Γ1) x := rfl
@[simp] theorem z_orT {ra rb : RT} {k : Bool → Gam → Prop} : rOrT ra rb Γ k x = ra Γ (fun b Γ1 => if b = true then k true Γ1 else rb Γ1 k x) x := rfl
@[simp] theorem z_notT {ra : RT} {k : Bool → Gam → Prop} : rNotT ra Γ k x = ra Γ (fun b Γ1 => k (!b) Γ1) x := rfl
@[simp] theorem z_tru {ra : RE} {k : Bool → Gam → Prop} : rTru ra Γ k x = ra Γ (fun y Γ1 => ∃ b, Γ1.tru y = some b ∧ k b Γ1) x := rfl
@[simp] theorem z_anil {k : List Val → Gam → Prop} : raNil Γ k x = k [] Γ := rfl
@[simp] theorem z_acons {re : RE} {ra : RA} {k : List Val → Gam → Prop} : raCons re ra Γ k x = re Γ (fun y Γ1 => ra Γ1 (fun ys Γ2 => k (y :: ys) Γ2) x) x := rfl
@[simp] theorem z_cb {rr} {ra : RA} : rCB rr ra Γ k x = ra Γ (fun ys Γ1 => rr ys Γ1 k) x := rfl
@[simp] theorem z_len {y : Val} : rLen [y] Γ k = ∃ n, Γ.size y = some n ∧ k (.d (.int (n : Nat))) Γ := propext ⟨fun ⟨y', n, e, h⟩ => by cases e; exact ⟨n, h⟩, fun ⟨n, h⟩ => ⟨y, n, rfl, h⟩⟩
@[simp] theorem z_int {i : Int} : rInt [.d (.int i)] Γ k = k (.d (.int i)) Γ := propext ⟨fun ⟨i', e, h⟩ => by cases e; exact h, fun h => ⟨i, rfl, h⟩⟩
@[simp] theorem z_neg {re : RE} : rNeg3 re Γ k x = re Γ (fun y Γ1 => ∃ i, y = .d (.int i) ∧ k (.d (.int (-i))) Γ1) x := rfl
@[simp] theorem z_tup {ra : RA} : rTup ra Γ k x = ra Γ (fun ys Γ1 => ys.length ≤ sizeLine ∧ ∃ ds, dvals ys = some ds ∧ k (.d (.tup ds)) Γ1) x := rfl
@[simp] theorem z_lst {o : Bool} {ra : RA} : rLst o ra Γ k x = ra Γ (fun ys Γ1 => ys.length ≤ sizeLine ∧ Γ1.put o (.L ys) k) x := rfl
@[simp] theorem z_put_t {c : Cell} : Γ.put true c k = k (.own Γ.st.length) { Γ with st := Γ.st ++ [c] } := rfl
@[simp] theorem z_put_f {c : Cell} : Γ.put false c k = ∃ d, c.dv = some d ∧ k (.d d) Γ := rfl
@[simp] theorem z_call {sp : VSp} {dys : List D} {ra : RA} : rCall sp dys ra Γ k x = ra Γ (fun ys Γ1 => CallW sp (ys ++ dys.map .d) Γ1 k x) x := rfl
@[simp] theorem z_bm {T : String} {rr} {ro : RE} {ra : RA} : rBM T rr ro ra Γ k x = ro Γ (fun y Γ1 => Γ1.isT T y ∧ ra Γ1 (fun ys Γ2 => rr y ys Γ2 k) x) x := rfl
@[simp] theorem z_append {n : Nat} {y : Val} : rAppend3 (.own n) [y] Γ k = ∃ xs, Γ.st[n]? = some (.L xs) ∧ xs.length < sizeLine ∧ k (.d .non) { Γ with st := Γ.st.set n (.L (xs ++ [y])) } := propext ⟨fun ⟨n', xs, z, e1, e2, h⟩ => by cases e1; cases e2; exact ⟨xs, h⟩, fun ⟨xs, h⟩ => ⟨n, xs, y, rfl, rfl, h⟩⟩
@[simp] theorem z_aug {i : Nat} {f : Int → Int → Int} {re : RE} : rAug i f re N Γ = ∃ a, Γ.sl[i]? = some (some (.d (.int a))) ∧ re Γ (fun y Γ1 => ∃ b, y = .d (.int b) ∧ N.nx { Γ1 with sl := Γ1.sl.set i (some (.d (.int (f a b)))) }) N.ex := rfl
@[simp] theorem z_frz {re : RE} : rFrz re Γ k x = re Γ (fun y Γ1 => ∃ p, Γ1.frz 4 y = some p ∧ k (.d p.1) p.2) x := rfl
@[simp] theorem z_for {ri : RI} {rg : RG} {rb : RS} : rFor ri rg rb N Γ = ri Γ (ForW rg rb N) N.ex := rfl
@[simp] theorem z_range1 {ra : RA} {k : KI} : riRange1 ra Γ k x = ra Γ (fun ys Γ1 => ∃ j : Int, ys = [.d (.int j)] ∧ -(2 ^ 62) ≤ j ∧ j < 2 ^ 62 ∧ k j.toNat (fun i => .d (.int i)) (fun _ => True) Γ1) x := rfl
@[simp] theorem z_range2 {ra : RA} {k : KI} : riRange2 ra Γ k x = ra Γ (fun ys Γ1 => ∃ i j : Int, ys = [.d (.int i), .d (.int j)] ∧ (-(2 ^ 62) ≤ i ∧ i < 2 ^ 62 ∧ -(2 ^ 62) ≤ j ∧ j < 2 ^ 62) ∧ k (j - i).toNat (fun m => .d (.int (i + m))) (fun _ => True) Γ1) x := rfl
@[simp] theorem z_ilist {re : RE} {k : KI} : riList re Γ k x = re Γ (fun y Γ1 => ∃ xs, Γ1.shp y = .L xs ∧ k xs.length (fun i => xs.getD i (.d .non)) (fun Γ2 => Γ2.shp y = .L xs) Γ1) x := rfl
@[simp] theorem z_istr {re : RE} {k : KI} : riStr re Γ k x = re Γ (fun y Γ1 => ∃ s : Str, y = .d (.str s) ∧ k s.cps.size (fun i => .d (.str ⟨#[s.cps.getD i 0]⟩)) (fun _ => True) Γ1) x := rfl
/-- a stored item of an owned list -/
theorem z_st_L {n : Nat} {xs : List Val} {i : Int} {y : Val} {k : Gam → Prop} (h : Γ.st[n]? = some (.L xs)) {j : Nat} (hj : ixN xs.length i = some j) (hk : k { Γ with st := Γ.st.set n (.L (xs.set j y)) }) : rSt3 (.own n) (.d (.int i)) y Γ k := ⟨n, rfl, .inl ⟨xs, i, j, h, rfl, hj, hk⟩⟩
end
/-! ### subscripts -/
section
variable {sl : List (Option Val)} {st : List Cell} {lk : Bool} {q : Val} {Γ : Gam}
theorem it_L {Γ : Gam} {y : Val} {xs : List Val} {i : Int} (h : Γ.shp y = .L xs) (e : atI xs i = some q) : Γ.item y (.d (.int i)) q := .inl ⟨xs, i, .inl h, rfl, e⟩
theorem it_U {Γ : Gam} {y : Val} {xs : List Val} {i : Int} (h : Γ.shp y = .U xs) (e : atI xs i = some q) : Γ.item y (.d (.int i)) q := .inl ⟨xs, i, .inr h, rfl, e⟩
theorem ixN_nat {l n : Nat} (h : n < l) : ixN l (n : Int) = some n := by
  unfold ixN
  have a : (0 : Int) ≤ n := by omega
  have b : (n : Int) < l := by omega
  simp [a, b, h]
theorem atI_nat {α : Type} {xs : List α} {n : Nat} {x : α} (h : xs[n]? = some x) : atI xs (n : Int) = some x := by
  unfold atI
  have hl : n < xs.length := (List.getElem?_eq_some_iff.mp h).1
  rw [ixN_nat hl]
  exact h
theorem atI_lit {α : Type} {xs : List α} {n : Nat} : atI xs (n : Int) = xs[n]? := by
  by_cases h : n < xs.length
  · rw [List.getElem?_eq_getElem h]
    exact atI_nat (List.getElem?_eq_getElem h)
  · unfold atI ixN
    rw [if_pos (by omega), if_neg (by omega), List.getElem?_eq_none (by omega)]
    rfl
@[simp] theorem z_atI {α : Type} {xs : List α} {n : Nat} : atI xs (no_index (OfNat.ofNat n)) = xs[n]? := atI_lit (n := n)
@[simp] theorem z_atIn {α : Type} {xs : List α} {n : Nat} : atI xs (n : Int) = xs[n]? := atI_lit
theorem ixN_lit {l n : Nat} : ixN l (n : Int) = if n < l then some n else none := by
  by_cases h : n < l
  · rw [ixN_nat h, if_pos h]
  · unfold ixN
    rw [if_pos (by omega), if_neg (by omega), if_neg h]
@[simp] theorem z_ixN {l n : Nat} : ixN l (no_index (OfNat.ofNat n)) = if n < l then some n else none := ixN_lit (n := n)
/-- what an owned cell answers to [i] -/
def itemO (o : Option Cell) (P : Prop) (i : Int) (q : Val) : Prop := match o with
  | some (.L xs) => atI xs i = some q
  | _ => P
def Gam.item0 (Γ : Gam) (y z q : Val) : Prop := Γ.item y z q
@[simp] theorem z_item_o {n : Nat} {i : Int} : Gam.item ⟨sl, st, lk⟩ (.own n) (.d (.int i)) q = itemO st[n]? (Gam.item0 ⟨sl, st, lk⟩ (.own n) (.d (.int i)) q) i q := by
  unfold itemO
  split
  · rename_i xs e
    refine propext ⟨fun h => ?_, fun h => it_L (by rw [z_shp_o, e]; rfl) h⟩
    rcases h with ⟨xs', i', h1, h2, h3⟩ | ⟨s, _, _, h1, _⟩ | h | ⟨_, _, _, h, _⟩
    · cases h2
      rw [z_shp_o, e] at h1
      rcases h1 with h1 | h1
      · cases h1; exact h3
      · cases h1
    · cases h1
    · unfold Gam.dget at h
      rw [z_shp_o, e] at h
      cases h
    · cases h
  · rfl
@[simp] theorem z_itemO_L {xs : List Val} {P : Prop} {i : Int} : itemO (some (.L xs)) P i q = (atI xs i = some q) := rfl
@[simp] theorem z_item_l {xs : List D} {i : Int} : Γ.item (.d (.lst xs)) (.d (.int i)) q = (atI (xs.map Val.d) i = some q) := by
  refine propext ⟨fun h => ?_, fun h => it_L rfl h⟩
  rcases h with ⟨xs', i', h1, h2, h3⟩ | ⟨s, _, _, h1, _⟩ | h | ⟨_, _, _, h, _⟩
  · cases h2
    rcases h1 with h1 | h1
    · cases h1; exact h3
    · cases h1
  · cases h1
  · cases h
  · cases h
@[simp] theorem z_item_t {xs : List D} {i : Int} : Γ.item (.d (.tup xs)) (.d (.int i)) q = (atI (xs.map Val.d) i = some q) := by
  refine propext ⟨fun h => ?_, fun h => it_U rfl h⟩
  rcases h with ⟨xs', i', h1, h2, h3⟩ | ⟨s, _, _, h1, _⟩ | h | ⟨_, _, _, h, _⟩
  · cases h2
    rcases h1 with h1 | h1
    · cases h1
    · cases h1; exact h3
  · cases h1
  · cases h
  · cases h
@[simp] theorem z_item_s {s : Str} {i : Int} : Γ.item (.d (.str s)) (.d (.int i)) q = (∃ c, s.length ≤ sizeLine ∧ atI s.cps.toList i = some c ∧ q = .d (.str ⟨#[c]⟩)) := by
  refine propext ⟨fun h => ?_, fun ⟨c, h1, h2, h3⟩ => .inr (.inl ⟨s, i, c, rfl, rfl, h1, h2, h3⟩)⟩
  rcases h with ⟨xs', i', h1, h2, h3⟩ | ⟨s, _, c, h1, h2, h3⟩ | h | ⟨_, _, _, h, _⟩
  · rcases h1 with h1 | h1 <;> cases h1
  · cases h1; cases h2; exact ⟨c, h3⟩
  · cases h
  · cases h
@[simp] theorem z_item_scr {ns : List Int} {i : Int} : Γ.item (.d (.scr ns)) (.d (.int i)) q = (∃ n, atI ns i = some n ∧ q = .d (.int n)) := by
  refine propext ⟨fun h => ?_, fun ⟨n, h1, h2⟩ => .inr (.inr (.inr ⟨ns, i, n, rfl, rfl, h1, h2⟩))⟩
  rcases h with ⟨xs', i', h1, h2, h3⟩ | ⟨s, _, c, h1, h2, h3⟩ | h | ⟨ns', i', n, h1, h2, h3⟩
  · rcases h1 with h1 | h1 <;> cases h1
  · cases h1
  · cases h
  · cases h1; cases h2; exact ⟨n, h3⟩
/-- an item stored in an owned cell -/
def stO (o : Option Cell) (P : Prop) (Γ : Gam) (n : Nat) (i : Int) (y : Val) (k : Gam → Prop) : Prop := match o with
  | some (.L xs) => ∃ j, ixN xs.length i = some j ∧ k { Γ with st := Γ.st.set n (.L (xs.set j y)) }
  | _ => P
def rSt0 := rSt3
@[simp] theorem z_st_o {n : Nat} {i : Int} {y : Val} {k : Gam → Prop} : rSt3 (.own n) (.d (.int i)) y ⟨sl, st, lk⟩ k = stO st[n]? (rSt0 (.own n) (.d (.int i)) y ⟨sl, st, lk⟩ k) ⟨sl, st, lk⟩ n i y k := by
  unfold stO
  split
  · rename_i xs e
    refine propext ⟨fun h => ?_, fun ⟨j, h1, h2⟩ => ⟨n, rfl, .inl ⟨xs, i, j, e, rfl, h1, h2⟩⟩⟩
    obtain ⟨n', e1, h⟩ := h
    cases e1
    rcases h with ⟨xs', z, j, h1, h2, h3, h4⟩ | ⟨kvs, x, q, h1, _⟩ | ⟨kvs, x, q, h1, _⟩
    · cases h2
      have e1 : some (Cell.L xs') = some (.L xs) := h1.symm.trans e
      cases e1
      exact ⟨j, h3, h4⟩
    · have e1 := h1.symm.trans e; cases e1
    · have e1 := h1.symm.trans e; cases e1
  · rfl
@[simp] theorem z_stO_L {xs : List Val} {P : Prop} {n : Nat} {i : Int} {y : Val} {k : Gam → Prop} : stO (some (.L xs)) P Γ n i y k = ∃ j, ixN xs.length i = some j ∧ k { Γ with st := Γ.st.set n (.L (xs.set j y)) } := rfl
@[simp] theorem z_size_scr {ns : List Int} : Γ.size (.d (.scr ns)) = some ns.length := rfl
@[simp] theorem z_size_l {ns : List D} : Γ.size (.d (.lst ns)) = some ns.length := by
  show some (ns.map Val.d).length = _
  rw [List.length_map]
@[simp] theorem z_size_t {ns : List D} : Γ.size (.d (.tup ns)) = some ns.length := by
  show some (ns.map Val.d).length = _
  rw [List.length_map]
@[simp] theorem z_size_s {s : Str} : Γ.size (.d (.str s)) = if s.length ≤ sizeLine then some s.length else none := rfl
def sizeO : Shp → Option Nat
  | .L xs => some xs.length
  | .U xs => some xs.length
  | .M kvs => some kvs.length
  | .s (.str s) => if s.length ≤ sizeLine then some s.length else none
  | .s (.scr ns) => some ns.length
  | _ => none
@[simp] theorem z_sizeO_L {xs : List Val} : sizeO (.L xs) = some xs.length := rfl
@[simp] theorem z_sizeO_M {xs : List (Key × Val)} : sizeO (.M xs) = some xs.length := rfl
theorem size_shp {y : Val} : Γ.size y = sizeO (Γ.shp y) := by
  unfold Gam.size sizeO
  rfl
@[simp] theorem z_size_o {n : Nat} : Gam.size ⟨sl, st, lk⟩ (.own n) = sizeO (((st[n]?).map Cell.shp).getD (.s .non)) := by
  rw [size_shp, z_shp_o]
end
end L3

namespace L3
open PySem L2 PyProof.Rows
theorem cmulR {i j : Int} (h : -(2 ^ 64) < j) (h2 : j < 2 ^ 64) : CMul i j := .inr ⟨h, h2⟩
theorem cmulL {i j : Int} (h : -(2 ^ 64) < i) (h2 : i < 2 ^ 64) : CMul i j := .inl ⟨h, h2⟩
theorem v_law_take (Θ : Wh) : VOk (r_law_take Θ) 3 6 (sp_law_take Θ) := by
  rintro lk _ _ k x ⟨ns, p, many, rfl, rfl, ⟨⟨a, b, c, d, rfl, ha, hb, hc, hd, hd2⟩⟩, hm, hm2, K⟩
  refine ⟨rfl, ?_⟩
  unfold r_law_take
  refine sq fun M hM => ?_
  simp [poolC, List.replicate]
  apply hM; clear hM M
  refine sq fun M hM => ?_
  have J : ∀ (a b c d : Int) v, 0 ≤ a → 0 ≤ b → 0 ≤ c → 0 ≤ d → d < 1000000007 → M ⟨[some (.d (.scr ns)), some (.own 0), some (.d (.int many)), v, none, none], [poolC [a, b, c, d]], lk⟩ := fun a b c d v ha hb hc hd hd2 => by
    apply hM
    clear hM
    refine sq fun M hM => ?_
    by_cases hb0 : 0 < b
    · simp [poolC, hb0]
      refine sq fun M hM => ?_
      simp [hm]
      apply hM; clear hM
      refine sq fun M hM => ?_
      simp [CDiv, hm, hm2]
      apply hM; clear hM
      simp [endsOf, retK, trimC, Cell.ok, Val.ok]
      refine K _ [a, b / many, c, d] ⟨⟨_, _, _, _, rfl, ha, Int.ediv_nonneg (by omega) (by omega), hc, hd, hd2⟩⟩ (Int.emod_nonneg _ (by omega)) (Int.emod_lt_of_pos _ hm)
    · simp [poolC, hb0]
      apply hM; clear hM
      refine sq fun M hM => ?_
      simp
      refine ⟨cmulL (by decide) (by decide), cmulR (by decide) (by decide), ?_⟩
      apply hM; clear hM
      refine sq fun M hM => ?_
      have q1 := Int.emod_nonneg ((d + 7919 * c + 1) * 48271) (b := 2147483647) (by decide)
      have q2 := Int.emod_lt_of_pos ((d + 7919 * c + 1) * 48271) (b := 2147483647) (by decide)
      generalize ((d + 7919 * c + 1) * 48271) % 2147483647 = s at *
      simp [CDiv]
      refine ⟨cmulL (by omega) (by omega), ?_⟩
      apply hM; clear hM
      refine sq fun M hM => ?_
      have q3 := Int.emod_nonneg (s * (s / 1009 + 69621)) (b := 2147483629) (by decide)
      have q4 := Int.emod_lt_of_pos (s * (s / 1009 + 69621)) (b := 2147483629) (by decide)
      generalize (s * (s / 1009 + 69621)) % 2147483629 = s at *
      simp [CDiv]
      refine ⟨cmulL (by omega) (by omega), ?_⟩
      apply hM; clear hM
      simp [CDiv, hm, endsOf, retK, trimC, Cell.ok, Val.ok]
      exact K _ [a, b, c, d] ⟨⟨_, _, _, _, rfl, ha, hb, hc, hd, hd2⟩⟩ (Int.emod_nonneg _ (by omega)) (Int.emod_lt_of_pos _ hm)
  clear hM
  by_cases h1 : b = 0
  · by_cases h2 : a < ns.length
    · simp [h1, h2]
      refine sq fun M' hM => ?_
      simp
      obtain ⟨n, rfl⟩ := Int.eq_ofNat_of_zero_le ha
      have hn : n < ns.length := by omega
      have e : ns[n]? = some ns[n] := List.getElem?_eq_getElem hn
      simp [e]
      apply hM; clear hM M'
      refine sq fun M' hM => ?_
      simp
      apply hM; clear hM M'
      refine sq fun M' hM => ?_
      have J2 : ∀ v : Int, 0 ≤ v → M' ⟨[some (.d (.scr ns)), some (.own 0), some (.d (.int many)), some (.d (.int v)), none, none], [poolC [(n : Int) + 1, 0, c + 1, d]], lk⟩ := fun v hv => by
        apply hM; clear hM
        by_cases h4 : (1000000000000000000 : Int) ≤ v
        · simp [poolC, CPow, h4]
          exact J _ _ _ _ _ (by omega) hv (by omega) hd hd2
        · simp [poolC, CPow, h4]
          refine ⟨cmulR (by decide) (by decide), ?_⟩
          exact J _ _ _ _ _ (by omega) (by omega) (by omega) (Int.emod_nonneg _ (by omega)) (Int.emod_lt_of_pos _ (by omega))
      clear hM
      by_cases h4 : ns[n] < 0
      · simp [h4]
        exact J2 _ (by omega)
      · simp [h4]
        exact J2 _ (by omega)
    · have h3 : ¬ a < ns.length := h2
      simp [h1, h2]
      exact J _ _ _ _ _ ha (by omega) (by omega) hd hd2
  · simp [h1]
    exact J _ _ _ _ _ ha hb (by omega) hd hd2
end L3

namespace L3
open PySem L2 PyProof.Rows

/-! ### cells without cells in them -/
theorem val_ok0 {f : Nat → Nat} : ∀ {y : Val}, y.ok 0 = true → y.mp f = y ∧ (∀ p, y.all p = true) ∧ ∀ m, y.ok m = true
  | .d x, _ => ⟨rfl, fun _ => rfl, fun _ => rfl⟩
  | .own n, h => by simp [Val.ok] at h
theorem vals_ok0 {f : Nat → Nat} : ∀ {ys : List Val}, ys.all (Val.ok 0) = true → ys.map (Val.mp f) = ys ∧ (∀ p, ys.all (Val.all p) = true) ∧ ∀ m, ys.all (Val.ok m) = true
  | [], _ => ⟨rfl, fun _ => rfl, fun _ => rfl⟩
  | y :: ys, h => by
    replace h := allTwo h
    obtain ⟨a1, a2, a3⟩ := val_ok0 (f := f) h.1
    obtain ⟨b1, b2, b3⟩ := vals_ok0 (f := f) h.2
    exact ⟨by rw [List.map_cons, a1, b1], fun p => by rw [List.all_cons, a2, b2]; rfl, fun m => by rw [List.all_cons, a3, b3]; rfl⟩
theorem kvs_ok0 {κ : Type} {f : Nat → Nat} : ∀ {ys : List (κ × Val)}, (ys.all fun p => p.2.ok 0) = true → (ys.map fun p => (p.1, p.2.mp f)) = ys ∧ (∀ q, (ys.all fun p => p.2.all q) = true) ∧ ∀ m, (ys.all fun p => p.2.ok m) = true
  | [], _ => ⟨rfl, fun _ => rfl, fun _ => rfl⟩
  | y :: ys, h => by
    replace h := allTwo h
    obtain ⟨a1, a2, a3⟩ := val_ok0 (f := f) h.1
    obtain ⟨b1, b2, b3⟩ := kvs_ok0 (f := f) h.2
    exact ⟨by rw [List.map_cons, a1, b1], fun p => by rw [List.all_cons, a2, b2]; rfl, fun m => by rw [List.all_cons, a3, b3]; rfl⟩
theorem cell_ok0 {f : Nat → Nat} {c : Cell} (h : c.ok 0 = true) : c.mp f = c ∧ (∀ p, c.all p = true) ∧ ∀ m, c.ok m = true := by
  cases c with
  | L xs => obtain ⟨a, b, d⟩ := vals_ok0 (f := f) h; exact ⟨congrArg Cell.L a, b, d⟩
  | M xs => obtain ⟨a, b, d⟩ := kvs_ok0 (f := f) h; exact ⟨congrArg Cell.M a, b, d⟩
  | T xs => obtain ⟨a, b, d⟩ := kvs_ok0 (f := f) h; exact ⟨congrArg Cell.T a, b, d⟩
  | O C xs => obtain ⟨a, b, d⟩ := kvs_ok0 (f := f) h; exact ⟨congrArg (Cell.O C) a, b, d⟩
  | fz x => exact ⟨rfl, fun _ => rfl, fun _ => rfl⟩
  | no => exact ⟨rfl, fun _ => rfl, fun _ => rfl⟩
@[simp] theorem ok_pool {p : List Int} {m : Nat} : (poolC p).ok m = true := by
  unfold poolC
  show (List.map _ p).all (Val.ok m) = true
  rw [List.all_map, List.all_eq_true]
  intro x _
  rfl
theorem mp_pool {p : List Int} {f : Nat → Nat} : (poolC p).mp f = poolC p := (cell_ok0 ok_pool).1
@[simp] theorem ok_Ld {xs : List D} {m : Nat} : (Cell.L (xs.map .d)).ok m = true := by
  show (List.map _ xs).all (Val.ok m) = true
  rw [List.all_map, List.all_eq_true]
  intro x _
  rfl
theorem Flat.cons {c : Cell} {st : List Cell} (h : c.ok 0 = true) (f : Flat st) : Flat (c :: st) := fun d hd => (List.mem_cons.mp hd).elim (fun e => e ▸ h) (f d)
theorem Flat.nil : Flat [] := fun _ h => by cases h
theorem Flat.tail {c : Cell} {st : List Cell} (f : Flat (c :: st)) : Flat st := fun d hd => f d (List.mem_cons_of_mem _ hd)
theorem Flat.head {c : Cell} {st : List Cell} (f : Flat (c :: st)) : c.ok 0 = true := f c List.mem_cons_self
theorem Flat.append {st st' : List Cell} (f : Flat st) (g : Flat st') : Flat (st ++ st') := fun d hd => (List.mem_append.mp hd).elim (f d) (g d)
theorem Flat.left {st st' : List Cell} (f : Flat (st ++ st')) : Flat st := fun d hd => f d (List.mem_append_left _ hd)
theorem trimC_flat {m : Nat} : ∀ {st more : List Cell}, Flat st → trimC m st.length (st ++ more) = st
  | [], _, _ => rfl
  | c :: st, more, h => by
    show trimC m (st.length + 1) (c :: (st ++ more)) = _
    unfold trimC
    rw [if_pos ((cell_ok0 (f := id) h.head).2.2 m), trimC_flat h.tail]
theorem trimC_flat' {m : Nat} {st : List Cell} (h : Flat st) : trimC m st.length st = st := by
  have := trimC_flat (m := m) (more := []) h
  rwa [List.append_nil] at this
theorem Flat.set {st : List Cell} (f : Flat st) {n : Nat} {c : Cell} (h : c.ok 0 = true) : Flat (st.set n c) := fun d hd => by
  rcases List.mem_or_eq_of_mem_set hd with h1 | h1
  · exact f d h1
  · rw [h1]; exact h
/-! ### slots that hold data -/
@[simp] theorem trimS_nil {m : Nat} : trimS m [] = [] := rfl
@[simp] theorem trimS_d {m : Nat} {x : D} {r : List (Option Val)} : trimS m (some (.d x) :: r) = some (.d x) :: trimS m r := rfl
@[simp] theorem trimS_n {m : Nat} {r : List (Option Val)} : trimS m (none :: r) = none :: trimS m r := rfl
theorem trimS_o {m n : Nat} (h : n < m) {r : List (Option Val)} : trimS m (some (.own n) :: r) = some (.own n) :: trimS m r := by
  show (if decide (n < m) = true then _ else _) :: _ = _
  rw [if_pos (decide_eq_true h)]
@[simp] theorem trimS_o' {m n : Nat} {r : List (Option Val)} : trimS m (some (.own n) :: r) = (if n < m then some (.own n) else none) :: trimS m r := by
  by_cases h : n < m
  · rw [trimS_o h, if_pos h]
  · show (if decide (n < m) = true then _ else _) :: _ = _
    rw [if_neg (by simpa using h), if_neg h]
/-- a slot with data, or empty -/
def fr (o : Option D) : Option Val := o.map .d
@[simp] theorem trimS_fr {m : Nat} {o : Option D} {r : List (Option Val)} : trimS m (fr o :: r) = fr o :: trimS m r := by cases o <;> rfl
@[simp] theorem fr_some {x : D} : fr (some x) = some (.d x) := rfl
@[simp] theorem fr_none : fr none = none := rfl
@[simp] theorem z_trim {Γ : Gam} {m : Nat} : Γ.trim m = ⟨trimS m Γ.sl, trimC m m Γ.st, Γ.lk⟩ := rfl

/-! ### calls that hand over cells without cells -/
section
variable {sp : VSp} {ys : List Val} {sl : List (Option Val)} {st : List Cell} {lk : Bool} {k : KE3} {x : XC}
theorem callW_flat (ix : List Nat) (nd : ix.Nodup) (hl : ∀ n, n ∈ ix → n < st.length) (fl : ∀ n, n ∈ ix → (st.getD n .no).ok 0 = true) (ar : ys.all (Val.all fun m => decide (m ∈ ix)) = true)
    (h : sp lk (ys.map (Val.mp (posIn ix))) (ix.map fun n => st.getD n .no) (fun y st' => k (y.mp (backN ix st.length)) ⟨sl, mergeSt (backN ix st.length) ix st' st, lk⟩) fun C fs st' => x C fs ⟨sl, mergeSt (backN ix st.length) ix st' st, lk⟩) : CallW sp ys ⟨sl, st, lk⟩ k x := by
  refine ⟨ix, ⟨nd, hl, fun n hn => (cell_ok0 (f := id) (fl n hn)).2.1 _, ar⟩, ?_⟩
  have e : handed ix st = ix.map fun n => st.getD n .no := by
    unfold handed
    refine List.map_congr_left fun n hn => ?_
    exact (cell_ok0 (fl n hn)).1
  show sp lk _ (handed ix st) _ _
  rw [e]
  exact h
theorem merge0 {f : Nat → Nat} {cs : List Cell} (h : Flat cs) : mergeSt f [] cs st = st ++ cs := by
  show st ++ cs.map (Cell.mp f) = _
  have : cs.map (Cell.mp f) = cs := by
    rw [List.map_congr_left (g := id) fun c hc => (cell_ok0 (h c hc)).1, List.map_id]
  rw [this]
/-- nothing but data is handed over -/
theorem callW_d {ds : List D} (h : sp lk (ds.map .d) [] (fun y st' => k (y.mp (backN [] st.length)) ⟨sl, mergeSt (backN [] st.length) [] st' st, lk⟩) fun C fs st' => x C fs ⟨sl, mergeSt (backN [] st.length) [] st' st, lk⟩) : CallW sp (ds.map .d) ⟨sl, st, lk⟩ k x := by
  refine callW_flat [] List.nodup_nil (fun _ h => by cases h) (fun _ h => by cases h) ?_ ?_
  · rw [List.all_map, List.all_eq_true]
    intro _ _
    rfl
  · rw [List.map_map]
    exact h
theorem call_take {Θ : Wh} {ns : List Int} {many : Int} {n : Nat} {p : List Int} (hp : st[n]? = some (poolC p)) (ok : PoolOk p) (h0 : 0 < many) (h1 : many < 1073741824)
    (h : ∀ r p', PoolOk p' → 0 ≤ r → r < many → k (.d (.int r)) ⟨sl, st.set n (poolC p'), lk⟩) : CallW (sp_law_take Θ) [.d (.scr ns), .own n, .d (.int many)] ⟨sl, st, lk⟩ k x := by
  have e : st.getD n .no = poolC p := by rw [List.getD_eq_getElem?_getD, hp]; rfl
  refine callW_flat [n] (by simp) (fun m hm => ?_) (fun m hm => ?_) (by simp [Val.all]) ⟨ns, p, many, ?_, ?_, ok, h0, h1, fun r p' ok' a b => ?_⟩
  · rw [List.mem_singleton.mp hm]; exact (List.getElem?_eq_some_iff.mp hp).1
  · rw [List.mem_singleton.mp hm, e]; exact ok_pool
  · simp [Val.mp, posIn]
  · simp [hp]
  · have := h r p' ok' a b
    simpa [mergeSt, Val.mp, mp_pool] using this
end
/-! ### more readings for simp -/
section
variable {Γ : Gam} {k : KE3} {x : XC} {N : En} {sl : List (Option Val)} {st : List Cell} {lk : Bool}
@[simp] theorem z_andV {ra rb : RE} : rAndV ra rb Γ k x = ra Γ (fun y Γ1 => ∃ b, y = .d (.bl b) ∧ (if b = true then rb Γ1 k x else k (.d (.bl false)) Γ1)) x := rfl
@[simp] theorem z_orV {ra rb : RE} : rOrV ra rb Γ k x = ra Γ (fun y Γ1 => ∃ b, y = .d (.bl b) ∧ (if b = true then k (.d (.bl true)) Γ1 else rb Γ1 k x)) x := rfl
@[simp] theorem z_notV {ra : RE} : rNotV ra Γ k x = ra Γ (fun y Γ1 => ∃ b, y = .d (.bl b) ∧ k (.d (.bl (!b))) Γ1) x := rfl
@[simp] theorem z_chain {rr rr'} {ra rb rc : RE} : rChain rr rr' ra rb rc Γ k x = ra Γ (fun y Γ1 => rb Γ1 (fun z Γ2 => rr y z Γ2 fun q Γ3 => ∃ b, q = .d (.bl b) ∧ (if b = true then rc Γ3 (fun u Γ4 => rr' z u Γ4 k) x else k (.d (.bl false)) Γ3)) x) x := rfl
@[simp] theorem z_lc {o : Bool} {ri : RI} {rg : RG} {rt : RT} {re : RE} {vs : List Nat} : rLc o ri rg rt re vs Γ k x = ri Γ (fun n item ok Γ1 => LcW rg rt re vs n item ok Γ1 (putLc o k)) x := rfl
@[simp] theorem z_yes {k : Bool → Gam → Prop} : rtYes Γ k x = k true Γ := rfl
theorem z_all {xs : List D} {bs : List Bool} (h : xs = bs.map .bl) (hk : k (.d (.bl (bs.all id))) Γ) : rAll3 [.d (.lst xs)] Γ k := ⟨_, xs, bs, rfl, by rw [h]; exact dvals_map _, by rw [h]; exact bools_map bs, hk⟩
end
@[simp] theorem z_sizeLine : sizeLine = 16777216 := sizeLine_eq
/-! ### equality and membership -/
theorem strOk_flat {x : Str} (h : PyData.strOk x = true) : (D.str x).eqOk = true := by
  unfold D.eqOk
  show (PyData.strOk x && _) = true
  rw [h]
  rfl
@[simp] theorem z_eqv_s {a b : Str} : D.eqv (.str a) (.str b) = decide (a = b) := by
  show (a == b) = _
  by_cases h : a = b <;> simp [h]
theorem eqv_tp {p q : Str × Str} : D.eqv (tp p) (tp q) = decide (p = q) := by
  show (p.1 == q.1 && (p.2 == q.2 && true)) = _
  obtain ⟨a, b⟩ := p
  obtain ⟨c, d⟩ := q
  by_cases h1 : a = c <;> by_cases h2 : b = d <;> simp [h1, h2]
theorem flats_sD : ∀ {l : List Str}, (∀ x, x ∈ l → PyData.strOk x = true) → D.flats (sD l) = true
  | [], _ => rfl
  | x :: l, h => by
    show (PyData.strOk x && D.flats (sD l)) = true
    rw [h x List.mem_cons_self, flats_sD fun y hy => h y (List.mem_cons_of_mem _ hy)]
    rfl
theorem depth_sD : ∀ l : List Str, PyData.depthAll (D.pys (sD l)) = 0
  | [] => by simp [sD, D.pys, PyData.depthAll]
  | x :: l => by
    show PyData.depthAll (PyData.str x :: D.pys (sD l)) = 0
    rw [PyData.depthAll, depth_sD l]
    simp [PyData.depth]
theorem eqOk_sD {l : List Str} (h : ∀ x, x ∈ l → PyData.strOk x = true) : (D.lst (sD l)).eqOk = true := by
  unfold D.eqOk
  show (D.flats (sD l) && decide ((PyData.list (D.pys (sD l))).depth ≤ 64)) = true
  rw [flats_sD h, PyData.depth, depth_sD]
  rfl
def PairsOk (l : List (Str × Str)) : Prop := ∀ p, p ∈ l → PyData.strOk p.1 = true ∧ PyData.strOk p.2 = true
theorem eqOk_tp {p : Str × Str} (h : PyData.strOk p.1 = true ∧ PyData.strOk p.2 = true) : (tp p).eqOk = true := by
  unfold D.eqOk
  show ((PyData.strOk p.1 && (PyData.strOk p.2 && true)) && decide ((PyData.tuple [PyData.str p.1, PyData.str p.2]).depth ≤ 64)) = true
  rw [h.1, h.2]
  simp [PyData.depth, PyData.depthAll]
theorem flats_tpD : ∀ {l : List (Str × Str)}, PairsOk l → D.flats (tpD l) = true
  | [], _ => rfl
  | p :: l, h => by
    have := h p List.mem_cons_self
    show ((PyData.strOk p.1 && (PyData.strOk p.2 && true)) && D.flats (tpD l)) = true
    rw [this.1, this.2, flats_tpD fun y hy => h y (List.mem_cons_of_mem _ hy)]
    rfl
theorem depth_tpD : ∀ l : List (Str × Str), PyData.depthAll (D.pys (tpD l)) ≤ 1
  | [] => by simp [tpD, D.pys, PyData.depthAll]
  | p :: l => by
    have := depth_tpD l
    show PyData.depthAll (PyData.tuple [PyData.str p.1, PyData.str p.2] :: D.pys (tpD l)) ≤ 1
    rw [PyData.depthAll]
    simp [PyData.depth, PyData.depthAll]
    omega
theorem eqOk_tpD {l : List (Str × Str)} (h : PairsOk l) : (D.lst (tpD l)).eqOk = true := by
  unfold D.eqOk
  have := depth_tpD l
  show (D.flats (tpD l) && decide ((PyData.list (D.pys (tpD l))).depth ≤ 64)) = true
  rw [flats_tpD h, PyData.depth]
  simp
  omega
theorem has_sD {Γ : Gam} {z : Val} {l : List Str} {a : Str} (e : Γ.dl z = some (sD l)) (ha : PyData.strOk a = true) (h : ∀ x, x ∈ l → PyData.strOk x = true) : Γ.has (.d (.str a)) z (decide (a ∈ l)) := by
  refine .inl ⟨.str a, sD l, rfl, e, strOk_flat ha, eqOk_sD h, ?_⟩
  unfold sD
  rw [List.any_map]
  rw [Bool.eq_iff_iff]
  simp [List.any_eq_true]
theorem has_tpD {Γ : Gam} {z : Val} {l : List (Str × Str)} {a : Str × Str} (e : Γ.dl z = some (tpD l)) (ha : PyData.strOk a.1 = true ∧ PyData.strOk a.2 = true) (h : PairsOk l) : Γ.has (.d (tp a)) z (decide (a ∈ l)) := by
  refine .inl ⟨tp a, tpD l, rfl, e, eqOk_tp ha, eqOk_tpD h, ?_⟩
  unfold tpD
  rw [List.any_map, Bool.eq_iff_iff, List.any_eq_true, decide_eq_true_iff]
  constructor
  · intro h
    exact ⟨a, h, by show D.eqv (tp a) (tp a) = true; rw [eqv_tp]; simp⟩
  · rintro ⟨b, hb, e⟩
    have e' : D.eqv (tp b) (tp a) = true := e
    rw [eqv_tp, decide_eq_true_iff] at e'
    exact e' ▸ hb
theorem has_sign {Γ : Gam} {c : Nat} {t : Str} : Γ.has (.d (.str ⟨#[c]⟩)) (.d (.str t)) (decide (c ∈ t.cps.toList)) := .inr (.inr ⟨c, t, rfl, rfl, rfl⟩)
theorem isName_size {x : Str} (h : isName x = true) : 1 ≤ x.cps.size ∧ x.cps.size ≤ 8 := by
  unfold isName at h
  simpa using (Bool.and_eq_true_iff.mp h).1
theorem letters_lt : ∀ c ∈ letters.cps.toList, c < 0x110000 := by decide +kernel
theorem isName_ok {x : Str} (h : isName x = true) : PyData.strOk x = true := by
  unfold isName at h
  simp only [Bool.and_eq_true, List.all_eq_true, decide_eq_true_iff] at h
  unfold PyData.strOk
  rw [Array.all_eq_true_iff_forall_mem]
  intro c hc
  exact decide_eq_true (letters_lt c (h.2 c (by simpa using hc)))
/-! ### the functions -/
theorem len_size (s : Str) : s.length = s.cps.size := rfl
theorem v_is_name (Θ : Wh) : VOk (r_is_name Θ) 1 2 (sp_is_name Θ) := by
  rintro lk _ _ k x ⟨w, rfl, rfl, hl, K⟩
  refine ⟨rfl, ?_⟩
  unfold r_is_name
  have hl' : w.cps.size ≤ 16777216 := by have := hl; rw [z_sizeLine] at this; exact this
  have e1 : ((w.length : Nat) : Int) = (w.cps.size : Int) := rfl
  by_cases h1 : w.cps.size < 1
  · have : isName w = false := by unfold isName; simp; omega
    rw [this] at K
    simp [hl', len_size, List.replicate, endsOf, retK, trimC]
    exact .inl ⟨by omega, K⟩
  by_cases h2 : 8 < w.cps.size
  · have : isName w = false := by unfold isName; simp; omega
    rw [this] at K
    simp [hl', len_size, List.replicate, endsOf, retK, trimC]
    exact .inr ⟨by omega, .inl ⟨by omega, K⟩⟩
  simp [hl', len_size, List.replicate, endsOf, retK, trimC]
  refine .inr ⟨by omega, .inr ⟨by omega, ?_⟩⟩
  refine ⟨fun i acc st => st = [] ∧ acc = ((w.cps.toList.take i).map fun c => decide (c ∈ letters.cps.toList)).map .bl, ⟨rfl, rfl⟩, ?_, ?_, ?_⟩
  · rintro i acc st hi ⟨rfl, rfl⟩
    refine ⟨trivial, ?_⟩
    rw [List.length_map, List.length_map, List.length_take, z_sizeLine]
    omega
  · rintro i acc st hi ⟨rfl, rfl⟩
    have e : w.cps.toList[i]? = some w.cps[i] := by simp [hi]
    simp [wipeS, hi]
    refine in_go has_sign ⟨_, rfl, rfl, ?_⟩
    rw [List.take_succ, List.getElem?_map, e]
    simp [letters]
    congr
  · rintro acc st ⟨rfl, rfl⟩
    rw [List.take_of_length_le (i := w.cps.size) (by simp)]
    refine ⟨_, by show (dvals _).map _ = _; rw [dvals_map]; rfl, z_all rfl ?_⟩
    have : isName w = ((w.cps.toList.map fun c => decide (c ∈ letters.cps.toList)).all id) := by
      unfold isName
      rw [List.all_map]
      simp only [show (1 ≤ w.cps.size) from by omega, show (w.cps.size ≤ 8) from by omega, decide_true, Bool.true_and]
      rfl
    rw [this] at K
    exact K
theorem v_pair_of (Θ : Wh) : VOk (r_pair_of Θ) 2 2 (sp_pair_of Θ) := by
  rintro lk _ _ k x ⟨a, b, rfl, rfl, K⟩
  refine ⟨rfl, ?_⟩
  unfold r_pair_of
  refine sq fun M hM => ?_
  by_cases h : sLt b a = true
  · simp [h, pairOf, tp, endsOf, retK, trimC, dvals] at K ⊢
    exact K
  · simp [h]
    apply hM
    simp [h, pairOf, tp, endsOf, retK, trimC, dvals] at K ⊢
    exact K
end L3

namespace L3
open PySem L2 PyProof.Rows
section
variable {Γ : Gam} {k : KE3} {x : XC} {N : En} {sl : List (Option Val)} {st : List Cell} {lk lk' : Bool} {ys zs : List Val}
/-! ### what dlS tells -/
theorem dl_lk : Gam.dl ⟨sl, st, lk⟩ y = dlS st y := by
  cases y <;> rfl
theorem dlS_d {xs : List D} : dlS st (.d (.lst xs)) = some xs := dvals_map xs
/-- the data of a list: frozen, or of an owned cell -/
theorem dlS_cases {y : Val} {xs : List D} (h : dlS st y = some xs) : y = .d (.lst xs) ∨ ∃ n, y = .own n ∧ (st[n]? = some (.L (xs.map .d)) ∨ st[n]? = some (.fz (.lst xs))) := by
  cases y with
  | d x =>
    refine .inl ?_
    unfold dlS Gam.dl at h
    rw [z_shp_d] at h
    cases x with
    | lst zs =>
      rw [z_dshp_l] at h
      simp at h
      rw [h]
    | _ => cases h
  | own n =>
    refine .inr ⟨n, rfl, ?_⟩
    unfold dlS Gam.dl at h
    rw [z_shp_o] at h
    cases e : st[n]? with
    | none => simp [e] at h
    | some c =>
      rw [e] at h
      cases c with
      | L zs => exact .inl (by rw [dvals_eq (show dvals zs = some xs from h)])
      | fz x =>
        cases x with
        | lst zs =>
          have h' : dvals (zs.map .d) = some xs := h
          rw [dvals_map] at h'
          cases h'
          exact .inr rfl
        | _ => cases h
      | _ => cases h
theorem dlS_shp {y : Val} {xs : List D} (h : dlS st y = some xs) : Gam.shp ⟨sl, st, lk⟩ y = .L (xs.map .d) := by
  rcases dlS_cases h with rfl | ⟨n, rfl, e | e⟩
  · rfl
  · rw [z_shp_o, e]; rfl
  · rw [z_shp_o, e]; rfl
theorem dlS_dv {y : Val} {xs : List D} (h : dlS st y = some xs) : Gam.dv ⟨sl, st, lk⟩ y = some (.lst xs) := by
  rcases dlS_cases h with rfl | ⟨n, rfl, e | e⟩
  · rfl
  · rw [z_dv_o, e]; show (dvals _).map _ = _; rw [dvals_map]; rfl
  · rw [z_dv_o, e]; rfl
theorem dlS_size {y : Val} {xs : List D} (h : dlS st y = some xs) : Gam.size ⟨sl, st, lk⟩ y = some xs.length := by
  rw [size_shp, dlS_shp h]
  show some (xs.map Val.d).length = _
  rw [List.length_map]
theorem dlS_items {y : Val} {xs : List D} (h : dlS st y = some xs) : Gam.items ⟨sl, st, lk⟩ y = some (xs.map .d) := by
  unfold Gam.items
  rw [dlS_shp h]
theorem dlS_kind {y : Val} {xs : List D} (h : dlS st y = some xs) : Gam.kind ⟨sl, st, lk⟩ y = some "list" := by
  unfold Gam.kind
  rw [dlS_shp h]
theorem dlS_item {y : Val} {xs : List D} (h : dlS st y = some xs) {i : Nat} {q : D} (e : xs[i]? = some q) : Gam.item ⟨sl, st, lk⟩ y (.d (.int i)) (.d q) := it_L (dlS_shp h) (by rw [z_atIn, List.getElem?_map, e]; rfl)
theorem dlS_more {y : Val} {xs : List D} (h : dlS st y = some xs) (more : List Cell) : dlS (st ++ more) y = some xs := by
  rcases dlS_cases h with rfl | ⟨n, rfl, e | e⟩
  · exact dlS_d
  all_goals
    unfold dlS Gam.dl
    rw [z_shp_o, List.getElem?_append_left (List.getElem?_eq_some_iff.mp e).1, e]
    exact dvals_map xs
theorem dlS_ne {y : Val} {xs : List D} {n : Nat} {c d : Cell} (h : dlS st y = some xs) (hc : st[n]? = some c) (nl : ∀ xs, c ≠ .L xs) (nf : ∀ x, c ≠ .fz x) : dlS (st.set n d) y = some xs := by
  rcases dlS_cases h with rfl | ⟨m, rfl, e | e⟩
  · exact dlS_d
  all_goals
    have hm : n ≠ m := fun z => by
      subst z
      rw [hc] at e
      cases e
      first | exact nl _ rfl | exact nf _ rfl
    unfold dlS Gam.dl
    rw [z_shp_o, List.getElem?_set_ne hm, e]
    exact dvals_map xs
/-! ### isinstance, list(..) -/
theorem isi_go {y : Val} {t T : String} {b : Bool} (h : Γ.kind y = some t) (hT : T ∈ ["list", "tuple", "dict", "bool", "int", "str"]) (hb : isK t T = b) (hk : k (.d (.bl b)) Γ) : rIsi3 [y, .d (.ty T)] Γ k := ⟨y, T, t, rfl, h, hT, by rw [hb]; exact hk⟩
theorem isi_yes {y : Val} {t : String} (h : Γ.kind y = some t) (hT : t ∈ ["list", "tuple", "dict", "bool", "int", "str"]) (hk : k (.d (.bl true)) Γ) : rIsi3 [y, .d (.ty t)] Γ k := ⟨y, t, t, rfl, h, hT, by unfold isK; rw [beq_self_eq_true, Bool.true_or]; exact hk⟩
@[simp] theorem z_tru_b {b : Bool} : Γ.tru (.d (.bl b)) = some b := rfl
theorem dlS_ok {y : Val} {xs : List D} (h : dlS st y = some xs) : y.ok st.length = true := by
  rcases dlS_cases h with rfl | ⟨n, rfl, e | e⟩
  · rfl
  all_goals exact decide_eq_true (List.getElem?_eq_some_iff.mp e).1
theorem trimS_v {m : Nat} {y : Val} {r : List (Option Val)} (h : y.ok m = true) : trimS m (some y :: r) = some y :: trimS m r := by
  show (if y.ok m = true then _ else _) :: _ = _
  rw [if_pos h]
theorem list_go {o : Bool} {y : Val} {xs : List Val} (h : Γ.items y = some xs) (hk : Γ.put o (.L xs) k) : rList o [y] Γ k := ⟨y, xs, rfl, h, hk⟩
end

@[simp] theorem z_dvals_c {x : D} {r : List Val} : dvals (.d x :: r) = (dvals r).map (x :: ·) := rfl
/-- a state, told whole -/
def Is (Γ Γ' : Gam) : Prop := Γ = Γ'
theorem Is.r {Γ : Gam} : Is Γ Γ := rfl
theorem sLt_irrefl (a : Str) : sLt a a = false := by
  unfold sLt
  exact decide_eq_false (List.lt_irrefl _)
theorem sLt_asymm {a b : Str} (h : sLt a b = true) : sLt b a = false := by
  unfold sLt at *
  have h := of_decide_eq_true h
  exact decide_eq_false (List.lt_asymm h)
theorem sLt_total {a b : Str} (h : a ≠ b) (h1 : sLt a b = false) : sLt b a = true := by
  unfold sLt at *
  have h1 := of_decide_eq_false h1
  refine decide_eq_true ?_
  rcases Decidable.em (b.cps.toList < a.cps.toList) with z | z
  · exact z
  · exfalso
    have : a.cps.toList = b.cps.toList := List.le_antisymm (List.not_lt.mp z) (List.not_lt.mp h1)
    exact h (PySem.W.str_of_cps this)
theorem v_law_pair (Θ : Wh) : VOk (r_law_pair Θ) 2 2 (sp_law_pair Θ) := by
  rintro lk _ _ k x ⟨a, b, rfl, rfl, hne, K⟩
  refine ⟨rfl, ?_⟩
  unfold r_law_pair
  refine sq fun M hM => ?_
  by_cases h : sLt a b = true
  · have h2 := sLt_asymm h
    simp [h, h2, pairOf, tp, endsOf, retK, trimC, dvals] at K ⊢
    exact K
  · have h2 := sLt_total hne (by simpa using h)
    simp [h]
    apply hM
    simp [h2, pairOf, tp, endsOf, retK, trimC, dvals] at K ⊢
    exact K
theorem v_law_same_texts (Θ : Wh) : VOk (r_law_same_texts Θ) 2 3 (sp_law_same_texts Θ) := by
  rintro lk _ cells k x ⟨y, z, xs, rfl, hy, hz, hok, hlen, hfl, K⟩
  refine ⟨rfl, ?_⟩
  unfold r_law_same_texts
  refine sq fun M hM => ?_
  simp [List.replicate]
  refine isi_yes (dlS_kind hy) (by decide) ?_
  simp [dlS_size hy, dlS_size hz]
  apply hM; clear hM
  refine sq fun M hM => ?_
  have hs : (sD xs).length = xs.length := by simp [sD]
  simp [dlS_size hz, hs]
  refine ⟨by omega, ?_⟩
  refine ⟨fun i Γ => ∃ v, Is Γ ⟨[some y, some z, fr v], cells, lk⟩, ⟨none, .r⟩, fun _ _ _ _ => trivial, ?_, ?_⟩
  · rintro i _ hi ⟨v, h⟩
    cases h
    have e : (sD xs)[i]? = some (.str xs[i]) := by unfold sD; rw [List.getElem?_map, List.getElem?_eq_getElem hi]; rfl
    have o := hok xs[i] (List.getElem_mem _)
    simp
    refine ⟨_, dlS_item hy e, isi_yes rfl (by decide) ?_⟩
    simp
    refine ⟨_, dlS_item hy e, _, dlS_item hz e, ?_⟩
    simp [strOk_flat o]
    rw [trimS_v (dlS_ok hy), trimS_v (dlS_ok hz), trimC_flat' hfl]
    exact ⟨some (.int i), .r⟩
  · rintro _ ⟨v, h⟩
    cases h
    apply hM
    simp [endsOf, retK, trimC_flat' hfl]
    exact K
theorem call_same_texts {Θ : Wh} {sl : List (Option Val)} {st : List Cell} {lk : Bool} {k : KE3} {x : XC} {xs : List Str} (hok : ∀ x, x ∈ xs → PyData.strOk x = true) (hl : xs.length ≤ 1000000) (h : k (.d (.bl true)) ⟨sl, st, lk⟩) : CallW (sp_law_same_texts Θ) [.d (.lst (sD xs)), .d (.lst (sD xs))] ⟨sl, st, lk⟩ k x := by
  refine callW_d (ds := [.lst (sD xs), .lst (sD xs)]) ⟨_, _, xs, rfl, dlS_d, dlS_d, hok, hl, Flat.nil, ?_⟩
  simpa [Val.mp, mergeSt] using h
theorem v_law_same_pairs (Θ : Wh) : VOk (r_law_same_pairs Θ) 2 3 (sp_law_same_pairs Θ) := by
  rintro lk _ cells k x ⟨y, z, xs, rfl, hy, hz, hok, hlen, hfl, K⟩
  refine ⟨rfl, ?_⟩
  unfold r_law_same_pairs
  refine sq fun M hM => ?_
  simp [List.replicate]
  refine isi_yes (dlS_kind hy) (by decide) ?_
  simp [dlS_size hy, dlS_size hz]
  apply hM; clear hM
  refine sq fun M hM => ?_
  have hs : (tpD xs).length = xs.length := by simp [tpD]
  simp [dlS_size hz, hs]
  refine ⟨by omega, ?_⟩
  refine ⟨fun i Γ => ∃ v, Is Γ ⟨[some y, some z, fr v], cells, lk⟩, ⟨none, .r⟩, fun _ _ _ _ => trivial, ?_, ?_⟩
  · rintro i _ hi ⟨v, h⟩
    cases h
    have e : (tpD xs)[i]? = some (tp xs[i]) := by unfold tpD; rw [List.getElem?_map, List.getElem?_eq_getElem hi]; rfl
    have o := hok xs[i] (List.getElem_mem _)
    simp
    refine ⟨_, dlS_item hy e, isi_yes rfl (by decide) ?_⟩
    simp
    refine ⟨_, dlS_item hy e, list_go rfl ?_⟩
    simp [tp]
    refine ⟨_, dlS_item hz e, list_go rfl ?_⟩
    simp [tp, dvals]
    refine call_same_texts (xs := [xs[i].1, xs[i].2]) (fun x hx => ?_) (by simp) ?_
    · simp at hx
      rcases hx with rfl | rfl
      · exact o.1
      · exact o.2
    simp
    rw [trimS_v (dlS_ok hy), trimS_v (dlS_ok hz), trimC_flat' hfl]
    exact ⟨some (.int i), .r⟩
  · rintro _ ⟨v, h⟩
    cases h
    apply hM
    simp [endsOf, retK, trimC_flat' hfl]
    exact K
/-! ### shuffling -/
@[simp] theorem z_list {o : Bool} {y : Val} {Γ : Gam} {k : KE3} : rList o [y] Γ k = ∃ xs, Γ.items y = some xs ∧ Γ.put o (.L xs) k := propext ⟨fun ⟨y', xs, e, h1, h2⟩ => by cases e; exact ⟨xs, h1, h2⟩, fun ⟨xs, h1, h2⟩ => ⟨y, xs, rfl, h1, h2⟩⟩
theorem Val.ok_le {m n : Nat} : ∀ {y : Val}, y.ok m = true → m ≤ n → y.ok n = true
  | .d _, _, _ => rfl
  | .own _, h, hl => decide_eq_true (Nat.lt_of_lt_of_le (of_decide_eq_true h) hl)
theorem erase_map {α β : Type} (f : α → β) : ∀ (l : List α) (j : Nat), (l.map f).eraseIdx j = (l.eraseIdx j).map f
  | [], _ => rfl
  | _ :: _, 0 => rfl
  | a :: l, j + 1 => by
    show f a :: (l.map f).eraseIdx j = f a :: (l.eraseIdx j).map f
    rw [erase_map f l j]
theorem erase_perm {α : Type} : ∀ {l : List α} {j : Nat} (h : j < l.length), (l[j] :: l.eraseIdx j).Perm l
  | [], _, h => by simp at h
  | a :: l, 0, _ => .refl _
  | a :: l, j + 1, h => by
    have h' : j < l.length := by simpa using h
    show (l[j] :: a :: l.eraseIdx j).Perm (a :: l)
    exact (List.Perm.swap _ _ _).trans ((erase_perm h').cons a)
theorem isT_L {Γ : Gam} {n : Nat} {xs : List Val} (h : Γ.st[n]? = some (.L xs)) : Γ.isT "list" (.own n) := by
  unfold Gam.isT Gam.shp
  simp only
  rw [h]
  first | exact rfl | trivial
theorem v_law_shuffled (Θ : Wh) : VOk (r_law_shuffled Θ) 3 6 (sp_law_shuffled Θ) := by
  rintro lk _ _ k x ⟨ns, p, things, y, rest, rfl, rfl, hfl, hy, hp, hlen, K⟩
  refine ⟨rfl, ?_⟩
  have hf : Flat (poolC p :: rest) := Flat.cons ok_pool hfl
  unfold r_law_shuffled
  refine sq fun M hM => ?_
  simp [List.replicate, dlS_items hy]
  apply hM; clear hM
  refine sq fun M hM => ?_
  simp
  apply hM; clear hM
  refine sq fun M hM => ?_
  have hy2 := dlS_more hy [.L (things.map .d), .L []]
  rw [List.cons_append] at hy2
  simp [dlS_size hy2]
  refine ⟨by omega, ?_⟩
  refine ⟨fun i Γ => ∃ v p', ∃ found left : List D, Is Γ ⟨[some (.d (.scr ns)), some (.own 0), some y, some (.own (rest.length + 1)), some (.own (rest.length + 1 + 1)), fr v], poolC p' :: (rest ++ [.L (left.map .d), .L (found.map .d)]), lk⟩ ∧ PoolOk p' ∧ (found ++ left).Perm things ∧ found.length = i, ?_, fun _ _ _ _ => trivial, ?_, ?_⟩
  · exact ⟨none, p, [], things, .r, hp, by simp, rfl⟩
  · rintro i _ hi ⟨v, p', found, left, h, hp', hperm, hfi⟩
    cases h
    have hl : found.length + left.length = things.length := by have := hperm.length_eq; simpa using this
    have eL : (poolC p' :: (rest ++ [Cell.L (left.map .d), .L (found.map .d)]))[rest.length + 1]? = some (.L (left.map .d)) := by simp
    have eF : (poolC p' :: (rest ++ [Cell.L (left.map .d), .L (found.map .d)]))[rest.length + 2]? = some (.L (found.map .d)) := by simp
    have hL : (0 : Int) < left.length := by omega
    simp
    refine ⟨isT_L eF, isT_L eL, call_take (p := p') rfl hp' hL (by omega) fun r p2 hp2 r0 r1 => ?_⟩
    obtain ⟨j, rfl⟩ := Int.eq_ofNat_of_zero_le r0
    have hj : j < left.length := by omega
    have ej : left[j]? = some left[j] := List.getElem?_eq_getElem hj
    refine ⟨rest.length + 1, left.map .d, .d left[j], j, j, rfl, rfl, by simp, by omega, by omega, ?_, by rw [List.getElem?_map, ej]; rfl, ?_⟩
    · rw [List.length_map]
      exact (ixN_seq (ixN_nat hj)).1
    refine ⟨found.map .d, by simp, by simp; omega, ?_⟩
    simp
    have eE : (left.map Val.d).eraseIdx j = (left.eraseIdx j).map .d := erase_map _ _ _
    have eA : found.map Val.d ++ [Val.d left[j]] = (found ++ [left[j]]).map .d := by rw [List.map_append]; rfl
    rw [eE, eA]
    have hX : Flat (poolC p2 :: (rest ++ [Cell.L ((left.eraseIdx j).map .d), Cell.L ((found ++ [left[j]]).map .d)])) := Flat.cons ok_pool (hfl.append (Flat.cons ok_Ld (Flat.cons ok_Ld Flat.nil)))
    have eX := trimC_flat' (m := rest.length + 2 + 1) hX
    have hXl : (poolC p2 :: (rest ++ [Cell.L ((left.eraseIdx j).map .d), Cell.L ((found ++ [left[j]]).map .d)])).length = rest.length + 2 + 1 := by simp
    rw [hXl] at eX
    rw [eX, trimS_v (Val.ok_le (dlS_ok hy) (by simp)), trimS_o (by omega), trimS_o (by omega), trimS_d, trimS_nil]
    refine ⟨some (.int i), p2, found ++ [left[j]], left.eraseIdx j, .r, hp2, ?_, by simp [hfi]⟩
    rw [List.append_assoc]
    exact (List.Perm.append_left found (erase_perm hj)).trans hperm
  · rintro _ ⟨v, p', found, left, h, hp', hperm, hfi⟩
    cases h
    apply hM
    have hl : found.length + left.length = things.length := by have := hperm.length_eq; simpa using this
    have : left = [] := List.eq_nil_of_length_eq_zero (by omega)
    subst this
    rw [List.append_nil] at hperm
    have e := trimC_flat (m := rest.length + 1) (more := [Cell.L [], Cell.L (found.map .d)]) (Flat.cons (ok_pool (p := p')) hfl)
    have e' : trimC (rest.length + 1) (rest.length + 1) (poolC p' :: (rest ++ [Cell.L [], Cell.L (found.map .d)])) = poolC p' :: rest := e
    simp [endsOf, retK, e']
    rw [if_neg (by omega)]
    exact K found p' hp' hperm
end L3

namespace L3
open PySem L2 PyProof.Rows
section
variable {Γ : Gam} {k : KE3} {x : XC} {N : En} {sl : List (Option Val)} {st : List Cell} {lk : Bool}
@[simp] theorem z_sl {o : Bool} {re : RE} {lo hi : RO} : rSl o re lo hi Γ k x = re Γ (fun y Γ1 => lo Γ1 (fun i Γ2 => hi Γ2 (fun j Γ3 => ∃ xs, Γ3.shp y = .L xs ∧ Γ3.put o (.L (cutW xs i j)) k) x) x) x := rfl
@[simp] theorem z_oN {k : Option Int → Gam → Prop} : roNone Γ k x = k none Γ := rfl
@[simp] theorem z_oS {re : RE} {k : Option Int → Gam → Prop} : roSome re Γ k x = re Γ (fun y Γ1 => ∃ i, y = .d (.int i) ∧ k (some i) Γ1) x := rfl
@[simp] theorem z_enum {ra : RA} {k : KI} : riEnum ra Γ k x = ra Γ (fun ys Γ1 => ∃ y ds, ys = [y] ∧ Γ1.dl y = some ds ∧ k ds.length (fun i => .d (.tup [.int i, ds.getD i .non])) (fun Γ2 => Γ2.dl y = some ds) Γ1) x := rfl
theorem cut_to {α : Type} {xs : List α} {i : Nat} (h : i ≤ xs.length) : cutW xs none (some (i : Int)) = xs.take i := by
  unfold cutW
  rw [HT.sIx_none, HT.sIx_nat, Nat.min_eq_left h, Nat.sub_zero, List.drop_zero]
theorem cut_sD {l : List Str} {i : Nat} (h : i ≤ l.length) : cutW ((sD l).map Val.d) none (some (i : Int)) = (sD (l.take i)).map .d := by
  rw [cut_to (by simpa [sD] using h)]
  unfold sD
  rw [List.map_take, List.map_take]
end
theorem dl_more {sl : List (Option Val)} {st more : List Cell} {lk : Bool} {y : Val} {xs : List D} (h : dlS st y = some xs) : Gam.dl ⟨sl, st ++ more, lk⟩ y = some xs := by
  rw [dl_lk]
  exact dlS_more h _
theorem call_is_name {Θ : Wh} {sl : List (Option Val)} {st : List Cell} {lk : Bool} {k : KE3} {x : XC} {w : Str} (hl : w.length ≤ sizeLine) (h : k (.d (.bl (isName w))) ⟨sl, st, lk⟩) : CallW (sp_is_name Θ) [.d (.str w)] ⟨sl, st, lk⟩ k x := by
  refine callW_d (ds := [.str w]) ⟨w, rfl, rfl, hl, ?_⟩
  simpa [Val.mp, mergeSt] using h
theorem call_pair_of {Θ : Wh} {sl : List (Option Val)} {st : List Cell} {lk : Bool} {k : KE3} {x : XC} {a b : Str} (h : k (.d (tp (pairOf (a, b)))) ⟨sl, st, lk⟩) : CallW (sp_pair_of Θ) [.d (.str a), .d (.str b)] ⟨sl, st, lk⟩ k x := by
  refine callW_d (ds := [.str a, .str b]) ⟨a, b, rfl, rfl, ?_⟩
  simpa [Val.mp, mergeSt] using h
theorem v_check_houses (Θ : Wh) : VOk (r_check_houses Θ) 1 3 (sp_check_houses Θ) := by
  rintro lk _ cells k x ⟨y, names, rfl, hy, hfl, hok, K⟩
  refine ⟨rfl, ?_⟩
  have hs : (sD names).length = names.length := by simp [sD]
  have lo := hok.lo
  have hi := hok.hi
  unfold r_check_houses
  refine sq fun M hM => ?_
  simp [List.replicate, dlS_size hy, hs]
  refine two (by omega) (by omega) ?_
  apply hM; clear hM
  simp [dl_lk, hy, hs]
  refine ⟨fun i Γ => ∃ v w, Is Γ ⟨[some y, fr v, fr w], cells, lk⟩, ⟨none, none, .r⟩, ?_, ?_, ?_⟩
  · rintro i _ hi ⟨v, w, h⟩
    cases h
    rw [dl_lk, hy]
  · rintro i _ hi ⟨v, w, h⟩
    cases h
    have e : (sD names)[i]? = some (.str names[i]) := by unfold sD; rw [List.getElem?_map, List.getElem?_eq_getElem hi]; rfl
    have o := hok.ok names[i] (List.getElem_mem _)
    simp [e, dlS_shp hy]
    refine call_is_name ?_ ?_
    · have := (isName_size o).2
      rw [z_sizeLine, len_size]
      omega
    simp [o, dlS_shp hy, cut_sD (Nat.le_of_lt hi)]
    refine in_go (has_sD (l := names.take i) (dvals_map _) (isName_ok o) fun x hx => isName_ok (hok.ok x (List.mem_of_mem_take hx))) ?_
    have hn : names[i] ∉ names.take i := fun hm => by
      obtain ⟨j, hj, e2⟩ := List.mem_take_iff_getElem.mp hm
      have := (List.getElem_inj hok.nd).mp e2
      omega
    simp [hn]
    rw [trimS_v (dlS_ok hy), trimC_flat' hfl]
    exact ⟨some (.int i), some (.str names[i]), .r⟩
  · rintro _ ⟨v, w, h⟩
    cases h
    simp [endsOf, retK, trimC_flat' hfl]
    exact K

/-! ### dicts of what was seen -/
def seenT (l : List (Str × Str)) : Cell := .T (l.map fun p => ([.inr p.1, .inr p.2], .d (.bl true)))
def foundK (l : List Str) : Cell := .M (l.map fun x => (.inr x, .d (.bl true)))
theorem look_map {κ α β : Type} [DecidableEq κ] {f : β → κ} {g : β → α} (hf : ∀ a b, f a = f b → a = b) (p : β) : ∀ l : List β, (p ∈ l → look (l.map fun x => (f x, g x)) (f p) = some (g p)) ∧ (p ∉ l → look (l.map fun x => (f x, g x)) (f p) = none)
  | [] => ⟨fun h => (by cases h), fun _ => rfl⟩
  | b :: l => by
    have ih := look_map (g := g) hf p l
    by_cases e : f b = f p
    · have e' := hf _ _ e
      subst e'
      refine ⟨fun _ => ?_, fun h => absurd List.mem_cons_self h⟩
      unfold look
      rw [List.map_cons, List.find?_cons_of_pos (by simp)]
      rfl
    · have ne : p ≠ b := fun z => e (by rw [z])
      have : look ((b :: l).map fun x => (f x, g x)) (f p) = look (l.map fun x => (f x, g x)) (f p) := by
        unfold look
        rw [List.map_cons, List.find?_cons_of_neg (by simpa using e)]
      rw [this]
      exact ⟨fun h => ih.1 ((List.mem_cons.mp h).elim (fun z => absurd z ne) id), fun h => ih.2 fun z => h (List.mem_cons_of_mem _ z)⟩
theorem putD_new {κ β : Type} [DecidableEq κ] {f : β → κ} {g : β → Val} (hf : ∀ a b, f a = f b → a = b) {l : List β} {p : β} (h : p ∉ l) : putD (l.map fun x => (f x, g x)) (f p) (g p) = (l ++ [p]).map fun x => (f x, g x) := by
  unfold putD
  have : ((l.map fun x => (f x, g x)).any fun q => decide (q.1 = f p)) = false := by
    rw [List.any_map, List.any_eq_false]
    intro b hb e
    have e' : f b = f p := of_decide_eq_true e
    exact h (hf _ _ e' ▸ hb)
  rw [this, if_neg (by decide), List.map_append]
  rfl
theorem inj_T : ∀ a b : Str × Str, ([.inr a.1, .inr a.2] : List Key) = [.inr b.1, .inr b.2] → a = b := fun a b h => by
  obtain ⟨a1, a2⟩ := a
  obtain ⟨b1, b2⟩ := b
  injection h with h1 h2
  injection h2 with h2 _
  injection h1 with h1
  injection h2 with h2
  simp at h1 h2
  rw [h1, h2]
theorem inj_K : ∀ a b : Str, (.inr a : Key) = .inr b → a = b := fun a b h => by injection h
section
variable {Γ : Gam} {n : Nat}
theorem has_seen {l : List (Str × Str)} {p : Str × Str} (h : Γ.st[n]? = some (seenT l)) : Γ.has (.d (tp p)) (.own n) (decide (p ∈ l)) := by
  have e : Γ.dget (.own n) (.d (tp p)) = some (look (l.map fun p => (([.inr p.1, .inr p.2] : List Key), Val.d (.bl true))) [.inr p.1, .inr p.2]) := by
    unfold Gam.dget Gam.shp
    simp only
    rw [h]
    rfl
  refine .inr (.inl ⟨_, e, ?_⟩)
  have z := look_map (g := fun _ : Str × Str => Val.d (.bl true)) inj_T p l
  by_cases hp : p ∈ l
  · rw [z.1 hp, decide_eq_true hp]; rfl
  · rw [z.2 hp, decide_eq_false hp]; rfl
theorem st_seen {l : List (Str × Str)} {p : Str × Str} {k : Gam → Prop} (h : Γ.st[n]? = some (seenT l)) (hp : p ∉ l) (hl : l.length < 16777216) (hk : k { Γ with st := Γ.st.set n (seenT (l ++ [p])) }) : rSt3 (.own n) (.d (tp p)) (.d (.bl true)) Γ k := by
  refine ⟨n, rfl, .inr (.inr ⟨_, [.str p.1, .str p.2], [.inr p.1, .inr p.2], h, rfl, rfl, by rw [List.length_map, z_sizeLine]; exact hl, ?_⟩)⟩
  have := putD_new (g := fun _ : Str × Str => Val.d (.bl true)) inj_T hp
  rw [this]
  exact hk
theorem has_found {l : List Str} {p : Str} (h : Γ.st[n]? = some (foundK l)) : Γ.has (.d (.str p)) (.own n) (decide (p ∈ l)) := by
  have e : Γ.dget (.own n) (.d (.str p)) = some (look (l.map fun p => ((.inr p : Key), Val.d (.bl true))) (.inr p)) := by
    unfold Gam.dget Gam.shp
    simp only
    rw [h]
    rfl
  refine .inr (.inl ⟨_, e, ?_⟩)
  have z := look_map (g := fun _ : Str => Val.d (.bl true)) inj_K p l
  by_cases hp : p ∈ l
  · rw [z.1 hp, decide_eq_true hp]; rfl
  · rw [z.2 hp, decide_eq_false hp]; rfl
theorem st_found {l : List Str} {p : Str} {k : Gam → Prop} (h : Γ.st[n]? = some (foundK l)) (hp : p ∉ l) (hl : l.length < 16777216) (hk : k { Γ with st := Γ.st.set n (foundK (l ++ [p])) }) : rSt3 (.own n) (.d (.str p)) (.d (.bl true)) Γ k := by
  refine ⟨n, rfl, .inr (.inl ⟨_, .str p, .inr p, h, rfl, rfl, by rw [List.length_map, z_sizeLine]; exact hl, ?_⟩)⟩
  have := putD_new (g := fun _ : Str => Val.d (.bl true)) inj_K hp
  rw [this]
  exact hk
end
@[simp] theorem ok_seen {l : List (Str × Str)} {m : Nat} : (seenT l).ok m = true := by
  show (List.map _ l).all _ = true
  rw [List.all_map, List.all_eq_true]
  intro _ _
  rfl
@[simp] theorem ok_found {l : List Str} {m : Nat} : (foundK l).ok m = true := by
  show (List.map _ l).all _ = true
  rw [List.all_map, List.all_eq_true]
  intro _ _
  rfl
theorem links_ok {names : List Str} {links : List (Str × Str)} (h : NamesOk names) (hl : LinksOk names links) : PairsOk links := fun p hp => ⟨isName_ok (h.ok _ (hl.mem p hp).1), isName_ok (h.ok _ (hl.mem p hp).2.1)⟩
@[simp] theorem z_dnewT {Γ : Gam} {k : KE3} {x : XC} : rDnewT Γ k x = k (.own Γ.st.length) { Γ with st := Γ.st ++ [.T []] } := rfl
@[simp] theorem z_dnewK {Γ : Gam} {k : KE3} {x : XC} : rDnewK Γ k x = k (.own Γ.st.length) { Γ with st := Γ.st ++ [.M []] } := rfl
theorem v_check_links (Θ : Wh) : VOk (r_check_links Θ) 2 6 (sp_check_links Θ) := by
  rintro lk _ cells k x ⟨y, z, names, links, rfl, hy, hz, hfl, hok, hlk, K⟩
  refine ⟨rfl, ?_⟩
  have hs : (tpD links).length = links.length := by simp [tpD]
  have few := hlk.few
  unfold r_check_links
  refine sq fun M hM => ?_
  simp [List.replicate]
  apply hM; clear hM
  have hz2 := dlS_more hz [seenT []]
  have hz3 : dlS (cells ++ [Cell.T []]) z = some (tpD links) := hz2
  simp [dl_lk, hz3, hs]
  refine ⟨fun i Γ => ∃ v a b, Is Γ ⟨[some y, some z, some (.own cells.length), fr v, fr a, fr b], cells ++ [seenT ((links.take i).map pairOf)], lk⟩, ⟨none, none, none, .r⟩, ?_, ?_, ?_⟩
  · rintro i _ hi ⟨v, a, b, h⟩
    cases h
    rw [dl_lk, dlS_more hz]
  · rintro i _ hi ⟨v, a, b, h⟩
    cases h
    have e : (tpD links)[i]? = some (tp links[i]) := by unfold tpD; rw [List.getElem?_map, List.getElem?_eq_getElem hi]; rfl
    obtain ⟨m1, m2, m3⟩ := hlk.mem links[i] (List.getElem_mem _)
    have o1 := isName_ok (hok.ok _ m1)
    have o2 := isName_ok (hok.ok _ m2)
    have hyn : ∀ x, x ∈ names → PyData.strOk x = true := fun x hx => isName_ok (hok.ok x hx)
    have eC : (cells ++ [seenT ((links.take i).map pairOf)])[cells.length]? = some (seenT ((links.take i).map pairOf)) := by simp
    have hn : pairOf links[i] ∉ (links.take i).map pairOf := fun hm => by
      obtain ⟨q, hq, e2⟩ := inMap hm
      obtain ⟨j, hj, e3⟩ := List.mem_take_iff_getElem.mp hq
      have hj' : j < links.length := by omega
      have e4 : (links.map pairOf)[j]'(by simpa using hj') = (links.map pairOf)[i]'(by simpa using hi) := by
        rw [List.getElem_map, List.getElem_map, e3, e2]
      have := (List.getElem_inj hlk.dj).mp e4
      omega
    have eT : (links.map pairOf).take (i + 1) = (links.map pairOf).take i ++ [pairOf links[i]] := by
      rw [List.take_succ, List.getElem?_map, List.getElem?_eq_getElem hi]
      rfl
    rw [List.map_take] at eC hn
    have hX : Flat (cells ++ [seenT ((links.map pairOf).take i ++ [pairOf links[i]])]) := hfl.append (Flat.cons ok_seen Flat.nil)
    have eX := trimC_flat' (m := cells.length + 1) hX
    have hXl : (cells ++ [seenT ((links.map pairOf).take i ++ [pairOf links[i]])]).length = cells.length + 1 := by simp
    rw [hXl] at eX
    simp [e, tp]
    refine sq fun M2 hM2 => ?_
    simp
    refine notin_go (has_sD (l := names) (dl_more hy) o1 hyn) ?_
    simp [m1]
    refine notin_go (has_sD (l := names) (dl_more hy) o2 hyn) ?_
    simp [m2, strOk_flat o1, strOk_flat o2, m3]
    refine call_pair_of ?_
    simp
    refine in_go (has_seen eC) ?_
    simp [hn]
    apply hM2; clear hM2
    simp
    refine call_pair_of ?_
    try simp
    refine st_seen eC hn (by simp; omega) ?_
    simp [eX, eT]
    rw [trimS_v (Val.ok_le (dlS_ok hy) (by omega)), trimS_v (Val.ok_le (dlS_ok hz) (by omega)), trimS_o (by omega)]
    exact ⟨some (.int i), some (.str _), some (.str _), .r⟩
  · rintro _ ⟨v, a, b, h⟩
    cases h
    simp [endsOf, trimC_flat hfl]
    exact K
end L3

namespace L3
open PySem L2 PyProof.Rows
/-! ### sorting -/
theorem leD_s (a b : Str) : leD (.str a) (.str b) = sLe a b := by
  unfold leD
  rw [PySem.W.dataLe_eq]
  show (!PySem.W.dataLt (.str b) (.str a)) = _
  rw [PySem.W.dataLt_str]
  rfl
theorem sort_sD (l : List Str) : (sD l).mergeSort leD = sD (sortS l) := by
  unfold sD sortS
  rw [List.map_mergeSort]
  intro a _ b _
  exact (leD_s a b).symm
theorem sort_tpD (l : List (Str × Str)) : (tpD l).mergeSort leD = tpD (sortP l) := by
  unfold tpD sortP
  rw [List.map_mergeSort]
  intro a _ b _
  rfl
theorem sortOk_sD {l : List Str} (h : ∀ x, x ∈ l → PyData.strOk x = true) (hl : l.length ≤ sizeLine) : SortOk (sD l) := by
  have key : ∀ d, d ∈ (sD l).map D.py → ∃ a, d = .str a := fun d hd => by
    obtain ⟨x, hx, rfl⟩ := List.mem_map.mp hd
    obtain ⟨a, _, rfl⟩ := inMap hx
    exact ⟨a, rfl⟩
  refine ⟨flats_sD h, fun d hd d' hd' => ?_, .inr fun d hd => ?_, fun x hx => ?_, by unfold sD; rw [List.length_map]; exact hl⟩
  · obtain ⟨a, rfl⟩ := key d hd
    obtain ⟨b, rfl⟩ := key d' hd'
    rfl
  · obtain ⟨a, rfl⟩ := key d hd
    exact ⟨(fun z => by cases z), fun xs z => by cases z⟩
  · obtain ⟨a, _, rfl⟩ := inMap hx
    show (PyData.str a).depth ≤ 60
    simp [PyData.depth]
theorem sortOk_tpD {l : List (Str × Str)} (h : PairsOk l) (hl : l.length ≤ sizeLine) : SortOk (tpD l) := by
  have key : ∀ d, d ∈ (tpD l).map D.py → ∃ a b, d = .tuple [.str a, .str b] := fun d hd => by
    obtain ⟨x, hx, rfl⟩ := List.mem_map.mp hd
    obtain ⟨a, _, rfl⟩ := inMap hx
    exact ⟨a.1, a.2, rfl⟩
  refine ⟨flats_tpD h, fun d hd d' hd' => ?_, .inl fun d hd => ?_, fun x hx => ?_, by unfold tpD; rw [List.length_map]; exact hl⟩
  · obtain ⟨a, b, rfl⟩ := key d hd
    obtain ⟨a', b', rfl⟩ := key d' hd'
    simp [PySem.W.alike, PySem.W.alikeAll]
  · obtain ⟨a, b, rfl⟩ := key d hd
    exact ⟨_, _, rfl⟩
  · obtain ⟨a, _, rfl⟩ := inMap hx
    show (PyData.tuple [.str a.1, .str a.2]).depth ≤ 60
    simp [PyData.depth, PyData.depthAll]
section
variable {Γ : Gam} {k : KE3} {x : XC} {N : En} {sl : List (Option Val)} {st : List Cell} {lk : Bool}
theorem sorted_go {o : Bool} {y : Val} {ds : List D} (h : Γ.dl y = some ds) (ok : SortOk ds) (hk : Γ.put o (.L ((ds.mergeSort leD).map .d)) k) : rSorted3 o [y] Γ k := ⟨y, ds, rfl, h, ok, hk⟩
theorem call_law_pair {Θ : Wh} {sl : List (Option Val)} {st : List Cell} {lk : Bool} {k : KE3} {x : XC} {a b : Str} (hn : a ≠ b) (h : k (.d (tp (pairOf (a, b)))) ⟨sl, st, lk⟩) : CallW (sp_law_pair Θ) [.d (.str a), .d (.str b)] ⟨sl, st, lk⟩ k x := by
  refine callW_d (ds := [.str a, .str b]) ⟨a, b, rfl, rfl, hn, ?_⟩
  simpa [Val.mp, mergeSt] using h
end
theorem pairOf_ok {p : Str × Str} (h : PyData.strOk p.1 = true ∧ PyData.strOk p.2 = true) : PyData.strOk (pairOf p).1 = true ∧ PyData.strOk (pairOf p).2 = true := by
  unfold pairOf
  split
  · exact ⟨h.2, h.1⟩
  · exact h
theorem v_law_pairs (Θ : Wh) : VOk (r_law_pairs Θ) 1 2 (sp_law_pairs Θ) := by
  rintro lk _ _ k x ⟨links, rfl, rfl, hok, hlen, K⟩
  refine ⟨rfl, ?_⟩
  have hs : (tpD links).length = links.length := by simp [tpD]
  unfold r_law_pairs
  simp [List.replicate, hs]
  refine ⟨fun i acc st => st = [] ∧ acc = tpD ((links.take i).map pairOf), ⟨rfl, rfl⟩, ?_, ?_, ?_⟩
  · rintro i acc st hi ⟨rfl, rfl⟩
    refine ⟨trivial, ?_⟩
    simp [tpD]
    omega
  · rintro i acc st hi ⟨rfl, rfl⟩
    have e : (tpD links)[i]? = some (tp links[i]) := by unfold tpD; rw [List.getElem?_map, List.getElem?_eq_getElem hi]; rfl
    obtain ⟨o1, o2, o3⟩ := hok links[i] (List.getElem_mem _)
    simp [wipeS, e, tp]
    refine call_law_pair o1 ?_
    refine ⟨_, rfl, by simp [Gam.back, trimC], ?_⟩
    rw [List.take_succ, List.getElem?_map, List.getElem?_eq_getElem hi]
    simp [tpD, tp]
  · rintro acc st ⟨rfl, rfl⟩
    rw [List.take_of_length_le (Nat.le_refl _)]
    refine ⟨.lst (tpD (links.map pairOf)), by show (dvals _).map _ = _; rw [dvals_map]; rfl, sorted_go (ds := tpD (links.map pairOf)) (dvals_map _) (sortOk_tpD (fun p hp => ?_) (by rw [List.length_map, z_sizeLine]; omega)) ?_⟩
    · obtain ⟨q, hq, rfl⟩ := List.mem_map.mp hp
      exact pairOf_ok (hok q hq).2
    rw [sort_tpD]
    simp [endsOf, retK, trimC]
    exact K
/-! ### what a Web tells -/
@[simp] theorem z_fld {K : PySem.W.Frag} {re : RE} {f : Str} {Γ : Gam} {k : KE3} {x : XC} : rFld K re f Γ k x = re Γ (fun y Γ1 => ∃ C fs q, Γ1.shp y = .O C fs ∧ Cls K C ∧ NoAttr K C f ∧ fs.lookup f = some q ∧ k q Γ1) x := rfl
theorem web_fld {Θ : Wh} (T : WebCls Θ) {names : List Str} {links : List (Str × Str)} {P : Val → Prop} {Γ : Gam} (h : P (.d (nearD names links))) : ∃ C fs q, Γ.shp (.d (webD Θ names links)) = .O C fs ∧ Cls Θ.K C ∧ NoAttr Θ.K C "_near" ∧ fs.lookup ("_near" : Str) = some q ∧ P q :=
  ⟨Θ.Web, _, _, rfl, T.cl, T.na, rfl, h⟩
theorem near_keys (names : List Str) (links : List (Str × Str)) : (nearK (nearL names links)).map (·.1) = (sortS names).map .inr := by
  unfold nearK nearL
  simp only [List.map_map]
  rfl
theorem v_Web_houses (Θ : Wh) (T : WebCls Θ) : VOk (r_Web_houses Θ) 1 1 (sp_Web_houses Θ) := by
  rintro lk _ _ k x ⟨names, links, rfl, rfl, hok, K⟩
  refine ⟨rfl, ?_⟩
  unfold r_Web_houses
  simp only [z_ret, z_cb, z_acons, z_anil, z_fld, z_var]
  refine ⟨_, rfl, web_fld T ?_⟩
  refine list_go (xs := (sD (sortS names)).map .d) ?_ ?_
  · show some ((snd (nearK (nearL names links))).map fun p => Val.d (kD p.1)) = _
    unfold snd nearK nearL sD
    rw [List.map_map, List.map_map, List.map_map, List.map_map]
    rfl
  · simp [endsOf, retK, trimC]
    exact K
theorem v_Web__len__ (Θ : Wh) (T : WebCls Θ) : VOk (r_Web__len__ Θ) 1 1 (sp_Web__len__ Θ) := by
  rintro lk _ _ k x ⟨names, links, rfl, rfl, hok, K⟩
  refine ⟨rfl, ?_⟩
  unfold r_Web__len__
  simp only [z_ret, z_cb, z_acons, z_anil, z_fld, z_var]
  refine ⟨_, rfl, web_fld T ?_⟩
  refine ⟨_, names.length, rfl, ?_, ?_⟩
  · show some (snd (nearK (nearL names links))).length = _
    unfold snd nearK nearL sortS
    rw [List.length_map, List.length_map, List.length_map, List.length_mergeSort]
  · simp [endsOf, retK, trimC]
    exact K

/-! ### links() -/
@[simp] theorem z_tp1 {p : Str × Str} : tp p = .tup [.str p.1, .str p.2] := rfl
def toldI (near : List (Str × List Str)) (i : Nat) : List (Str × Str) := (near.take i).flatMap fun p => (p.2.filter fun b => sLt p.1 b).map fun b => (p.1, b)
theorem look_near {near : List (Str × List Str)} (nd : (near.map (·.1)).Nodup) {i : Nat} (hi : i < near.length) : look (snd (nearK near)) (.inr near[i].1) = some (.d (.lst (sD near[i].2))) := by
  induction near generalizing i with
  | nil => simp at hi
  | cons p near ih =>
    simp only [List.map_cons] at nd
    replace nd := nodTwo nd
    cases i with
    | zero =>
      unfold look nearK snd
      rw [List.map_cons, List.map_cons, List.find?_cons_of_pos (by simp)]
      rfl
    | succ i =>
      have hi' : i < near.length := by simpa using hi
      have ne : p.1 ≠ near[i].1 := fun z => nd.1 (z ▸ List.mem_map_of_mem (List.getElem_mem _))
      have := ih nd.2 hi'
      unfold look nearK snd at this ⊢
      rw [List.map_cons, List.map_cons, List.find?_cons_of_neg (by simpa using ne)]
      exact this
theorem it_near {Γ : Gam} {y : Val} {near : List (Str × List Str)} (h : Γ.shp y = .M (snd (nearK near))) (nd : (near.map (·.1)).Nodup) {i : Nat} (hi : i < near.length) : Γ.item y (.d (.str near[i].1)) (.d (.lst (sD near[i].2))) := by
  refine .inr (.inr (.inl ?_))
  unfold Gam.dget
  rw [h]
  show some (look (snd (nearK near)) (.inr near[i].1)) = _
  rw [look_near nd hi]
theorem near_nd {names : List Str} {links : List (Str × Str)} (h : names.Nodup) : ((nearL names links).map (·.1)).Nodup := by
  have : (nearL names links).map (·.1) = sortS names := by
    unfold nearL
    rw [List.map_map]
    conv => rhs; rw [← List.map_id (sortS names)]
    rfl
  rw [this]
  exact (List.mergeSort_perm _ _).nodup_iff.mpr h
theorem toldI_succ {near : List (Str × List Str)} {i : Nat} (hi : i < near.length) : toldI near (i + 1) = toldI near i ++ (near[i].2.filter fun b => sLt near[i].1 b).map fun b => (near[i].1, b) := by
  unfold toldI
  rw [List.take_succ, List.getElem?_eq_getElem hi, List.flatMap_append]
  simp
theorem ok_snoc {xs : List D} {x : D} {m : Nat} : (Cell.L (xs.map .d ++ [.d x])).ok m = true := by
  have := ok_Ld (xs := xs ++ [x]) (m := m)
  rw [List.map_append] at this
  exact this
theorem neigh_len (links : List (Str × Str)) (h : Str) : (neigh links h).length ≤ 2 * links.length := by
  unfold neigh
  induction links with
  | nil => simp
  | cons p l ih =>
    rw [List.flatMap_cons, List.length_append, List.length_append, List.length_cons]
    have a : (if p.1 = h then [p.2] else ([] : List Str)).length ≤ 1 := by split <;> simp
    have b : (if p.2 = h then [p.1] else ([] : List Str)).length ≤ 1 := by split <;> simp
    omega
theorem nearL_len {names : List Str} {links : List (Str × Str)} : ∀ p, p ∈ nearL names links → p.2.length ≤ 2 * links.length := fun p hp => by
  obtain ⟨h, _, rfl⟩ := List.mem_map.mp hp
  show (sortS (neigh links h)).length ≤ _
  unfold sortS
  rw [List.length_mergeSort]
  exact neigh_len links h
theorem toldI_len {near : List (Str × List Str)} {b : Nat} (h : ∀ p, p ∈ near → p.2.length ≤ b) : ∀ i, i ≤ near.length → (toldI near i).length ≤ i * b := fun i => by
  induction i with
  | zero => intro _; simp [toldI]
  | succ i ih =>
    intro hi
    rw [toldI_succ (by omega), List.length_append, List.length_map]
    have h1 := ih (by omega)
    have h2 := List.length_filter_le (fun b => sLt near[i].1 b) near[i].2
    have h3 := h near[i] (List.getElem_mem _)
    rw [Nat.succ_mul]
    omega
theorem tpD_app (a b : List (Str × Str)) : tpD (a ++ b) = tpD a ++ tpD b := List.map_append
theorem v_Web_links (Θ : Wh) (T : WebCls Θ) : VOk (r_Web_links Θ) 1 3 (sp_Web_links Θ) := by
  rintro lk _ _ k x ⟨names, links, rfl, rfl, hok, K⟩
  refine ⟨rfl, ?_⟩
  unfold r_Web_links
  have nd := near_nd (links := links) hok.nd
  have hlen : (nearL names links).length ≤ 14 := by
    unfold nearL sortS
    rw [List.length_map, List.length_mergeSort]
    exact hok.hi
  refine ⟨nearK (nearL names links), ⟨.d (webD Θ names links), Θ.Web, _, .d (nearD names links), rfl, rfl, T.cl, T.na, rfl, rfl⟩, ?_⟩
  rintro m Γ rfl rfl
  have hb := nearL_len (names := names) (links := links)
  generalize hn : nearL names links = near at nd hlen hb
  have hN : nearD names links = .dct (nearK near) := by unfold nearD; rw [hn]
  refine ⟨fun i acc st => acc = tpD (toldI near i) ∧ st = [dcell acc], ⟨rfl, rfl⟩, fun _ _ _ _ _ => trivial, ?_, ?_⟩
  · rintro i acc st hi ⟨rfl, rfl⟩
    have hi' : i < near.length := by unfold nearK at hi; simpa using hi
    have ek : itKeys (nearK near) i = .d (.str near[i].1) := by
      unfold itKeys nearK
      rw [List.getD_eq_getElem?_getD, List.getElem?_map, List.getElem?_eq_getElem hi']
      rfl
    rw [ek]
    simp only [z_gname, z_yes, if_true, z_ilist, z_op, z_fld, z_var, z_ix]
    refine ⟨_, rfl, web_fld T ⟨_, rfl, ⟨_, it_near (near := near) (by rw [hN]; rfl) nd hi', (sD near[i].2).map .d, rfl, ?_⟩⟩⟩
    have el : ((sD near[i].2).map Val.d).length = near[i].2.length := by simp [sD]
    refine ⟨fun j acc st => acc = tpD (toldI near i ++ (((near[i].2.take j).filter fun b => sLt near[i].1 b).map fun b => (near[i].1, b))) ∧ st = [dcell acc], ⟨?_, ?_⟩, ?_, ?_, ?_⟩
    · simp
    · simp [Gam.lock]
    · rintro j acc st hj ⟨rfl, rfl⟩
      refine ⟨rfl, ?_⟩
      have h1 := toldI_len hb i (by omega)
      have h2 := List.length_filter_le (fun b => sLt near[i].1 b) (near[i].2.take j)
      have h3 := hb near[i] (List.getElem_mem _)
      have h4 : (near[i].2.take j).length ≤ near[i].2.length := by rw [List.length_take]; omega
      have h5 : i * (2 * links.length) ≤ 14 * 2000 := Nat.mul_le_mul (by omega) (by have := hok.few; omega)
      have few := hok.few
      rw [z_sizeLine]
      unfold tpD
      rw [List.length_map, List.length_append, List.length_map]
      omega
    · rintro j acc st hj ⟨rfl, rfl⟩
      rw [el] at hj
      have ej : ((sD near[i].2).map Val.d).getD j (.d .non) = .d (.str near[i].2[j]) := by
        unfold sD
        rw [List.getD_eq_getElem?_getD, List.getElem?_map, List.getElem?_map, List.getElem?_eq_getElem hj]
        rfl
      rw [ej]
      have eT : near[i].2.take (j + 1) = near[i].2.take j ++ [near[i].2[j]] := by
        rw [List.take_succ, List.getElem?_eq_getElem hj]
        rfl
      by_cases hlt : sLt near[i].1 near[i].2[j] = true
      · simp only [z_gname, z_tb, z_op, z_var, z_tup, z_acons, z_anil]
        refine ⟨_, rfl, _, rfl, .inr ⟨_, _, rfl, rfl, _, rfl, ?_⟩⟩
        rw [hlt, if_pos rfl]
        refine ⟨_, rfl, _, rfl, by simp, _, rfl, _, rfl, rfl, ?_, ?_⟩
        · rw [eT, List.filter_append, List.map_append, ← List.append_assoc, tpD_app _ (List.map _ _)]
          simp [hlt, tpD]
        · simp [Gam.back, Gam.lock, trimC, dcell]
          exact ok_snoc
      · simp only [z_gname, z_tb, z_op, z_var, z_tup, z_acons, z_anil]
        refine ⟨_, rfl, _, rfl, .inr ⟨_, _, rfl, rfl, _, rfl, ?_⟩⟩
        rw [if_neg hlt]
        refine ⟨?_, ?_⟩
        · rw [eT, List.filter_append, List.map_append]
          simp [hlt]
        · simp [Gam.back, Gam.lock, trimC, dcell]
    · rintro acc st ⟨rfl, rfl⟩
      rw [el, List.take_of_length_le (Nat.le_refl _)]
      refine ⟨?_, ?_⟩
      · rw [toldI_succ hi']
      · simp [Gam.back, Gam.lock, trimC, dcell]
  · rintro acc st ⟨rfl, rfl⟩
    have e : (nearK near).length = near.length := by unfold nearK; rw [List.length_map]
    have e2 : toldI near (nearK near).length = toldL names links := by
      unfold toldI toldL
      rw [e, List.take_of_length_le (Nat.le_refl _), hn]
    rw [e2]
    simp [putLc2, endsOf, retK, trimC, dcell]
    exact ⟨_, rfl, ok_Ld, K⟩
end L3

namespace L3
open PySem L2 PyProof.Rows
theorem look_at {near : List (Str × List Str)} (nd : (near.map (·.1)).Nodup) {i : Nat} (hi : i < near.length) : look near near[i].1 = some near[i].2 := by
  induction near generalizing i with
  | nil => simp at hi
  | cons p near ih =>
    simp only [List.map_cons] at nd
    replace nd := nodTwo nd
    cases i with
    | zero =>
      unfold look
      rw [List.find?_cons_of_pos (by simp)]
      rfl
    | succ i =>
      have hi' : i < near.length := by simpa using hi
      have ne : p.1 ≠ near[i].1 := fun z => nd.1 (z ▸ List.mem_map_of_mem (List.getElem_mem _))
      have := ih nd.2 hi'
      unfold look at this ⊢
      rw [List.find?_cons_of_neg (by simpa using ne)]
      exact this
theorem key_at {near : List (Str × List Str)} {h : Str} (hm : h ∈ near.map (·.1)) : ∃ i, ∃ hi : i < near.length, near[i].1 = h := by
  obtain ⟨p, hp, e⟩ := inMap hm
  obtain ⟨i, hi, e2⟩ := List.getElem_of_mem hp
  exact ⟨i, hi, by rw [e2]; exact e⟩
theorem nodup_sub_len : ∀ {l m : List Str}, l.Nodup → (∀ x, x ∈ l → x ∈ m) → l.length ≤ m.length
  | [], m, _, _ => by simp
  | a :: l, m, nd, h => by
    obtain ⟨n1, n2⟩ := nodTwo nd
    have ha := h a List.mem_cons_self
    have := nodup_sub_len (m := m.erase a) n2 fun x hx => (List.mem_erase_of_ne (fun (e : x = a) => n1 (by rw [← e]; exact hx))).mpr (h x (List.mem_cons_of_mem _ hx))
    rw [List.length_erase_of_mem ha] at this
    have : 0 < m.length := List.length_pos_of_mem ha
    rw [List.length_cons]
    omega
@[simp] theorem z_while {rt : RT} {rb : RS} {N : En} {Γ : Gam} : rWhile rt rb N Γ = ∃ Iv : Nat → Gam → Prop, (∃ m, Iv m Γ) ∧ ∀ m Γ1, Iv m Γ1 →
  rt Γ1 (fun b Γ2 => if b = true then rb { N with nx := fun Γ4 => ∃ m', m' < m ∧ Iv m' (Γ4.trim Γ.st.length), ct := fun Γ4 => ∃ m', m' < m ∧ Iv m' (Γ4.trim Γ.st.length), bk := fun Γ4 => N.nx (Γ4.trim Γ.st.length) } Γ2 else N.nx (Γ2.trim Γ.st.length)) N.ex := rfl
@[simp] theorem z_disp1 {rk rv : RE} {Γ : Gam} {k : KE3} {x : XC} : rDisp1 rk rv Γ k x = rk Γ (fun y Γ1 => rv Γ1 (fun z Γ2 => ∃ q, y = .d (kD q) ∧ k (.own Γ2.st.length) { Γ2 with st := Γ2.st ++ [.M [(q, z)]] }) x) x := rfl
theorem shp_more {sl sl' : List (Option Val)} {st more : List Cell} {lk lk' : Bool} {y : Val} {kvs : List (Key × Val)} (h : Gam.shp ⟨sl, st, lk⟩ y = .M kvs) : Gam.shp ⟨sl', st ++ more, lk'⟩ y = .M kvs := by
  cases y with
  | d x => exact h
  | own n =>
    rw [z_shp_o] at h ⊢
    cases e : st[n]? with
    | none => simp [e] at h
    | some c =>
      rw [List.getElem?_append_left (List.getElem?_eq_some_iff.mp e).1, e]
      rw [e] at h
      exact h
theorem shp_ok {sl : List (Option Val)} {st : List Cell} {lk : Bool} {y : Val} {kvs : List (Key × Val)} (h : Gam.shp ⟨sl, st, lk⟩ y = .M kvs) : y.ok st.length = true := by
  cases y with
  | d x => rfl
  | own n =>
    rw [z_shp_o] at h
    cases e : st[n]? with
    | none => simp [e] at h
    | some c => exact decide_eq_true (List.getElem?_eq_some_iff.mp e).1
theorem bar_ok {bar : Option (Str × Str)} (h : ∀ p, bar = some p → PyData.strOk p.1 = true ∧ PyData.strOk p.2 = true) : (barD bar).eqOk = true := by
  cases bar with
  | none => rfl
  | some p => exact eqOk_tp (h p rfl)
theorem bar_eqv {bar : Option (Str × Str)} {p : Str × Str} : D.eqv (tp p) (barD bar) = decide (some p = bar) := by
  cases bar with
  | none => rfl
  | some q =>
    show D.eqv (tp p) (tp q) = _
    rw [eqv_tp]
    by_cases h : p = q <;> simp [h]
/-- what holds at each turn -/
structure BfsOk (near : List (Str × List Str)) (bar : Option (Str × Str)) (start : Str) (q : List Str) (n : Nat) : Prop where
  nd : q.Nodup
  st : start ∈ q
  re : ∀ x, x ∈ q → x ∈ near.map (·.1) ∧ Reach (fun a => (look near a).getD []) bar start x
  le : n ≤ q.length
  cl : ∀ j (hj : j < q.length), j < n → ∀ c, c ∈ (look near q[j]).getD [] → some (pairOf (q[j], c)) ≠ bar → c ∈ q
theorem v_reached (Θ : Wh) : VOk (r_reached Θ) 3 8 (sp_reached Θ) := by
  rintro lk _ cells k x ⟨y, start, bar, near, rfl, hy, hfl, hnd, hst, hlen, hbar, hnm, hnb, K⟩
  refine ⟨rfl, ?_⟩
  unfold r_reached
  refine sq fun M hM => ?_
  simp [List.replicate]
  refine ⟨.inr start, rfl, ?_⟩
  apply hM; clear hM
  refine sq fun M hM => ?_
  simp
  apply hM; clear hM
  refine sq fun M hM => ?_
  simp
  apply hM; clear hM
  refine sq fun M hM => ?_
  rw [z_while]
  refine ⟨fun m Γ => ∃ q n h o, Is Γ ⟨[some y, some (.d (.str start)), some (.d (barD bar)), some (.own cells.length), some (.own (cells.length + 1)), some (.d (.int (n : Nat))), fr h, fr o], cells ++ [foundK q, .L ((sD q).map .d)], lk⟩ ∧ BfsOk near bar start q n ∧ m = near.length - n, ?_, ?_⟩
  · exact ⟨near.length, [start], 0, none, none, .r, ⟨by simp, by simp, fun x hx => by rw [List.mem_singleton.mp hx]; exact ⟨hst, .refl _⟩, by simp, fun j _ h => by omega⟩, by simp⟩
  rintro m _ ⟨q, n, h, o, e, B, rfl⟩
  cases e
  have eF : (cells ++ [foundK q, Cell.L ((sD q).map .d)])[cells.length]? = some (foundK q) := by simp
  have eQ : (cells ++ [foundK q, Cell.L ((sD q).map .d)])[cells.length + 1]? = some (.L ((sD q).map .d)) := by simp
  have hs : (sD q).length = q.length := by simp [sD]
  have hql : q.length ≤ near.length := by
    have := nodup_sub_len B.nd (m := near.map (·.1)) fun x hx => (B.re x hx).1
    simpa using this
  by_cases hn : n < q.length
  · simp [hs, hn]
    refine sq fun M2 hM2 => ?_
    have eq : (sD q)[n]? = some (.str q[n]) := by unfold sD; rw [List.getElem?_map, List.getElem?_eq_getElem hn]; rfl
    simp [eq]
    apply hM2; clear hM2
    refine sq fun M2 hM2 => ?_
    simp
    apply hM2; clear hM2
    obtain ⟨i, hi, ei⟩ := key_at (B.re q[n] (List.getElem_mem _)).1
    have it := it_near (Γ := ⟨[some y, some (.d (.str start)), some (.d (barD bar)), some (.own cells.length), some (.own (cells.length + 1)), some (.d (.int ((n : Int) + 1))), some (.d (.str q[n])), fr o], cells ++ [foundK q, .L ((sD q).map .d)], lk⟩) (shp_more hy) hnd hi
    rw [ei] at it
    have elk := look_at hnd hi
    rw [ei] at elk
    have hn1 : BfsOk near bar start q n := B
    have eii : (sD near[i].2).length = near[i].2.length := by simp [sD]
    simp
    refine ⟨_, it, (sD near[i].2).map .d, rfl, ?_⟩
    refine ⟨fun j Γ => ∃ q' w o, Is Γ ⟨[some y, some (.d (.str start)), some (.d (barD bar)), some (.own cells.length), some (.own (cells.length + 1)), some (.d (.int ((n : Int) + 1))), some (.d (.str q[n])), fr o], cells ++ [foundK q', .L ((sD q').map .d)], lk⟩ ∧ q' = q ++ w ∧ BfsOk near bar start q' n ∧ ∀ c, c ∈ near[i].2.take j → some (pairOf (q[n], c)) ≠ bar → c ∈ q', ?_, ?_, ?_, ?_⟩
    · exact ⟨q, [], o, .r, by simp, B, fun c hc => by simp at hc⟩
    · rintro j _ _ ⟨q', w, o', e, _, _, _⟩
      cases e
      rfl
    · rintro j _ hj ⟨q', w, o', e, rfl, B', hc⟩
      cases e
      rw [List.length_map, eii] at hj
      have hnn : n < (q ++ w).length := by rw [List.length_append]; omega
      have eqn : (q ++ w)[n] = q[n] := List.getElem_append_left hn
      have hob := (hnb near[i] (List.getElem_mem _)).2 near[i].2[j] (List.getElem_mem _)
      have o1 := isName_ok (hnm _ hob)
      have o2 := isName_ok (hnm _ (B.re q[n] (List.getElem_mem _)).1)
      have ej : ((sD near[i].2).map Val.d)[j]?.getD (.d .non) = .d (.str near[i].2[j]) := by
        unfold sD
        rw [List.getElem?_map, List.getElem?_map, List.getElem?_eq_getElem hj]
        rfl
      have eT : near[i].2.take (j + 1) = near[i].2.take j ++ [near[i].2[j]] := by
        rw [List.take_succ, List.getElem?_eq_getElem hj]
        rfl
      have eF' : (cells ++ [foundK (q ++ w), Cell.L ((sD (q ++ w)).map .d)])[cells.length]? = some (foundK (q ++ w)) := by simp
      have eQ' : (cells ++ [foundK (q ++ w), Cell.L ((sD (q ++ w)).map .d)])[cells.length + 1]? = some (.L ((sD (q ++ w)).map .d)) := by simp
      have fin : ∀ q' w', q' = q ++ w' → BfsOk near bar start q' n → (∀ c, c ∈ near[i].2.take (j + 1) → some (pairOf (q[n], c)) ≠ bar → c ∈ q') → ∃ q'' w o, Is ((⟨[some y, some (.d (.str start)), some (.d (barD bar)), some (.own cells.length), some (.own (cells.length + 1)), some (.d (.int ((n : Int) + 1))), some (.d (.str q[n])), some (.d (.str near[i].2[j]))], cells ++ [foundK q', .L ((sD q').map .d)], lk⟩ : Gam).trim (cells ++ [foundK q, Cell.L ((sD q).map .d)]).length) ⟨[some y, some (.d (.str start)), some (.d (barD bar)), some (.own cells.length), some (.own (cells.length + 1)), some (.d (.int ((n : Int) + 1))), some (.d (.str q[n])), fr o], cells ++ [foundK q'', .L ((sD q'').map .d)], lk⟩ ∧ q'' = q ++ w ∧ BfsOk near bar start q'' n ∧ ∀ c, c ∈ near[i].2.take (j + 1) → some (pairOf (q[n], c)) ≠ bar → c ∈ q'' := fun q' w' e b hc => by
        refine ⟨q', w', some (.str near[i].2[j]), ?_, e, b, hc⟩
        have hX : Flat (cells ++ [foundK q', .L ((sD q').map .d)]) := hfl.append (Flat.cons ok_found (Flat.cons ok_Ld Flat.nil))
        have eX := trimC_flat' (m := cells.length + 2) hX
        have hXl : (cells ++ [foundK q', Cell.L ((sD q').map .d)]).length = cells.length + 2 := by simp
        rw [hXl] at eX
        have hl : (cells ++ [foundK q, Cell.L ((sD q).map .d)]).length = cells.length + 2 := by simp
        rw [z_trim, hl, eX, trimS_v (Val.ok_le (shp_ok hy) (by omega)), trimS_d, trimS_d, trimS_o (by omega), trimS_o (by omega), trimS_d, trimS_d, trimS_d]
        exact .r
      change rgName 7 (((sD near[i].2).map Val.d)[j]?.getD (Val.d D.non)) _ _ _
      rw [ej]
      rw [z_gname, z_if, z_andT]
      simp only [z_tb, z_op, z_var]
      refine ⟨_, rfl, _, rfl, notin_go (has_found eF') ?_⟩
      by_cases hin : near[i].2[j] ∈ q ++ w
      · refine ⟨_, rfl, ?_⟩
        rw [decide_eq_true hin]
        refine fin (q ++ w) w rfl B' fun c hcc hb => ?_
        rw [eT] at hcc
        rcases inApp hcc with z | z
        · exact hc c z hb
        · rw [inOne z]; exact hin
      · refine ⟨_, rfl, ?_⟩
        rw [decide_eq_false hin]
        simp only [Bool.not_false, if_true, z_call, z_acons, z_anil, z_var]
        refine ⟨_, rfl, _, rfl, call_pair_of ?_⟩
        refine ⟨_, rfl, _, _, rfl, rfl, eqOk_tp (pairOf_ok ⟨o2, o1⟩), bar_ok hbar, _, rfl, ?_⟩
        rw [bar_eqv]
        by_cases hb : some (pairOf (q[n], near[i].2[j])) = bar
        · rw [decide_eq_true hb]
          refine fin (q ++ w) w rfl B' fun c hcc hb' => ?_
          rw [eT] at hcc
          rcases inApp hcc with z | z
          · exact hc c z hb'
          · rw [inOne z] at hb'; exact absurd hb hb'
        · rw [decide_eq_false hb]
          rw [if_pos (by rfl)]
          refine sq fun M3 hM3 => ?_
          have hl2 : (q ++ w).length ≤ near.length := by
            have := nodup_sub_len B'.nd (m := near.map (·.1)) fun x hx => (B'.re x hx).1
            simpa using this
          refine ⟨_, rfl, _, rfl, st_found eF' hin (by omega) ?_⟩
          apply hM3; clear hM3
          refine ⟨_, rfl, isT_L (n := cells.length + 1) (xs := (sD (q ++ w)).map .d) (by simp), _, rfl, ?_⟩
          refine ⟨cells.length + 1, (sD (q ++ w)).map .d, .d (.str near[i].2[j]), rfl, rfl, by simp, by rw [List.length_append] at hl2; simp [sD]; omega, ?_⟩
          have e3 : ((cells ++ [foundK (q ++ w), Cell.L ((sD (q ++ w)).map .d)]).set cells.length (foundK (q ++ w ++ [near[i].2[j]]))).set (cells.length + 1) (.L ((sD (q ++ w)).map .d ++ [.d (.str near[i].2[j])])) = cells ++ [foundK (q ++ w ++ [near[i].2[j]]), .L ((sD (q ++ w ++ [near[i].2[j]])).map .d)] := by
            simp [sD]
          have z := fin (q ++ w ++ [near[i].2[j]]) (w ++ [near[i].2[j]]) (by rw [List.append_assoc]) ?_ ?_
          · rw [← e3] at z
            exact z
          · refine ⟨?_, List.mem_append_left _ B'.st, fun x hx => ?_, by have := B'.le; rw [List.length_append]; omega, fun j' hj' hlt c hcc hb' => ?_⟩
            · rw [List.nodup_append]
              exact ⟨B'.nd, by simp, fun a ha b hb => by rw [List.mem_singleton.mp hb]; exact fun z => hin (z ▸ ha)⟩
            · rcases inApp hx with z | z
              · exact B'.re x z
              · rw [inOne z]
                refine ⟨hob, .step (B.re q[n] (List.getElem_mem _)).2 ?_ hb⟩
                show near[i].2[j] ∈ (look near q[n]).getD []
                rw [elk]
                exact List.getElem_mem _
            · have hj2 : j' < (q ++ w).length := by have := B'.le; omega
              rw [List.getElem_append_left hj2] at hcc hb'
              exact List.mem_append_left _ (B'.cl j' hj2 hlt c hcc hb')
          · intro c hcc hb'
            rw [eT] at hcc
            rcases inApp hcc with z | z
            · exact List.mem_append_left _ (hc c z hb')
            · exact List.mem_append_right _ z
    · rintro _ ⟨q', w, o', e, rfl, B', hc⟩
      cases e
      rw [List.length_map, eii, List.take_of_length_le (Nat.le_refl _)] at hc
      have hX : Flat (cells ++ [foundK (q ++ w), .L ((sD (q ++ w)).map .d)]) := hfl.append (Flat.cons ok_found (Flat.cons ok_Ld Flat.nil))
      have eX := trimC_flat' (m := cells.length + 2) hX
      have hXl : (cells ++ [foundK (q ++ w), Cell.L ((sD (q ++ w)).map .d)]).length = cells.length + 2 := by simp
      rw [hXl] at eX
      refine ⟨near.length - (n + 1), by omega, q ++ w, n + 1, ⟨some (.str q[n]), o', ?_⟩, ⟨B'.nd, B'.st, B'.re, by rw [List.length_append]; omega, fun j hj hlt c hcc hb => ?_⟩, rfl⟩
      · rw [eX, trimS_v (Val.ok_le (shp_ok hy) (by omega)), trimS_d, trimS_d, trimS_o (by omega), trimS_o (by omega), trimS_d, trimS_d, trimS_fr]
        exact .r
      · by_cases hjn : j = n
        · subst hjn
          rw [List.getElem_append_left hn] at hcc hb
          rw [elk] at hcc
          exact hc c hcc hb
        · exact B'.cl j hj (by omega) c hcc hb
  · have en : n = q.length := by have := B.le; omega
    subst en
    simp [hs]
    apply hM; clear hM
    have hX : Flat (cells ++ [foundK q, .L ((sD q).map .d)]) := hfl.append (Flat.cons ok_found (Flat.cons ok_Ld Flat.nil))
    have eX := trimC_flat' (m := cells.length + 2) hX
    have hXl : (cells ++ [foundK q, Cell.L ((sD q).map .d)]).length = cells.length + 2 := by simp
    rw [hXl] at eX
    rw [eX, trimS_v (Val.ok_le (shp_ok hy) (by omega)), trimS_d, trimS_d, trimS_o (by omega)]
    simp [endsOf, retK]
    rw [trimC_flat hfl]
    refine K q B.nd fun x => ⟨fun hx => (B.re x hx).2, fun hr => ?_⟩
    induction hr with
    | refl => exact B.st
    | step r hc hb ih =>
      obtain ⟨j, hj, rfl⟩ := List.getElem_of_mem ih
      exact B.cl j hj hj _ hc hb
end L3

namespace L3
open PySem L2 PyProof.Rows
theorem set_same {α : Type} : ∀ {st : List α} {n : Nat} {c : α}, st[n]? = some c → st.set n c = st
  | [], _, _, h => by simp at h
  | a :: st, 0, c, h => by simp at h; rw [h]; rfl
  | a :: st, n + 1, c, h => by
    show a :: st.set n c = a :: st
    rw [set_same (n := n) h]
theorem dl_cell {st : List Cell} {n : Nat} {ds : List D} (h : dlS st (.own n) = some ds) : ∃ c, st[n]? = some c ∧ c.ok 0 = true ∧ ∀ more : List Cell, dlS (c :: more) (.own 0) = some ds := by
  rcases dlS_cases h with z | ⟨m, z, e | e⟩
  · cases z
  · cases z
    exact ⟨_, e, ok_Ld, fun more => dvals_map ds⟩
  · cases z
    exact ⟨_, e, rfl, fun more => dvals_map ds⟩
theorem getD_at {st : List Cell} {n : Nat} {c : Cell} (h : st[n]? = some c) : st.getD n .no = c := by rw [List.getD_eq_getElem?_getD, h]; rfl
section
variable {Θ : Wh} {sl : List (Option Val)} {st : List Cell} {lk : Bool} {k : KE3} {x : XC} {y z : Val} {names : List Str} {links : List (Str × Str)}
theorem call_check_houses (hy : dlS st y = some (sD names)) (ok : NamesOk names) (h : k (.d .non) ⟨sl, st, lk⟩) : CallW (sp_check_houses Θ) [y] ⟨sl, st, lk⟩ k x := by
  cases y with
  | d v =>
    rcases dlS_cases hy with e | ⟨m, e, _⟩
    · cases e
      refine callW_d (ds := [.lst (sD names)]) ⟨_, names, rfl, dlS_d, Flat.nil, ok, ?_⟩
      simpa [Val.mp, mergeSt] using h
    · cases e
  | own n =>
    obtain ⟨c, e1, e2, e3⟩ := dl_cell hy
    refine callW_flat [n] (by simp) (fun m hm => ?_) (fun m hm => ?_) (by simp [Val.all]) ⟨.own 0, names, by simp [Val.mp, posIn], by simp only [List.map_cons, List.map_nil, getD_at e1]; exact e3 [], ?_, ok, ?_⟩
    · rw [List.mem_singleton.mp hm]; exact (List.getElem?_eq_some_iff.mp e1).1
    · rw [List.mem_singleton.mp hm, getD_at e1]; exact e2
    · simp only [List.map_cons, List.map_nil, getD_at e1]; exact Flat.cons e2 Flat.nil
    · simp only [List.map_cons, List.map_nil, getD_at e1]
      have : mergeSt (backN [n] st.length) [n] [c] st = st := by
        show st.set n (c.mp _) ++ [] = st
        rw [(cell_ok0 e2).1, set_same e1, List.append_nil]
      rw [this]
      exact h
theorem call_check_links (hy : dlS st y = some (sD names)) (hz : dlS st z = some (tpD links)) (ok : NamesOk names) (lo : LinksOk names links) (h : k (.d .non) ⟨sl, st, lk⟩) : CallW (sp_check_links Θ) [y, z] ⟨sl, st, lk⟩ k x := by
  cases y with
  | d v =>
    rcases dlS_cases hy with e | ⟨m, e, _⟩
    · cases e
      cases z with
      | d u =>
        rcases dlS_cases hz with e | ⟨m, e, _⟩
        · cases e
          refine callW_d (ds := [.lst (sD names), .lst (tpD links)]) ⟨_, _, names, links, rfl, dlS_d, dlS_d, Flat.nil, ok, lo, ?_⟩
          simpa [Val.mp, mergeSt] using h
        · cases e
      | own n =>
        obtain ⟨c, e1, e2, e3⟩ := dl_cell hz
        refine callW_flat [n] (by simp) (fun m hm => ?_) (fun m hm => ?_) (by simp [Val.all]) ⟨.d (.lst (sD names)), .own 0, names, links, by simp [Val.mp, posIn], dlS_d, by simp only [List.map_cons, List.map_nil, getD_at e1]; exact e3 [], ?_, ok, lo, ?_⟩
        · rw [List.mem_singleton.mp hm]; exact (List.getElem?_eq_some_iff.mp e1).1
        · rw [List.mem_singleton.mp hm, getD_at e1]; exact e2
        · simp only [List.map_cons, List.map_nil, getD_at e1]; exact Flat.cons e2 Flat.nil
        · simp only [List.map_cons, List.map_nil, getD_at e1]
          have : mergeSt (backN [n] st.length) [n] [c] st = st := by
            show st.set n (c.mp _) ++ [] = st
            rw [(cell_ok0 e2).1, set_same e1, List.append_nil]
          rw [this]
          exact h
    · cases e
  | own n =>
    obtain ⟨c, e1, e2, e3⟩ := dl_cell hy
    cases z with
    | d u =>
      rcases dlS_cases hz with e | ⟨m, e, _⟩
      · cases e
        refine callW_flat [n] (by simp) (fun m hm => ?_) (fun m hm => ?_) (by simp [Val.all]) ⟨.own 0, .d (.lst (tpD links)), names, links, by simp [Val.mp, posIn], by simp only [List.map_cons, List.map_nil, getD_at e1]; exact e3 [], dlS_d, ?_, ok, lo, ?_⟩
        · rw [List.mem_singleton.mp hm]; exact (List.getElem?_eq_some_iff.mp e1).1
        · rw [List.mem_singleton.mp hm, getD_at e1]; exact e2
        · simp only [List.map_cons, List.map_nil, getD_at e1]; exact Flat.cons e2 Flat.nil
        · simp only [List.map_cons, List.map_nil, getD_at e1]
          have : mergeSt (backN [n] st.length) [n] [c] st = st := by
            show st.set n (c.mp _) ++ [] = st
            rw [(cell_ok0 e2).1, set_same e1, List.append_nil]
          rw [this]
          exact h
      · cases e
    | own m =>
      obtain ⟨d, f1, f2, f3⟩ := dl_cell hz
      have ne : n ≠ m := fun z => by
        subst z
        rw [hy] at hz
        have hz := Option.some.inj hz
        have lo := ok.lo
        cases names with
        | nil => simp at lo
        | cons a r =>
          cases links with
          | nil => cases hz
          | cons p l => injection hz with hz _; cases hz
      have e3' := e3 [d]
      have f3' : dlS [c, d] (.own 1) = some (tpD links) := by
        have := f3 []
        unfold dlS Gam.dl at this ⊢
        rw [z_shp_o] at this ⊢
        exact this
      refine callW_flat [n, m] (by simp [ne]) (fun i hi => ?_) (fun i hi => ?_) (by simp [Val.all]) ⟨.own 0, .own 1, names, links, by simp [Val.mp, posIn, ne], by simp only [List.map_cons, List.map_nil, getD_at e1, getD_at f1]; exact e3', by simp only [List.map_cons, List.map_nil, getD_at e1, getD_at f1]; exact f3', ?_, ok, lo, ?_⟩
      · rcases inCons hi with rfl | hi
        · exact (List.getElem?_eq_some_iff.mp e1).1
        · rw [List.mem_singleton.mp hi]; exact (List.getElem?_eq_some_iff.mp f1).1
      · rcases inCons hi with rfl | hi
        · rw [getD_at e1]; exact e2
        · rw [List.mem_singleton.mp hi, getD_at f1]; exact f2
      · simp only [List.map_cons, List.map_nil, getD_at e1, getD_at f1]; exact Flat.cons e2 (Flat.cons f2 Flat.nil)
      · simp only [List.map_cons, List.map_nil, getD_at e1, getD_at f1]
        have : mergeSt (backN [n, m] st.length) [n, m] [c, d] st = st := by
          show (st.set n (c.mp _)).set m (d.mp _) ++ [] = st
          rw [(cell_ok0 e2).1, (cell_ok0 f2).1, set_same e1, set_same f1, List.append_nil]
        rw [this]
        exact h
end
/-! ### the store while __init__ works -/
def dKo : List Str → Nat → (Nat → Val) → List (Key × Val)
  | [], _, _ => []
  | a :: r, o, f => (.inr a, f o) :: dKo r (o + 1) f
theorem dKo_len (f : Nat → Val) : ∀ (s : List Str) (o : Nat), (dKo s o f).length = s.length
  | [], _ => rfl
  | _ :: r, o => by rw [dKo, List.length_cons, List.length_cons, dKo_len f r]
theorem dKo_snoc (f : Nat → Val) (a : Str) : ∀ (s : List Str) (o : Nat), dKo (s ++ [a]) o f = dKo s o f ++ [(.inr a, f (o + s.length))]
  | [], o => rfl
  | b :: r, o => by
    rw [List.cons_append, dKo, dKo_snoc f a r, dKo, List.cons_append, List.length_cons, show o + (r.length + 1) = o + 1 + r.length from by omega]
theorem dKo_keys (f : Nat → Val) : ∀ (s : List Str) (o : Nat), (dKo s o f).map (·.1) = s.map .inr
  | [], _ => rfl
  | _ :: r, o => by rw [dKo, List.map_cons, List.map_cons, dKo_keys f r]
theorem dKo_look (f : Nat → Val) : ∀ (s : List Str) (o : Nat), s.Nodup → ∀ j (hj : j < s.length), look (dKo s o f) (.inr s[j]) = some (f (o + j))
  | [], _, _, j, hj => by simp at hj
  | a :: r, o, nd, 0, _ => by
    unfold look
    rw [dKo, List.find?_cons_of_pos (by simp)]
    rfl
  | a :: r, o, nd, j + 1, hj => by
    obtain ⟨n1, n2⟩ := nodTwo nd
    have hj' : j < r.length := by simpa using hj
    have ne : a ≠ r[j] := fun z => n1 (z ▸ List.getElem_mem _)
    have := dKo_look f r (o + 1) n2 j hj'
    unfold look at this ⊢
    rw [dKo, List.find?_cons_of_neg (by simpa using ne)]
    rw [show o + (j + 1) = o + 1 + j from by omega]
    exact this
theorem dKo_congr {f g : Nat → Val} : ∀ (s : List Str) (o : Nat), (∀ j, o ≤ j → j < o + s.length → f j = g j) → dKo s o f = dKo s o g
  | [], _, _ => rfl
  | a :: r, o, h => by
    rw [dKo, dKo, h o (Nat.le_refl _) (by simp), dKo_congr r (o + 1) fun j h1 h2 => h j (by omega) (by rw [List.length_cons]; omega)]
theorem dKo_put (f : Nat → Val) (v : Val) (s : List Str) (nd : s.Nodup) (j : Nat) (hj : j < s.length) : putD (dKo s 0 f) (.inr s[j]) v = dKo s 0 (fun i => if i = j then v else f i) := by
  unfold putD
  have hm : (Sum.inr s[j] : Key) ∈ (dKo s 0 f).map (·.1) := by
    rw [dKo_keys]
    exact List.mem_map_of_mem (List.getElem_mem _)
  have ha : ((dKo s 0 f).any fun p => decide (p.1 = (Sum.inr s[j] : Key))) = true := by
    obtain ⟨p, hp, e⟩ := inMap hm
    rw [List.any_eq_true]
    exact ⟨p, hp, by simpa using e⟩
  rw [ha, if_pos rfl]
  have key : ∀ (s : List Str) (o j : Nat) (hj : j < s.length), s.Nodup → ((dKo s o f).map fun p => if p.1 = (Sum.inr s[j] : Key) then (p.1, v) else p) = dKo s o (fun i => if i = o + j then v else f i) := by
    intro s
    induction s with
    | nil => intro o j hj; simp at hj
    | cons a r ih =>
      intro o j hj nd
      obtain ⟨n1, n2⟩ := nodTwo nd
      rw [dKo, dKo, List.map_cons]
      cases j with
      | zero =>
        rw [List.getElem_cons_zero]
        rw [if_pos rfl]
        congr 1
        · simp
        · have : ∀ p ∈ dKo r (o + 1) f, (if p.1 = (Sum.inr a : Key) then (p.1, v) else p) = p := fun p hp => by
            have hk : p.1 ∈ (dKo r (o + 1) f).map (·.1) := List.mem_map_of_mem hp
            rw [dKo_keys] at hk
            obtain ⟨b, hb, e⟩ := List.mem_map.mp hk
            rw [if_neg]
            rw [← e]
            intro z
            injection z with z
            exact n1 (z ▸ hb)
          rw [List.map_congr_left this, List.map_id']
          exact dKo_congr r (o + 1) fun i h1 h2 => by rw [if_neg (by omega)]
      | succ j =>
        have hj' : j < r.length := by simpa using hj
        rw [List.getElem_cons_succ]
        have ne : (Sum.inr a : Key) ≠ Sum.inr r[j] := fun z => n1 (by injection z with z; exact z ▸ List.getElem_mem _)
        rw [if_neg ne, ih (o + 1) j hj' n2]
        congr 1
        · rw [if_neg (by omega)]
        · exact dKo_congr r (o + 1) fun i h1 h2 => by
            by_cases c : i = o + 1 + j
            · rw [if_pos c, if_pos (by omega)]
            · rw [if_neg c, if_neg (by omega)]
  have := key s 0 j hj nd
  simpa using this
theorem trimC_id {m : Nat} : ∀ {st : List Cell}, (∀ c, c ∈ st → c.ok m = true) → trimC m st.length st = st
  | [], _ => rfl
  | c :: st, h => by
    show trimC m (st.length + 1) (c :: st) = _
    unfold trimC
    rw [if_pos (h c List.mem_cons_self), trimC_id fun d hd => h d (List.mem_cons_of_mem _ hd)]

/-- the cells: self, what was handed, the lists of neighbours, the dict -/
def stI (C : Addr) (fs : List (Str × Val)) (rest : List Cell) (s : List Str) (g : Str → List Str) (f : Nat → Val) : List Cell := .O C fs :: (rest ++ ((s.map fun h => Cell.L ((sD (g h)).map .d)) ++ [.M (dKo s 0 f)]))
def nF (D : Nat) : List (Str × Val) := [("_near", .own D)]
section
variable {C : Addr} {fs : List (Str × Val)} {rest : List Cell} {s : List Str} {g g' : Str → List Str} {f : Nat → Val}
theorem stI_len : (stI C fs rest s g f).length = rest.length + 1 + s.length + 1 := by
  unfold stI
  simp
  omega
theorem stI_0 : (stI C fs rest s g f)[0]? = some (.O C fs) := rfl
theorem stI_M : (stI C fs rest s g f)[rest.length + 1 + s.length]? = some (.M (dKo s 0 f)) := by
  unfold stI
  rw [show rest.length + 1 + s.length = (rest.length + s.length) + 1 from by omega, List.getElem?_cons_succ, List.getElem?_append_right (by omega), show rest.length + s.length - rest.length = s.length from by omega, List.getElem?_append_right (by simp), List.length_map, Nat.sub_self]
  rfl
theorem stI_L {j : Nat} (hj : j < s.length) : (stI C fs rest s g f)[rest.length + 1 + j]? = some (.L ((sD (g s[j])).map .d)) := by
  unfold stI
  rw [show rest.length + 1 + j = (rest.length + j) + 1 from by omega, List.getElem?_cons_succ, List.getElem?_append_right (by omega), show rest.length + j - rest.length = j from by omega, List.getElem?_append_left (by rw [List.length_map]; exact hj), List.getElem?_map, List.getElem?_eq_getElem hj]
  rfl
theorem map_set_nd {β : Type} (F F' : Str → β) : ∀ (s : List Str) (j : Nat) (hj : j < s.length), s.Nodup → (∀ h, h ≠ s[j] → F' h = F h) → (s.map F).set j (F' s[j]) = s.map F'
  | [], j, hj, _, _ => by simp at hj
  | a :: r, 0, _, nd, h => by
    obtain ⟨n1, n2⟩ := nodTwo nd
    show F' a :: r.map F = F' a :: r.map F'
    rw [List.map_congr_left (f := F) (g := F') fun b hb => (h b (fun (z : b = a) => n1 (by rw [← z]; exact hb))).symm]
  | a :: r, j + 1, hj, nd, h => by
    obtain ⟨n1, n2⟩ := nodTwo nd
    have hj' : j < r.length := by simpa using hj
    show F a :: (r.map F).set j (F' r[j]) = F' a :: r.map F'
    rw [map_set_nd F F' r j hj' n2 h, h a fun z => n1 (z ▸ List.getElem_mem _)]
theorem stI_setL {j : Nat} (hj : j < s.length) (nd : s.Nodup) (h : ∀ a, a ≠ s[j] → g' a = g a) : (stI C fs rest s g f).set (rest.length + 1 + j) (.L ((sD (g' s[j])).map .d)) = stI C fs rest s g' f := by
  unfold stI
  rw [show rest.length + 1 + j = (rest.length + j) + 1 from by omega, List.set_cons_succ, List.set_append_right _ _ (by omega), show rest.length + j - rest.length = j from by omega, List.set_append_left _ _ (by rw [List.length_map]; exact hj)]
  rw [map_set_nd (fun h => Cell.L ((sD (g h)).map .d)) (fun h => Cell.L ((sD (g' h)).map .d)) s j hj nd fun a ha => by rw [h a ha]]
theorem stI_setM {f' : Nat → Val} : (stI C fs rest s g f).set (rest.length + 1 + s.length) (.M (dKo s 0 f')) = stI C fs rest s g f' := by
  unfold stI
  rw [show rest.length + 1 + s.length = (rest.length + s.length) + 1 from by omega, List.set_cons_succ, List.set_append_right _ _ (by omega), show rest.length + s.length - rest.length = s.length from by omega, List.set_append_right _ _ (by simp), List.length_map, Nat.sub_self]
  rfl
theorem dKo_ok {m : Nat} (f : Nat → Val) : ∀ (s : List Str) (o : Nat), (∀ j, o ≤ j → j < o + s.length → (f j).ok m = true) → ((dKo s o f).all fun p => p.2.ok m) = true
  | [], _, _ => rfl
  | a :: r, o, h => by
    rw [dKo, List.all_cons, h o (Nat.le_refl _) (by simp), dKo_ok f r (o + 1) fun j h1 h2 => h j (by omega) (by rw [List.length_cons]; omega)]
    rfl
theorem stI_ok {D : Nat} (hfl : Flat rest) (hD : D < rest.length + 1 + s.length + 1) (hf : ∀ j, j < s.length → (f j).ok (rest.length + 1 + s.length + 1) = true) : trimC (rest.length + 1 + s.length + 1) (rest.length + 1 + s.length + 1) (stI C (nF D) rest s g f) = stI C (nF D) rest s g f := by
  have h : ∀ c, c ∈ stI C (nF D) rest s g f → c.ok (rest.length + 1 + s.length + 1) = true := fun c hc => by
    unfold stI at hc
    rcases inCons hc with rfl | hc
    · show (decide (D < _) && true) = true
      rw [decide_eq_true hD]
      rfl
    · rcases inApp hc with hc | hc
      · exact (cell_ok0 (f := id) (hfl c hc)).2.2 _
      · rcases inApp hc with hc | hc
        · obtain ⟨a, _, rfl⟩ := List.mem_map.mp hc
          exact ok_Ld
        · rw [List.mem_singleton.mp hc]
          exact dKo_ok f s 0 fun j _ hj => hf j (by omega)
  have := trimC_id h
  rwa [stI_len] at this
end
theorem sortS_perm (l : List Str) : (sortS l).Perm l := List.mergeSort_perm _ _
theorem sortS_nd {l : List Str} (h : l.Nodup) : (sortS l).Nodup := (sortS_perm l).nodup_iff.mpr h
theorem sortS_len (l : List Str) : (sortS l).length = l.length := (sortS_perm l).length_eq
theorem sortS_mem {l : List Str} {x : Str} : x ∈ sortS l ↔ x ∈ l := (sortS_perm l).mem_iff
theorem neigh_snoc (l : List (Str × Str)) (p : Str × Str) (h : Str) : neigh (l ++ [p]) h = neigh l h ++ ((if p.1 = h then [p.2] else []) ++ (if p.2 = h then [p.1] else [])) := by
  unfold neigh
  rw [List.flatMap_append]
  simp
theorem dKo_new (f : Nat → Val) (v : Val) {s : List Str} {a : Str} (h : a ∉ s) : putD (dKo s 0 f) (.inr a) v = dKo s 0 f ++ [(.inr a, v)] := by
  unfold putD
  have ha : ((dKo s 0 f).any fun p => decide (p.1 = (Sum.inr a : Key))) = false := by
    rw [List.any_eq_false]
    intro p hp e
    have hk : p.1 ∈ (dKo s 0 f).map (·.1) := List.mem_map_of_mem hp
    rw [dKo_keys] at hk
    obtain ⟨b, hb, e2⟩ := List.mem_map.mp hk
    have e3 : p.1 = (Sum.inr a : Key) := of_decide_eq_true e
    rw [← e2] at e3
    injection e3 with e3
    exact h (e3 ▸ hb)
  rw [ha, if_neg (by decide)]
theorem it_dK {Γ : Gam} {y : Val} {s : List Str} {f : Nat → Val} (h : Γ.shp y = .M (dKo s 0 f)) (nd : s.Nodup) {j : Nat} (hj : j < s.length) : Γ.item y (.d (.str s[j])) (f j) := by
  refine .inr (.inr (.inl ?_))
  unfold Gam.dget
  rw [h]
  show some (look (dKo s 0 f) (.inr s[j])) = _
  rw [dKo_look f s 0 nd j hj, Nat.zero_add]
theorem dlS_stI {C : Addr} {fs0 fs : List (Str × Val)} {rest : List Cell} {s : List Str} {g : Str → List Str} {f : Nat → Val} {y : Val} {ds : List D} (h : dlS (.O C fs0 :: rest) y = some ds) : dlS (stI C fs rest s g f) y = some ds := by
  have h1 : dlS ((Cell.O C fs0 :: rest).set 0 (.O C fs)) y = some ds := dlS_ne h (show (Cell.O C fs0 :: rest)[0]? = some (.O C fs0) from rfl) (fun _ z => by cases z) fun _ z => by cases z
  exact dlS_more (st := .O C fs :: rest) h1 _
theorem frzs_d {f : Nat} {Γ : Gam} : ∀ ds : List D, Gam.frzs f Γ (ds.map .d) = some (ds, Γ)
  | [] => by rw [List.map_nil, Gam.frzs]
  | x :: r => by
    have e : Gam.frz f Γ (.d x) = some (x, Γ) := by cases f <;> rw [Gam.frz]
    rw [List.map_cons, Gam.frzs, e]
    simp only
    rw [frzs_d r]
theorem frz_M {f : Nat} {sl : List (Option Val)} {st : List Cell} {lk : Bool} {n : Nat} {kvs : List (Key × D)} (h : st[n]? = some (.M (snd kvs))) : Gam.frz (f + 1) ⟨sl, st, lk⟩ (.own n) = some (.dct kvs, ⟨sl, st.set n (.fz (.dct kvs)), lk⟩) := by
  have e1 : (snd kvs).map (·.2) = (kvs.map (·.2)).map .d := snd_snd kvs
  have e2 : ((snd kvs).map (·.1)).zip (kvs.map (·.2)) = kvs := by
    rw [snd_fst]
    clear h e1
    induction kvs with
    | nil => rfl
    | cons p r ih => rw [List.map_cons, List.map_cons, List.zip_cons_cons, ih]
  rw [Gam.frz]
  simp only
  rw [h]
  simp only
  rw [e1, frzs_d]
  simp only
  rw [h]
  simp only
  rw [e2]
theorem nearK_dK (names : List Str) (links : List (Str × Str)) (f : Nat → Val) (hf : ∀ j (hj : j < (sortS names).length), f j = .d (.lst (sD (sortS (neigh links (sortS names)[j]))))) : snd (nearK (nearL names links)) = dKo (sortS names) 0 f := by
  unfold snd nearK nearL
  simp only [List.map_map]
  have key : ∀ (s : List Str) (o : Nat), (∀ j (hj : j < s.length), f (o + j) = .d (.lst (sD (sortS (neigh links s[j]))))) → (s.map ((fun p : Key × D => (p.1, Val.d p.2)) ∘ (fun p : Str × List Str => ((Sum.inr p.1 : Key), D.lst (sD p.2))) ∘ fun h => (h, sortS (neigh links h)))) = dKo s o f := by
    intro s
    induction s with
    | nil => intro o _; rfl
    | cons a r ih =>
      intro o h
      rw [List.map_cons, dKo, ih (o + 1) fun j hj => by
        have := h (j + 1) (by rw [List.length_cons]; omega)
        rw [show o + 1 + j = o + (j + 1) from by omega]
        exact this]
      have h0 := h 0 (by simp)
      rw [Nat.add_zero] at h0
      rw [h0]
      rfl
  exact key (sortS names) 0 fun j hj => by rw [Nat.zero_add]; exact hf j hj
theorem minS_mem : ∀ (l : List Str) (x : Str), minS x l ∈ x :: l
  | [], x => List.mem_cons_self
  | y :: l, x => by
    unfold minS
    rw [List.foldl_cons]
    have := minS_mem l (if sLt y x = true then y else x)
    unfold minS at this
    rcases inCons this with h | h
    · rw [h]
      split
      · exact List.mem_cons_of_mem _ List.mem_cons_self
      · exact List.mem_cons_self
    · exact List.mem_cons_of_mem _ (List.mem_cons_of_mem _ h)
theorem reach_mono {g g' : Str → List Str} {bar : Option (Str × Str)} (h : ∀ a b, b ∈ g a → b ∈ g' a) {a b : Str} (r : Reach g bar a b) : Reach g' bar a b := by
  induction r with
  | refl => exact .refl _
  | step _ hc hb ih => exact .step ih (h _ _ hc) hb
theorem neigh_mem {names : List Str} {links : List (Str × Str)} (lo : LinksOk names links) {a b : Str} (h : b ∈ neigh links a) : a ∈ names ∧ b ∈ names := by
  unfold neigh at h
  obtain ⟨p, hp, h⟩ := List.mem_flatMap.mp h
  obtain ⟨m1, m2, _⟩ := lo.mem p hp
  rcases inApp h with h | h
  · split at h
    · rename_i e
      rw [List.mem_singleton.mp h, ← e]
      exact ⟨m1, m2⟩
    · cases h
  · split at h
    · rename_i e
      rw [List.mem_singleton.mp h, ← e]
      exact ⟨m2, m1⟩
    · cases h
theorem at_of {l : List Str} {a : Str} (h : a ∈ l) : ∃ j, ∃ hj : j < l.length, l[j] = a := by
  obtain ⟨j, hj, e⟩ := atMem h
  exact ⟨j, hj, e⟩
theorem near_look {names : List Str} {links : List (Str × Str)} (nd : names.Nodup) {a : Str} (h : a ∈ names) : look (nearL names links) a = some (sortS (neigh links a)) := by
  obtain ⟨j, hj, rfl⟩ := at_of (sortS_mem.mpr h)
  have hl : j < (nearL names links).length := by unfold nearL; rw [List.length_map]; exact hj
  have e : (nearL names links)[j] = ((sortS names)[j], sortS (neigh links (sortS names)[j])) := by
    exact List.getElem_map (fun h => (h, sortS (neigh links h)))
  have := look_at (near_nd (links := links) nd) hl
  rw [e] at this
  exact this
/-- what stands in the dict behind i turns of the sorting -/
def fFill (links : List (Str × Str)) (s : List Str) (r i j : Nat) : Val := if j < i then .d (.lst (sD (sortS (neigh links (s.getD j ⟨#[]⟩))))) else .own (r + 1 + j)
theorem fFill_ok {links : List (Str × Str)} {s : List Str} {r i j m : Nat} (h : r + 1 + j < m) : (fFill links s r i j).ok m = true := by
  unfold fFill
  split
  · rfl
  · exact decide_eq_true h
theorem v_Web__init__ (Θ : Wh) (T : WebCls Θ) : VOk (r_Web__init__ Θ) 3 7 (sp_Web__init__ Θ) := by
  rintro lk _ _ k x ⟨y, z, names, links, rest, rfl, rfl, hfl, hy, hz, hok, K⟩
  refine ⟨rfl, ?_⟩
  unfold r_Web__init__
  show rSeq _ _ _ _
  refine sq fun M hM => ?_
  simp [List.replicate]
  refine call_check_houses hy hok.toNamesOk ?_
  apply hM; clear hM
  refine sq fun M hM => ?_
  simp
  refine call_check_links hy hz hok.toNamesOk hok.toLinksOk ?_
  apply hM; clear hM
  have hsn : ∀ x, x ∈ names → PyData.strOk x = true := fun x hx => isName_ok (hok.ok x hx)
  have hlo := hok.lo
  have hhi := hok.hi
  have sok : SortOk (sD names) := sortOk_sD hsn (by rw [z_sizeLine]; omega)
  generalize es : sortS names = s at *
  have snd' : s.Nodup := by rw [← es]; exact sortS_nd hok.nd
  have slen : s.length = names.length := by rw [← es]; exact sortS_len names
  have smem : ∀ {a}, a ∈ names → a ∈ s := fun {a} h => by rw [← es]; exact sortS_mem.mpr h
  have hss : (sD s).length = s.length := by simp [sD]
  have hsort : (sD names).mergeSort leD = sD s := by rw [sort_sD, es]
  -- self._near = {..}
  refine sq fun M hM => ?_
  refine ⟨_, rfl, sorted_go (ds := sD names) (by rw [dl_lk]; exact hy) sok ?_⟩
  rw [hsort]
  refine ⟨.lst (sD s), by show (dvals _).map _ = _; rw [dvals_map]; rfl, (sD s).map .d, rfl, ?_⟩
  rw [List.length_map, hss]
  refine ⟨fun i acc st => st = (.O Θ.Web [] :: rest) ++ List.replicate i (.L []) ∧ acc = dKo (s.take i) 0 (fun j => .own (rest.length + 1 + j)), ⟨by simp, rfl⟩, ?_, ?_, ?_⟩
  · rintro i acc st hi ⟨rfl, rfl⟩
    refine ⟨rfl, ?_⟩
    rw [dKo_len, List.length_take, z_sizeLine]
    omega
  · rintro i acc st hi ⟨rfl, rfl⟩
    have ei : ((sD s).map Val.d).getD i (.d .non) = .d (.str s[i]) := by
      unfold sD
      rw [List.getD_eq_getElem?_getD, List.getElem?_map, List.getElem?_map, List.getElem?_eq_getElem hi]
      rfl
    have hn : s[i] ∉ s.take i := fun hm => by
      obtain ⟨j, hj, e2⟩ := List.mem_take_iff_getElem.mp hm
      have := (List.getElem_inj snd').mp e2
      omega
    change rgName 5 (((sD s).map Val.d).getD i (Val.d D.non)) _ _ _
    rw [ei, z_gname, z_yes, if_pos rfl]
    refine ⟨_, rfl, by simp, .inr s[i], rfl, ?_, ?_⟩
    · rw [List.replicate_succ', List.append_assoc]
    · rw [dKo_new _ _ hn, List.take_succ, List.getElem?_eq_getElem hi]
      show _ = dKo (s.take i ++ [s[i]]) 0 _
      rw [dKo_snoc, List.length_take, Nat.min_eq_left (Nat.le_of_lt hi)]
      congr 4
      simp
      omega
  rintro acc st ⟨rfl, rfl⟩
  rw [List.take_of_length_le (Nat.le_refl _)]
  refine ⟨_, rfl, 0, Θ.Web, [], rfl, rfl, T.cl, T.na, by simp, ?_⟩
  have e0 : ∀ D, (((Cell.O Θ.Web [] :: rest ++ List.replicate s.length (Cell.L [])) ++ [Cell.M (dKo s 0 fun j => .own (rest.length + 1 + j))]).set 0 (.O Θ.Web (nF D))) = stI Θ.Web (nF D) rest s (neigh []) (fun j => .own (rest.length + 1 + j)) := fun D => by
    unfold stI
    have : s.map (fun h => Cell.L ((sD (neigh [] h)).map .d)) = List.replicate s.length (Cell.L []) := by
      rw [show (fun h => Cell.L ((sD (neigh [] h)).map Val.d)) = fun _ => Cell.L [] from rfl, List.map_const']
    rw [this]
    simp
  have eD : (Cell.O Θ.Web [] :: rest ++ List.replicate s.length (Cell.L [])).length = rest.length + 1 + s.length := by simp; omega
  have e1 := e0 (rest.length + 1 + s.length)
  have G : M ⟨[some (.own 0), some y, some z, none, none, none, none], stI Θ.Web (nF (rest.length + 1 + s.length)) rest s (neigh []) (fun j => .own (rest.length + 1 + j)), lk⟩ := by
    clear e1 eD e0
    apply hM
    clear hM M
    -- for a, b in links
    refine sq fun M hM => ?_
    have hz4 : ∀ {g : Str → List Str} {f : Nat → Val}, dlS (stI Θ.Web (nF (rest.length + 1 + s.length)) rest s g f) z = some (tpD links) := fun {g f} => dlS_stI hz
    have hy4 : ∀ {g : Str → List Str} {f : Nat → Val}, dlS (stI Θ.Web (nF (rest.length + 1 + s.length)) rest s g f) y = some (sD names) := fun {g f} => dlS_stI hy
    have hlt : (tpD links).length = links.length := by simp [tpD]
    have yok : y.ok (rest.length + 1 + s.length + 1) = true := Val.ok_le (dlS_ok hy) (by simp; omega)
    have zok : z.ok (rest.length + 1 + s.length + 1) = true := Val.ok_le (dlS_ok hz) (by simp; omega)
    refine ⟨_, rfl, (tpD links).map .d, dlS_shp hz4, ?_⟩
    rw [List.length_map, hlt]
    refine ⟨fun i Γ => ∃ a b, Is Γ ⟨[some (.own 0), some y, some z, fr a, fr b, none, none], stI Θ.Web (nF (rest.length + 1 + s.length)) rest s (neigh (links.take i)) (fun j => .own (rest.length + 1 + j)), lk⟩, ⟨none, none, .r⟩, ?_, ?_, ?_⟩
    · rintro i _ _ ⟨a, b, e⟩
      cases e
      exact dlS_shp hz4
    · rintro i _ hi ⟨a, b, e⟩
      cases e
      obtain ⟨m1, m2, m3⟩ := hok.mem links[i] (List.getElem_mem _)
      obtain ⟨j1, h1, q1⟩ := at_of (smem m1)
      obtain ⟨j2, h2, q2⟩ := at_of (smem m2)
      have ei : ((tpD links).map Val.d).getD i (.d .non) = .d (.tup [.str links[i].1, .str links[i].2]) := by
        unfold tpD
        rw [List.getD_eq_getElem?_getD, List.getElem?_map, List.getElem?_map, List.getElem?_eq_getElem hi]
        rfl
      have eT : links.take (i + 1) = links.take i ++ [links[i]] := by
        rw [List.take_succ, List.getElem?_eq_getElem hi]
        rfl
      change rgTup 2 _ (((tpD links).map Val.d).getD i (Val.d D.non)) _ _ _
      rw [ei]
      refine ⟨_, rfl, rfl, _, _, rfl, _, _, rfl, rfl, ?_⟩
      refine sq fun M2 hM2 => ?_
      have it1 := it_dK (Γ := ⟨[some (.own 0), some y, some z, some (.d (.str links[i].1)), some (.d (.str links[i].2)), none, none], stI Θ.Web (nF (rest.length + 1 + s.length)) rest s (neigh (links.take i)) (fun j => .own (rest.length + 1 + j)), lk⟩) (y := .own (rest.length + 1 + s.length)) (f := fun j => .own (rest.length + 1 + j)) (s := s) (by rw [z_shp_o, stI_M]; rfl) snd' h1
      rw [q1] at it1
      have few := hok.few
      have nb : ∀ l h, (neigh (links.take l) h).length ≤ 2000 := fun l h => by
        have := neigh_len (links.take l) h
        rw [List.length_take] at this
        omega
      refine ⟨_, rfl, Θ.Web, _, .own (rest.length + 1 + s.length), rfl, T.cl, T.na, rfl, _, rfl, _, it1, isT_L (stI_L h1), _, rfl, rest.length + 1 + j1, _, .d (.str links[i].2), rfl, rfl, stI_L h1, ?_, ?_⟩
      · have := nb i s[j1]
        rw [List.length_map, z_sizeLine]
        unfold sD
        rw [List.length_map]
        omega
      apply hM2; clear hM2
      have e5 : (stI Θ.Web (nF (rest.length + 1 + s.length)) rest s (neigh (links.take i)) (fun j => Val.own (rest.length + 1 + j))).set (rest.length + 1 + j1) (.L ((sD (neigh (links.take i) s[j1])).map .d ++ [.d (.str links[i].2)])) = stI Θ.Web (nF (rest.length + 1 + s.length)) rest s (fun h => neigh (links.take i) h ++ (if links[i].1 = h then [links[i].2] else [])) (fun j => Val.own (rest.length + 1 + j)) := by
        rw [← stI_setL h1 snd' (g' := fun h => neigh (links.take i) h ++ (if links[i].1 = h then [links[i].2] else [])) fun a ha => by rw [if_neg (fun z => ha (by rw [← z, q1])), List.append_nil]]
        simp [q1, sD]
      dsimp only
      rw [e5]
      have it2 := it_dK (Γ := ⟨[some (.own 0), some y, some z, some (.d (.str links[i].1)), some (.d (.str links[i].2)), none, none], stI Θ.Web (nF (rest.length + 1 + s.length)) rest s (fun h => neigh (links.take i) h ++ (if links[i].1 = h then [links[i].2] else [])) (fun j => .own (rest.length + 1 + j)), lk⟩) (y := .own (rest.length + 1 + s.length)) (f := fun j => .own (rest.length + 1 + j)) (s := s) (by rw [z_shp_o, stI_M]; rfl) snd' h2
      rw [q2] at it2
      refine ⟨_, rfl, Θ.Web, _, .own (rest.length + 1 + s.length), rfl, T.cl, T.na, rfl, _, rfl, _, it2, isT_L (stI_L h2), _, rfl, rest.length + 1 + j2, _, .d (.str links[i].1), rfl, rfl, stI_L h2, ?_, ?_⟩
      · have := nb i s[j2]
        rw [List.length_map, z_sizeLine]
        unfold sD
        rw [List.length_map, List.length_append]
        have : (if links[i].1 = s[j2] then [links[i].2] else ([] : List Str)).length ≤ 1 := by split <;> simp
        omega
      have e6 : (stI Θ.Web (nF (rest.length + 1 + s.length)) rest s (fun h => neigh (links.take i) h ++ (if links[i].1 = h then [links[i].2] else [])) (fun j => Val.own (rest.length + 1 + j))).set (rest.length + 1 + j2) (.L ((sD ((fun h => neigh (links.take i) h ++ (if links[i].1 = h then [links[i].2] else [])) s[j2])).map .d ++ [.d (.str links[i].1)])) = stI Θ.Web (nF (rest.length + 1 + s.length)) rest s (neigh (links.take (i + 1))) (fun j => Val.own (rest.length + 1 + j)) := by
        rw [← stI_setL h2 snd' (g' := neigh (links.take (i + 1))) fun a ha => by rw [eT, neigh_snoc, if_neg (fun (z : links[i].2 = a) => ha (by rw [← z, q2])), List.append_nil]]
        rw [eT, neigh_snoc]
        simp [q2, sD]
      have e7 := stI_ok (C := Θ.Web) (rest := rest) (s := s) (g := neigh (links.take (i + 1))) (f := fun j => Val.own (rest.length + 1 + j)) (D := rest.length + 1 + s.length) hfl (by omega) fun j hj => decide_eq_true (by omega)
      refine ⟨some (.str links[i].1), some (.str links[i].2), ?_⟩
      dsimp only at e6 ⊢
      rw [z_trim]
      dsimp only
      rw [e6, stI_len, e7]
      simp only [List.set_cons_succ, List.set_cons_zero]
      rw [trimS_o (by omega), trimS_v yok, trimS_v zok]
      simp only [trimS_d, trimS_n, trimS_nil, trimS_fr]
      exact .r
    rintro _ ⟨a, b, e⟩
    cases e
    rw [List.take_of_length_le (Nat.le_refl _)]
    apply hM; clear hM M
    -- every list is sorted
    refine sq fun M hM => ?_
    have f0 : (fun j => Val.own (rest.length + 1 + j)) = fFill links s rest.length 0 := by funext j; simp [fFill]
    rw [f0]
    have few := hok.few
    have nbr : ∀ h, (neigh links h).length ≤ 2000 := fun h => by
      have := neigh_len links h
      omega
    have nok : ∀ h x, x ∈ neigh links h → PyData.strOk x = true := fun h x hx => hsn _ (neigh_mem hok.toLinksOk hx).2
    refine ⟨_, rfl, sorted_go (ds := sD names) (by rw [dl_lk]; exact hy4) sok ?_⟩
    rw [hsort]
    refine ⟨.lst (sD s), by show (dvals _).map _ = _; rw [dvals_map]; rfl, (sD s).map .d, rfl, ?_⟩
    rw [List.length_map, hss]
    refine ⟨fun i Γ => ∃ h, Is Γ ⟨[some (.own 0), some y, some z, fr a, fr b, fr h, none], stI Θ.Web (nF (rest.length + 1 + s.length)) rest s (neigh links) (fFill links s rest.length i), lk⟩, ⟨none, .r⟩, ?_, ?_, ?_⟩
    · rintro i _ _ ⟨h, e⟩
      cases e
      rfl
    · rintro i _ hi ⟨h, e⟩
      cases e
      have ei : ((sD s).map Val.d).getD i (.d .non) = .d (.str s[i]) := by
        unfold sD
        rw [List.getD_eq_getElem?_getD, List.getElem?_map, List.getElem?_map, List.getElem?_eq_getElem hi]
        rfl
      change rgName 5 (((sD s).map Val.d).getD i (Val.d D.non)) _ _ _
      rw [ei, z_gname]
      have ef : fFill links s rest.length i i = .own (rest.length + 1 + i) := by simp [fFill]
      have it1 := it_dK (Γ := ⟨[some (.own 0), some y, some z, fr a, fr b, some (.d (.str s[i])), none], stI Θ.Web (nF (rest.length + 1 + s.length)) rest s (neigh links) (fFill links s rest.length i), lk⟩) (y := .own (rest.length + 1 + s.length)) (f := fFill links s rest.length i) (s := s) (by rw [z_shp_o, stI_M]; rfl) snd' hi
      rw [ef] at it1
      refine ⟨_, rfl, Θ.Web, _, .own (rest.length + 1 + s.length), rfl, T.cl, T.na, rfl, _, rfl, _, it1, sorted_go (ds := sD (neigh links s[i])) ?_ (sortOk_sD (nok _) (by have := nbr s[i]; rw [z_sizeLine]; omega)) ?_⟩
      · rw [dl_lk]
        unfold dlS Gam.dl
        rw [z_shp_o, stI_L hi]
        exact dvals_map _
      rw [sort_sD]
      refine ⟨.lst (sD (sortS (neigh links s[i]))), by show (dvals _).map _ = _; rw [dvals_map]; rfl, ?_⟩
      refine ⟨_, rfl, Θ.Web, _, .own (rest.length + 1 + s.length), rfl, T.cl, T.na, rfl, _, rfl, rest.length + 1 + s.length, rfl, .inr (.inl ⟨_, .str s[i], .inr s[i], stI_M, rfl, rfl, by rw [dKo_len, z_sizeLine]; omega, ?_⟩)⟩
      have e8 : (fun j => if j = i then Val.d (.lst (sD (sortS (neigh links s[i])))) else fFill links s rest.length i j) = fFill links s rest.length (i + 1) := by
        funext j
        unfold fFill
        by_cases c : j = i
        · subst c
          rw [if_pos rfl, if_pos (by omega), List.getD_eq_getElem?_getD, List.getElem?_eq_getElem hi]
          rfl
        · rw [if_neg c]
          by_cases c2 : j < i
          · rw [if_pos c2, if_pos (by omega)]
          · rw [if_neg c2, if_neg (by omega)]
      have e7 := stI_ok (C := Θ.Web) (rest := rest) (s := s) (g := neigh links) (f := fFill links s rest.length (i + 1)) (D := rest.length + 1 + s.length) hfl (by omega) fun j hj => fFill_ok (by omega)
      refine ⟨some (.str s[i]), ?_⟩
      rw [dKo_put _ _ s snd' i hi, e8, z_trim]
      dsimp only
      rw [stI_setM, stI_len, e7]
      simp only [List.set_cons_succ, List.set_cons_zero]
      rw [trimS_o (by omega), trimS_v yok, trimS_v zok]
      simp only [trimS_d, trimS_n, trimS_nil, trimS_fr]
      exact .r
    rintro _ ⟨h, e⟩
    cases e
    apply hM; clear hM M
    -- found = reached(self._near, min(houses))
    refine sq fun M hM => ?_
    have hdk : snd (nearK (nearL names links)) = dKo s 0 (fFill links s rest.length s.length) := by
      rw [← es]
      refine nearK_dK names links _ fun j hj => ?_
      unfold fFill
      rw [if_pos hj, List.getD_eq_getElem?_getD, List.getElem?_eq_getElem hj]
      rfl
    have cok : (Cell.M (dKo s 0 (fFill links s rest.length s.length))).ok 0 = true := dKo_ok _ s 0 fun j _ hj => by
      unfold fFill
      rw [if_pos (by omega)]
      rfl
    obtain ⟨n0, nr, en⟩ : ∃ n0 nr, names = n0 :: nr := by
      cases names with
      | nil => simp at hlo
      | cons a r => exact ⟨a, r, rfl⟩
    have nk : (nearL names links).map (·.1) = s := by
      unfold nearL
      rw [List.map_map, es]
      conv => rhs; rw [← List.map_id s]
      rfl
    have hmin : minS n0 nr ∈ names := by rw [en]; exact minS_mem nr n0
    refine ⟨_, rfl, Θ.Web, _, .own (rest.length + 1 + s.length), rfl, T.cl, T.na, rfl, _, rfl, ⟨y, sD names, rfl, by rw [dl_lk]; exact hy4, .inl ⟨n0, nr, by rw [en]; exact sxs_map _, ?_⟩⟩⟩
    have eDat : (stI Θ.Web (nF (rest.length + 1 + s.length)) rest s (neigh links) (fFill links s rest.length s.length)).getD (rest.length + 1 + s.length) .no = .M (dKo s 0 (fFill links s rest.length s.length)) := getD_at stI_M
    simp only [z_anil, List.map_cons, List.map_nil, List.cons_append, List.nil_append]
    refine callW_flat [rest.length + 1 + s.length] (by simp) (fun m hm => ?_) (fun m hm => ?_) (by simp [Val.all]) ⟨.own 0, minS n0 nr, none, nearL names links, by simp [Val.mp, posIn, barD], ?_, ?_, ?_, ?_, ?_, (fun p h => by cases h), ?_, ?_, fun found fnd freach => ?_⟩
    · rw [List.mem_singleton.mp hm, stI_len]; omega
    · rw [List.mem_singleton.mp hm, eDat]; exact cok
    · simp only [List.map_cons, List.map_nil, eDat]
      rw [hdk]
      rfl
    · simp only [List.map_cons, List.map_nil, eDat]; exact Flat.cons cok Flat.nil
    · rw [nk]; exact snd'
    · rw [nk]; exact smem hmin
    · have := congrArg List.length nk
      rw [List.length_map] at this
      omega
    · rw [nk]
      intro x hx
      exact hok.ok x (sortS_mem.mp (by rw [es]; exact hx))
    · intro p hp
      refine ⟨?_, fun b hb => ?_⟩
      · have := nearL_len p hp
        omega
      · rw [nk]
        obtain ⟨h', _, rfl⟩ := List.mem_map.mp hp
        exact smem (neigh_mem hok.toLinksOk (sortS_mem.mp hb)).2
    have hall : ∀ x, x ∈ s → x ∈ found := fun x hx => by
      rw [freach]
      have hx' : x ∈ names := sortS_mem.mp (by rw [es]; exact hx)
      refine reach_mono (g := neigh links) (fun a b hb => ?_) (hok.jo _ _ hmin hx')
      rw [near_look hok.nd (neigh_mem hok.toLinksOk hb).1]
      exact sortS_mem.mpr hb
    simp only [List.map_cons, List.map_nil, eDat]
    have em : ∀ g, mergeSt g [rest.length + 1 + s.length] ([.M (dKo s 0 (fFill links s rest.length s.length))] ++ [foundK found]) (stI Θ.Web (nF (rest.length + 1 + s.length)) rest s (neigh links) (fFill links s rest.length s.length)) = stI Θ.Web (nF (rest.length + 1 + s.length)) rest s (neigh links) (fFill links s rest.length s.length) ++ [foundK found] := fun g => by
      show (List.set _ _ (Cell.mp g _)) ++ [Cell.mp g (foundK found)] = _
      rw [(cell_ok0 cok).1, (cell_ok0 ok_found).1, set_same stI_M]
    have ev : (Val.own [Cell.M (dKo s 0 (fFill links s rest.length s.length))].length).mp (backN [rest.length + 1 + s.length] (stI Θ.Web (nF (rest.length + 1 + s.length)) rest s (neigh links) (fFill links s rest.length s.length)).length) = .own (rest.length + 1 + s.length + 1) := by
      rw [stI_len]
      simp [Val.mp, backN]
    have em' := em (backN [rest.length + 1 + s.length] (stI Θ.Web (nF (rest.length + 1 + s.length)) rest s (neigh links) (fFill links s rest.length s.length)).length)
    unfold foundK at em'
    rw [em', ev]
    rw [z_gname]
    apply hM; clear hM
    dsimp only
    simp only [List.set_cons_succ, List.set_cons_zero]
    have hSl : (stI Θ.Web (nF (rest.length + 1 + s.length)) rest s (neigh links) (fFill links s rest.length s.length) ++ [foundK found]).length = rest.length + 1 + s.length + 1 + 1 := by
      rw [List.length_append, stI_len]
      rfl
    have hfo : ∀ {sl' : List (Option Val)}, (⟨sl', stI Θ.Web (nF (rest.length + 1 + s.length)) rest s (neigh links) (fFill links s rest.length s.length) ++ [foundK found], lk⟩ : Gam).st[rest.length + 1 + s.length + 1]? = some (foundK found) := fun {sl'} => by
      show (stI _ _ _ _ _ _ ++ [foundK found])[_]? = _
      rw [List.getElem?_append_right (by rw [stI_len]; exact Nat.le_refl _), stI_len, Nat.sub_self]
      rfl
    have yok2 : y.ok (rest.length + 1 + s.length + 1 + 1) = true := Val.ok_le yok (by omega)
    have zok2 : z.ok (rest.length + 1 + s.length + 1 + 1) = true := Val.ok_le zok (by omega)
    have okAll : trimC (rest.length + 1 + s.length + 1 + 1) (rest.length + 1 + s.length + 1 + 1) (stI Θ.Web (nF (rest.length + 1 + s.length)) rest s (neigh links) (fFill links s rest.length s.length) ++ [foundK found]) = stI Θ.Web (nF (rest.length + 1 + s.length)) rest s (neigh links) (fFill links s rest.length s.length) ++ [foundK found] := by
      have h : ∀ c, c ∈ stI Θ.Web (nF (rest.length + 1 + s.length)) rest s (neigh links) (fFill links s rest.length s.length) ++ [foundK found] → c.ok (rest.length + 1 + s.length + 1 + 1) = true := fun c hc => by
        rcases inApp hc with hc | hc
        · unfold stI at hc
          rcases inCons hc with rfl | hc
          · show (decide (_ < _) && true) = true
            rw [dec1 (by omega)]
            rfl
          · rcases inApp hc with hc | hc
            · exact (cell_ok0 (f := id) (hfl c hc)).2.2 _
            · rcases inApp hc with hc | hc
              · obtain ⟨a, _, rfl⟩ := List.mem_map.mp hc
                exact ok_Ld
              · rw [List.mem_singleton.mp hc]
                exact (cell_ok0 (f := id) cok).2.2 _
        · rw [List.mem_singleton.mp hc]
          exact ok_found
      have := trimC_id h
      rwa [hSl] at this
    refine ⟨_, rfl, sorted_go (ds := sD names) (by rw [dl_lk]; exact dlS_more hy4 _) sok ?_⟩
    rw [hsort]
    refine ⟨.lst (sD s), by show (dvals _).map _ = _; rw [dvals_map]; rfl, (sD s).map .d, rfl, ?_⟩
    rw [List.length_map, hss]
    refine ⟨fun i Γ => ∃ h, Is Γ ⟨[some (.own 0), some y, some z, fr a, fr b, fr h, some (.own (rest.length + 1 + s.length + 1))], stI Θ.Web (nF (rest.length + 1 + s.length)) rest s (neigh links) (fFill links s rest.length s.length) ++ [foundK found], lk⟩, ⟨h, .r⟩, ?_, ?_, ?_⟩
    · rintro i _ _ ⟨h, e⟩
      cases e
      rfl
    · rintro i _ hi ⟨h, e⟩
      cases e
      have ei : ((sD s).map Val.d).getD i (.d .non) = .d (.str s[i]) := by
        unfold sD
        rw [List.getD_eq_getElem?_getD, List.getElem?_map, List.getElem?_map, List.getElem?_eq_getElem hi]
        rfl
      change rgName 5 (((sD s).map Val.d).getD i (Val.d D.non)) _ _ _
      rw [ei, z_gname]
      refine ⟨_, rfl, _, rfl, notin_go (has_found hfo) ⟨_, rfl, ?_⟩⟩
      rw [decide_eq_true (hall _ (List.getElem_mem _))]
      refine ⟨some (.str s[i]), ?_⟩
      rw [z_trim]
      dsimp only
      simp only [List.set_cons_succ, List.set_cons_zero]
      have hSl2 := hSl
      unfold foundK at hSl2
      rw [hSl2]
      rw [okAll, trimS_o (by omega), trimS_v yok2, trimS_v zok2]
      simp only [trimS_d, trimS_n, trimS_nil, trimS_fr]
      rw [trimS_o (by omega), trimS_nil]
      exact .r
    rintro _ ⟨h', e⟩
    cases e
    have eM : (stI Θ.Web (nF (rest.length + 1 + s.length)) rest s (neigh links) (fFill links s rest.length s.length) ++ [foundK found])[rest.length + 1 + s.length]? = some (.M (snd (nearK (nearL names links)))) := by
      rw [hdk, List.getElem?_append_left (by rw [stI_len]; omega)]
      exact stI_M
    refine ⟨0, Θ.Web, nF (rest.length + 1 + s.length), .own (rest.length + 1 + s.length), _, _, rfl, rfl, rfl, frz_M (f := 3) eM, ?_, ?_⟩
    · show (List.set _ (rest.length + 1 + s.length) _)[0]? = _
      rw [List.getElem?_set_ne (by omega)]
      rfl
    · have e9 : trimC (rest.length + 1) (rest.length + 1) ((((stI Θ.Web (nF (rest.length + 1 + s.length)) rest s (neigh links) (fFill links s rest.length s.length) ++ [foundK found]).set (rest.length + 1 + s.length) (.fz (.dct (nearK (nearL names links)))))).set 0 (.O Θ.Web [("_near", .d (nearD names links))])) = .O Θ.Web [("_near", .d (nearD names links))] :: rest := by
        unfold stI
        rw [List.cons_append, show rest.length + 1 + s.length = (rest.length + s.length) + 1 from by omega, List.set_cons_succ, List.set_cons_zero, List.append_assoc, List.set_append_right _ _ (by omega)]
        exact trimC_flat (st := Cell.O Θ.Web [("_near", Val.d (nearD names links))] :: rest) (Flat.cons rfl hfl)
      show k (.d .non) (trimC (rest.length + 1) (rest.length + 1) _)
      have e10 : (putFld "_near" (.d (.dct (nearK (nearL names links)))) (nF (rest.length + 1 + s.length)) : List (Str × Val)) = ([(("_near" : Str), Val.d (nearD names links))] : List (Str × Val)) := rfl
      dsimp only
      rw [e10, e9]
      exact K
  rw [← e1, ← eD] at G
  exact G
end L3

namespace L3
open PySem L2 PyProof.Rows
theorem joinL_signs : ∀ cs : List Nat, TL.joinL [] (cs.map fun c => [c]) = cs
  | [] => rfl
  | [c] => rfl
  | c :: d :: r => by
    show [c] ++ ([] ++ TL.joinL [] ((d :: r).map fun c => [c])) = _
    rw [joinL_signs (d :: r)]
    rfl
theorem join_signs (cs : List Nat) : Txt.join ("" : Str) (cs.map fun c => ⟨#[c]⟩) = ⟨cs.toArray⟩ := by
  rw [TL.join_eq]
  have h := TL.tl_join ("" : Str) (cs.map fun c => (⟨#[c]⟩ : Str))
  have e1   : TL.tl ("" : Str) = [] := by decide +kernel
  have e2 : (cs.map fun c => (⟨#[c]⟩ : Str)).map TL.tl = cs.map fun c => [c] := by
    rw [List.map_map]
    rfl
  rw [e1, e2, joinL_signs] at h
  refine PySem.W.str_of_cps ?_
  show TL.tl _ = cs
  exact h
theorem letters_len : letters.cps.toList.length = 26 := by decide +kernel
theorem letters_nd : letters.cps.toList.Nodup := by decide +kernel
theorem isName_of {cs : List Nat} (h : ∀ c, c ∈ cs → c ∈ letters.cps.toList) (h1 : 1 ≤ cs.length) (h2 : cs.length ≤ 8) : isName ⟨cs.toArray⟩ = true := by
  unfold isName
  simp only [List.size_toArray, Bool.and_eq_true, decide_eq_true_eq, List.all_eq_true]
  exact ⟨⟨h1, h2⟩, h⟩
theorem sign_name {c : Nat} (h : c ∈ letters.cps.toList) : isName ⟨#[c]⟩ = true := isName_of (cs := [c]) (fun d hd => by rw [List.mem_singleton.mp hd]; exact h) (by simp) (by simp)
theorem all_signs {names : List Str} (h : ∀ c, c ∈ letters.cps.toList → (⟨#[c]⟩ : Str) ∈ names) : 26 ≤ names.length := by
  have nd : (letters.cps.toList.map fun c => (⟨#[c]⟩ : Str)).Nodup := by
    rw [List.nodup_iff_pairwise_ne, List.pairwise_map]
    exact letters_nd.imp fun h e => h (by injection e with e; injection e with e; injection e)
  have := nodup_sub_len nd (m := names) fun x hx => by
    obtain ⟨c, hc, rfl⟩ := inMap hx
    exact h c hc
  rw [List.length_map, letters_len] at this
  exact this
theorem v_law_names (Θ : Wh) : VOk (r_law_names Θ) 3 10 (sp_law_names Θ) := by
  rintro lk _ _ k x ⟨ns, p, many, rfl, rfl, hp, h0, h14, K⟩
  refine ⟨rfl, ?_⟩
  unfold r_law_names
  refine sq fun M hM => ?_
  simp [List.replicate]
  apply hM; clear hM
  refine sq fun M hM => ?_
  simp
  apply hM; clear hM
  refine sq fun M hM => ?_
  simp
  refine two (by omega) (by omega) ?_
  refine ⟨fun i Γ => ∃ v5 v6 v7 v8 p, ∃ names : List Str, Is Γ ⟨[some (.d (.scr ns)), some (.own 0), some (.d (.int many)), some (.d (.str letters)), some (.own 1), fr v5, fr v6, fr v7, fr v8, none], [poolC p, .L ((sD names).map .d)], lk⟩ ∧ PoolOk p ∧ names.Nodup ∧ (∀ x, x ∈ names → isName x = true) ∧ names.length = i, ?_, fun _ _ _ _ => trivial, ?_, ?_⟩
  · exact ⟨none, none, none, none, p, [], .r, hp, List.nodup_nil, (fun _ h => by cases h), rfl⟩
  · rintro i _ hi ⟨v5, v6, v7, v8, p, names, e, hp, hnd, hnm, hlen⟩
    cases e
    simp
    refine sq fun M2 hM2 => ?_
    simp
    refine call_take rfl hp (by omega) (by omega) fun r p hp hr0 hr1 => ?_
    simp
    apply hM2; clear hM2
    refine sq fun M2 hM2 => ?_
    obtain ⟨sz, rfl⟩ := Int.eq_ofNat_of_zero_le hr0
    have hsz : sz < 8 := by omega
    have en : ((1 : Int) + (sz : Int)).toNat = 1 + sz := by omega
    refine ⟨rfl, ⟨_, rfl, (1 : Int) + sz, rfl, by omega, by omega, ?_⟩⟩
    rw [en]
    refine ⟨fun j acc st => ∃ p, ∃ cs : List Nat, st = [poolC p, .L ((sD names).map .d)] ∧ PoolOk p ∧ acc = cs.map (fun c => .str ⟨#[c]⟩) ∧ cs.length = j ∧ ∀ c, c ∈ cs → c ∈ letters.cps.toList, ⟨p, [], rfl, hp, rfl, rfl, fun _ h => by cases h⟩, ?_, ?_, ?_⟩
    · rintro j acc st hj ⟨p, cs, rfl, hp, rfl, hl, hcs⟩
      refine ⟨trivial, ?_⟩
      rw [List.length_map, z_sizeLine]
      omega
    · rintro j acc st hj ⟨p, cs, rfl, hp, rfl, hl, hcs⟩
      rw [z_gname, z_yes, if_pos rfl]
      refine ⟨_, rfl, _, rfl, _, rfl, ?_⟩
      simp only [z_c, z_acons, z_anil, List.map_nil, List.append_nil]
      refine call_take (many := 26) rfl hp (by omega) (by omega) fun r p hp hr0 hr1 => ?_
      obtain ⟨c, rfl⟩ := Int.eq_ofNat_of_zero_le hr0
      have hc : c < letters.cps.toList.length := by rw [letters_len]; omega
      have ec : letters.cps.toList[c]? = some letters.cps.toList[c] := List.getElem?_eq_getElem hc
      refine ⟨.d (.str ⟨#[letters.cps.toList[c]]⟩), ?_, ?_⟩
      · rw [z_item_s]
        exact ⟨letters.cps.toList[c], by decide +kernel, by rw [z_atIn]; exact ec, rfl⟩
      · refine ⟨_, rfl, p, cs ++ [letters.cps.toList[c]], ?_, hp, by rw [List.map_append]; rfl, by rw [List.length_append, hl]; rfl, fun d hd => ?_⟩
        · simp [Gam.back, trimC]
        · rcases inApp hd with z | z
          · exact hcs d z
          · rw [inOne z]; exact List.getElem_mem _
    rintro acc st ⟨p, cs, rfl, hp, rfl, hl, hcs⟩
    have hw := isName_of hcs (by omega) (by omega)
    have hsx : ∀ cs : List Nat, sxs (cs.map fun c => D.str ⟨#[c]⟩) = some (cs.map fun c => ⟨#[c]⟩) := fun cs => by
      have := sxs_map (cs.map fun c => (⟨#[c]⟩ : Str))
      rwa [List.map_map] at this
    refine ⟨.lst (cs.map fun c => .str ⟨#[c]⟩), by show (dvals _).map _ = _; rw [dvals_map]; rfl, ⟨_, _, _, _, rfl, rfl, dvals_map _, hsx cs, ?_, ?_⟩⟩
    · rw [List.map_map]
      have : (cs.map (Str.length ∘ fun c => (⟨#[c]⟩ : Str))) = List.replicate cs.length 1 := by
        rw [show (Str.length ∘ fun c => (⟨#[c]⟩ : Str)) = fun _ => 1 from rfl, List.map_const']
      rw [this]
      simp
      have : (Str.ofString "").length = 0 := by decide +kernel
      rw [this]
      omega
    rw [join_signs]
    show M2 _
    apply hM2; clear hM2
    refine sq fun M2 hM2 => ?_
    have hsn : ∀ x, x ∈ names → PyData.strOk x = true := fun x hx => isName_ok (hnm x hx)
    have hsig : ∀ j (hj : j < 26), letters.cps.toList[j]'(by rw [letters_len]; exact hj) ∈ letters.cps.toList := fun j hj => List.getElem_mem _
    refine ⟨_, rfl, letters, rfl, ?_⟩
    have e26 : letters.cps.size = 26 := by decide +kernel
    rw [e26]
    refine ⟨fun j Γ => ∃ v8, ∃ w : Str, Is Γ ⟨[some (.d (.scr ns)), some (.own 0), some (.d (.int many)), some (.d (.str letters)), some (.own 1), some (.d (.int (i : Nat))), some (.d (.int ((1 : Int) + sz))), some (.d (.str w)), fr v8, none], [poolC p, .L ((sD names).map .d)], lk⟩ ∧ isName w = true ∧ (w ∈ names → ∀ c, c ∈ letters.cps.toList.take j → (⟨#[c]⟩ : Str) ∈ names), ⟨v8, _, .r, hw, fun _ c hc => by simp at hc⟩, fun _ _ _ _ => trivial, ?_, ?_⟩
    · rintro j _ hj ⟨v8, w, e, hw, hall⟩
      cases e
      have hc : j < letters.cps.toList.length := by rw [letters_len]; exact hj
      have ec : letters.cps.getD j 0 = letters.cps.toList[j] := by
        rw [Array.getD_eq_getD_getElem?, ← Array.getElem?_toList, List.getElem?_eq_getElem hc]
        rfl
      have eT : letters.cps.toList.take (j + 1) = letters.cps.toList.take j ++ [letters.cps.toList[j]] := by
        rw [List.take_succ, List.getElem?_eq_getElem hc]
        rfl
      have hsg := sign_name (List.getElem_mem hc)
      change rgName 8 (Val.d (D.str ⟨#[letters.cps.getD j 0]⟩)) _ _ _
      rw [ec, z_gname, z_if, z_andT]
      refine ⟨_, rfl, _, rfl, in_go (has_sD (l := names) (dvals_map _) (isName_ok hw) hsn) ⟨_, rfl, ?_⟩⟩
      by_cases hin : w ∈ names
      · rw [decide_eq_true hin]
        refine ⟨_, rfl, _, rfl, notin_go (has_sD (l := names) (dvals_map _) (isName_ok hsg) hsn) ⟨_, rfl, ?_⟩⟩
        by_cases hin2 : (⟨#[letters.cps.toList[j]]⟩ : Str) ∈ names
        · rw [decide_eq_true hin2]
          refine ⟨some (.str ⟨#[letters.cps.toList[j]]⟩), w, ?_, hw, fun _ c hc' => ?_⟩
          · simp [trimC]
            exact .r
          · rw [eT] at hc'
            rcases List.mem_append.mp hc' with z | z
            · exact hall hin c z
            · rw [inOne z]; exact hin2
        · rw [decide_eq_false hin2]
          refine ⟨_, rfl, some (.str ⟨#[letters.cps.toList[j]]⟩), ⟨#[letters.cps.toList[j]]⟩, ?_, hsg, fun z => absurd z hin2⟩
          simp [trimC]
          exact .r
      · rw [decide_eq_false hin]
        refine ⟨some (.str ⟨#[letters.cps.toList[j]]⟩), w, ?_, hw, fun z => absurd z hin⟩
        simp [trimC]
        exact .r
    rintro _ ⟨v8, w, e, hw, hall⟩
    cases e
    rw [List.take_of_length_le (by rw [letters_len]; exact Nat.le_refl _)] at hall
    have hnw : w ∉ names := fun z => by
      have := all_signs (hall z)
      omega
    apply hM2; clear hM2
    refine ⟨_, rfl, isT_L (xs := (sD names).map .d) rfl, _, rfl, 1, (sD names).map .d, .d (.str w), rfl, rfl, rfl, by unfold sD; rw [List.length_map, List.length_map, z_sizeLine]; omega, ?_⟩
    have eA : (sD names).map Val.d ++ [Val.d (.str w)] = (sD (names ++ [w])).map .d := by simp [sD]
    refine ⟨some (.int i), some (.int (1 + sz)), some (.str w), v8, p, names ++ [w], ?_, hp, ?_, fun x hx => ?_, by rw [List.length_append, hlen]; rfl⟩
    · rw [eA]
      simp [trimC]
      exact .r
    · rw [List.nodup_append]
      exact ⟨hnd, by simp, fun a ha b hb => by rw [List.mem_singleton.mp hb]; exact fun z => hnw (z ▸ ha)⟩
    · rcases inApp hx with z | z
      · exact hnm x z
      · rw [inOne z]; exact hw
  · rintro _ ⟨v5, v6, v7, v8, p, names, e, hp, hnd, hnm, hlen⟩
    cases e
    apply hM; clear hM
    simp [endsOf, retK, trimC]
    exact K names p hp hnd hnm hlen
end L3

namespace L3
open PySem L2 PyProof.Rows
theorem Reach.trans {g : Str → List Str} {bar : Option (Str × Str)} {a b c : Str} (h : Reach g bar a b) (h' : Reach g bar b c) : Reach g bar a c := by
  induction h' with
  | refl => exact h
  | step _ hc hb ih => exact .step ih hc hb
theorem reach_none {g g' : Str → List Str} (h : ∀ a b, b ∈ g a → b ∈ g' a) {a b : Str} (r : Reach g none a b) : Reach g' none a b := reach_mono h r
theorem pairOf_sym {a b : Str} : pairOf (a, b) = pairOf (b, a) := by
  unfold pairOf
  by_cases h1 : sLt b a = true
  · have h2 := sLt_asymm h1
    simp [h1, h2]
  · by_cases h2 : sLt a b = true
    · simp [h1, h2]
    · have : a = b := Decidable.byContradiction fun z => h2 (sLt_total (fun e => z e.symm) (by simpa using h1))
      rw [this]
theorem pairOf_eq {p q : Str × Str} (h : pairOf p = pairOf q) : p = q ∨ p = (q.2, q.1) := by
  obtain ⟨a, b⟩ := p
  obtain ⟨c, d⟩ := q
  unfold pairOf at h
  split at h <;> split at h
  all_goals
    simp only [Prod.mk.injEq] at h
    obtain ⟨rfl, rfl⟩ := h
    simp
structure GrowOk (names : List Str) (m : Nat) (l : List (Str × Str)) : Prop where
  mem : ∀ p, p ∈ l → p.1 ∈ names.take m ∧ p.2 ∈ names.take m ∧ p.1 ≠ p.2
  dj : (l.map pairOf).Nodup
  jo : ∀ a b, a ∈ names.take m → b ∈ names.take m → Reach (neigh l) none a b
theorem neigh_more {l : List (Str × Str)} {p : Str × Str} {a b : Str} (h : b ∈ neigh l a) : b ∈ neigh (l ++ [p]) a := by
  rw [neigh_snoc]
  exact List.mem_append_left _ h
theorem neigh_new1 {l : List (Str × Str)} {a b : Str} : b ∈ neigh (l ++ [(a, b)]) a := by
  rw [neigh_snoc]
  simp
theorem neigh_new2 {l : List (Str × Str)} {a b : Str} : a ∈ neigh (l ++ [(a, b)]) b := by
  rw [neigh_snoc]
  simp
theorem map_snoc_nd {l : List (Str × Str)} {p : Str × Str} (h : (l.map pairOf).Nodup) (hn : p ∉ l) (hn2 : (p.2, p.1) ∉ l) : ((l ++ [p]).map pairOf).Nodup := by
  simp only [List.map_append, List.nodup_append]
  refine ⟨h, by simp, fun x hx y hy e => ?_⟩
  rw [List.map_cons, List.map_nil, List.mem_singleton] at hy
  obtain ⟨q, hq, rfl⟩ := inMap hx
  rw [hy] at e
  rcases pairOf_eq e with z | z
  · exact hn (z ▸ hq)
  · exact hn2 (z ▸ hq)
theorem GrowOk.extra {names : List Str} {m : Nat} {l : List (Str × Str)} (G : GrowOk names m l) {p : Str × Str} (h1 : p.1 ∈ names.take m) (h2 : p.2 ∈ names.take m) (hne : p.1 ≠ p.2) (hn : p ∉ l) (hn2 : (p.2, p.1) ∉ l) : GrowOk names m (l ++ [p]) := by
  refine ⟨fun q hq => ?_, map_snoc_nd G.dj hn hn2, fun a b ha hb => reach_none (fun _ _ h => neigh_more h) (G.jo a b ha hb)⟩
  rcases inApp hq with z | z
  · exact G.mem q z
  · rw [inOne z]; exact ⟨h1, h2, hne⟩
theorem GrowOk.tree {names : List Str} {m : Nat} {l : List (Str × Str)} (G : GrowOk names m l) (nd : names.Nodup) (hm : m < names.length) {j : Nat} (hj : j < m) {p : Str × Str} (hp : p = (names[j], names[m]) ∨ p = (names[m], names[j])) : GrowOk names (m + 1) (l ++ [p]) := by
  have eT : names.take (m + 1) = names.take m ++ [names[m]] := by
    rw [List.take_succ, List.getElem?_eq_getElem hm]
    rfl
  have hjm : names[j] ∈ names.take m := List.mem_take_iff_getElem.mpr ⟨j, by omega, rfl⟩
  have hn : names[m] ∉ names.take m := fun h => by
    obtain ⟨i, hi, e⟩ := List.mem_take_iff_getElem.mp h
    have := (List.getElem_inj nd).mp e
    omega
  have hne : names[j] ≠ names[m] := fun e => hn (e ▸ hjm)
  have old : ∀ {a}, a ∈ names.take m → a ∈ names.take (m + 1) := fun {a} h => by rw [eT]; exact List.mem_append_left _ h
  have new : names[m] ∈ names.take (m + 1) := by rw [eT]; exact List.mem_append_right _ (List.mem_singleton.mpr rfl)
  have up : Reach (neigh (l ++ [p])) none names[j] names[m] := by
    refine .step (.refl _) ?_ (fun z => by cases z)
    rcases hp with h | h
    · rw [h]; exact neigh_new1
    · rw [h]; exact neigh_new2
  have down : Reach (neigh (l ++ [p])) none names[m] names[j] := by
    refine .step (.refl _) ?_ (fun z => by cases z)
    rcases hp with h | h
    · rw [h]; exact neigh_new2
    · rw [h]; exact neigh_new1
  have mono : ∀ {a b}, a ∈ names.take m → b ∈ names.take m → Reach (neigh (l ++ [p])) none a b := fun {a b} ha hb => reach_none (fun _ _ h => neigh_more h) (G.jo a b ha hb)
  refine ⟨fun q hq => ?_, map_snoc_nd G.dj (fun h => ?_) (fun h => ?_), fun a b ha hb => ?_⟩
  · rcases inApp hq with z | z
    · obtain ⟨a1, a2, a3⟩ := G.mem q z
      exact ⟨old a1, old a2, a3⟩
    · rw [inOne z]
      rcases hp with rfl | rfl
      · exact ⟨old hjm, new, hne⟩
      · exact ⟨new, old hjm, fun e => hne e.symm⟩
  · obtain ⟨a1, a2, _⟩ := G.mem _ h
    rcases hp with rfl | rfl
    · exact hn a2
    · exact hn a1
  · obtain ⟨a1, a2, _⟩ := G.mem _ h
    rcases hp with rfl | rfl
    · exact hn a1
    · exact hn a2
  · rw [eT] at ha hb
    rcases inApp ha with za | za <;> rcases inApp hb with zb | zb
    · exact mono za zb
    · rw [List.mem_singleton.mp zb]
      exact (mono za hjm).trans up
    · rw [List.mem_singleton.mp za]
      exact down.trans (mono hjm zb)
    · rw [List.mem_singleton.mp za, List.mem_singleton.mp zb]
      exact .refl _
theorem GrowOk.web {names : List Str} {l : List (Str × Str)} (G : GrowOk names names.length l) (h : NamesOk names) (hl : l.length ≤ 1000) : WebOk names l := by
  have e := List.take_of_length_le (Nat.le_refl names.length)
  have m := G.mem
  have j := G.jo
  rw [e] at m j
  exact ⟨h, ⟨m, G.dj, hl⟩, j⟩
theorem atI_last {α : Type} {xs : List α} {x : α} (h : xs[xs.length - 1]? = some x) : atI xs (-1) = some x := by
  have hl : xs.length - 1 < xs.length := (List.getElem?_eq_some_iff.mp h).1
  unfold atI ixN
  rw [if_neg (by omega), if_pos (by omega)]
  show xs[_]? = _
  rw [show ((-1 : Int) + (xs.length : Nat)).toNat = xs.length - 1 from by omega]
  exact h
theorem dl_own {Γ : Gam} {n : Nat} {xs : List D} (h : Γ.st[n]? = some (.L (xs.map .d))) : Γ.dl (.own n) = some xs := by
  unfold Gam.dl Gam.shp
  simp only
  rw [h]
  exact dvals_map xs
def lkC (l : List (Str × Str)) : Cell := .L ((tpD l).map .d)
theorem lk_snoc (l : List (Str × Str)) (a b : Str) : Cell.L ((tpD l).map Val.d ++ [Val.d (.tup [.str a, .str b])]) = lkC (l ++ [(a, b)]) := by
  unfold lkC tpD
  simp [tp]
theorem v_law_links (Θ : Wh) : VOk (r_law_links Θ) 3 10 (sp_law_links Θ) := by
  rintro lk _ _ k x ⟨ns, p, names, rfl, rfl, hp, hok, K⟩
  refine ⟨rfl, ?_⟩
  have hlo := hok.lo
  have hhi := hok.hi
  have hs : (sD names).length = names.length := by simp [sD]
  have ein : ∀ i (hi : i < names.length), (sD names)[i]? = some (.str names[i]) := fun i hi => by unfold sD; rw [List.getElem?_map, List.getElem?_eq_getElem hi]; rfl
  have hsn : ∀ x, x ∈ names → PyData.strOk x = true := fun x hx => isName_ok (hok.ok x hx)
  unfold r_law_links
  refine sq fun M hM => ?_
  simp [List.replicate]
  apply hM; clear hM M
  refine sq fun M hM => ?_
  simp
  refine call_take rfl hp (by omega) (by omega) fun shape p hp hr0 hr1 => ?_
  show M _
  apply hM; clear hM M hr0 hr1
  refine sq fun M hM => ?_
  simp
  refine call_take rfl hp (by omega) (by omega) fun ex0 p hp he0 he1 => ?_
  show M _
  apply hM; clear hM M
  refine sq fun M hM => ?_
  -- the number of extra links
  have J : ∀ (ex : Int) p, PoolOk p → 0 ≤ ex → ex ≤ 98 → M ⟨[some (.d (.scr ns)), some (.own 0), some (.d (.lst (sD names))), some (.own 1), some (.d (.int shape)), some (.d (.int ex)), none, none, none, none], [poolC p, lkC []], lk⟩ := fun ex p hp h0 h98 => by
    apply hM; clear hM M
    refine sq fun M hM => ?_
    -- the tree
    simp [hs]
    refine ⟨1, names.length, ⟨rfl, rfl⟩, by omega, ?_⟩
    have en : (names.length - 1) = ((names.length : Int) - 1).toNat := by omega
    refine ⟨fun i Γ => ∃ v6 v7 p l, Is Γ ⟨[some (.d (.scr ns)), some (.own 0), some (.d (.lst (sD names))), some (.own 1), some (.d (.int shape)), some (.d (.int ex)), fr v6, fr v7, none, none], [poolC p, lkC l], lk⟩ ∧ PoolOk p ∧ GrowOk names (i + 1) l ∧ l.length = i, ?_, fun _ _ _ _ => trivial, ?_, ?_⟩
    · refine ⟨none, none, p, [], .r, hp, ⟨(fun _ h => by cases h), List.nodup_nil, fun a b ha hb => ?_⟩, rfl⟩
      obtain ⟨i1, h1, rfl⟩ := List.mem_take_iff_getElem.mp ha
      obtain ⟨i2, h2, rfl⟩ := List.mem_take_iff_getElem.mp hb
      have e1 : i1 = 0 := by omega
      have e2 : i2 = 0 := by omega
      subst e1 e2
      exact .refl _
    · rintro i _ hi ⟨v6, v7, p, l, e, hp, G, hl⟩
      cases e
      have hi' : i + 1 < names.length := by omega
      simp
      refine sq fun M2 hM2 => ?_
      simp
      refine call_take rfl hp (by omega) (by omega) fun r p hp hr0 hr1 => ?_
      show M2 _
      apply hM2; clear hM2 M2
      refine sq fun M2 hM2 => ?_
      have J2 : ∀ j : Nat, j < i + 1 → M2 ⟨[some (.d (.scr ns)), some (.own 0), some (.d (.lst (sD names))), some (.own 1), some (.d (.int shape)), some (.d (.int ex)), some (.d (.int ((1 : Int) + i))), some (.d (.int j)), none, none], [poolC p, lkC l], lk⟩ := fun j hj => by
        apply hM2; clear hM2 M2
        refine sq fun M2 hM2 => ?_
        have J3 : ∀ j : Nat, j < i + 1 → M2 ⟨[some (.d (.scr ns)), some (.own 0), some (.d (.lst (sD names))), some (.own 1), some (.d (.int shape)), some (.d (.int ex)), some (.d (.int ((1 : Int) + i))), some (.d (.int j)), none, none], [poolC p, lkC l], lk⟩ := fun j hj => by
          apply hM2; clear hM2 M2
          have ec : (1 : Int) + (i : Nat) = ((i + 1 : Nat) : Int) := by omega
          have ej := ein j (by omega)
          have ek := ein (i + 1) hi'
          have fin : ∀ p q, PoolOk p → (q = (names[j], names[i + 1]) ∨ q = (names[i + 1], names[j])) → ∃ v6 v7 p' l', Is ((⟨[some (.d (.scr ns)), some (.own 0), some (.d (.lst (sD names))), some (.own 1), some (.d (.int shape)), some (.d (.int ex)), some (.d (.int ((i + 1 : Nat) : Int))), some (.d (.int j)), none, none], [poolC p, lkC (l ++ [q])], lk⟩ : Gam).trim 2) ⟨[some (.d (.scr ns)), some (.own 0), some (.d (.lst (sD names))), some (.own 1), some (.d (.int shape)), some (.d (.int ex)), fr v6, fr v7, none, none], [poolC p', lkC l'], lk⟩ ∧ PoolOk p' ∧ GrowOk names (i + 1 + 1) l' ∧ l'.length = i + 1 := fun p q hp hq => by
            refine ⟨some (.int ((i + 1 : Nat) : Int)), some (.int j), p, l ++ [q], ?_, hp, G.tree hok.nd hi' hj hq, by rw [List.length_append, hl]; rfl⟩
            unfold lkC
            simp [trimC]
            exact .r
          rw [ec]
          have i1 : ∀ {sl st lk}, (⟨sl, st, lk⟩ : Gam).item (.d (.lst (sD names))) (.d (.int (j : Nat))) (.d (.str names[j])) := fun {sl st lk} => by
            rw [z_item_l, z_atIn, List.getElem?_map, ej]
            rfl
          have i2 : ∀ {sl st lk}, (⟨sl, st, lk⟩ : Gam).item (.d (.lst (sD names))) (.d (.int ((i + 1 : Nat) : Int))) (.d (.str names[i + 1])) := fun {sl st lk} => by
            rw [z_item_l, z_atIn, List.getElem?_map, ek]
            rfl
          have hb : ((tpD l).map Val.d).length < sizeLine := by unfold tpD; rw [List.length_map, List.length_map, z_sizeLine]; omega
          refine ⟨_, rfl, _, rfl, ?_⟩
          simp only [z_c, z_acons, z_anil, List.map_nil, List.append_nil]
          refine call_take (many := 2) rfl hp (by omega) (by omega) fun r p hp r0 r1 => ?_
          refine ⟨_, _, rfl, rfl, rfl, rfl, _, rfl, ?_⟩
          by_cases hr : r = 0
          · subst hr
            rw [if_pos (by rfl)]
            refine ⟨_, rfl, isT_L (xs := (tpD l).map .d) rfl, _, rfl, _, rfl, .d (.str names[j]), i1, _, rfl, _, rfl, .d (.str names[i + 1]), i2, by simp, _, rfl, 1, (tpD l).map .d, .d (.tup [.str names[j], .str names[i + 1]]), rfl, rfl, rfl, hb, ?_⟩
            have := fin p _ hp (.inl rfl)
            rw [← lk_snoc] at this
            exact this
          · have hr' : D.eqv (.int r) (.int 0) = false := by rw [z_eqv_i]; exact decide_eq_false hr
            rw [if_neg (by rw [hr']; decide)]
            refine ⟨_, rfl, isT_L (xs := (tpD l).map .d) rfl, _, rfl, _, rfl, .d (.str names[i + 1]), i2, _, rfl, _, rfl, .d (.str names[j]), i1, by simp, _, rfl, 1, (tpD l).map .d, .d (.tup [.str names[i + 1], .str names[j]]), rfl, rfl, rfl, hb, ?_⟩
            have := fin p _ hp (.inr rfl)
            rw [← lk_snoc] at this
            exact this
        clear hM2
        by_cases h2 : shape = 2
        · simp [h2]
          have := J3 0 (by omega)
          subst h2
          exact this
        · simp [h2]
          exact J3 j hj
      clear hM2
      obtain ⟨j, rfl⟩ := Int.eq_ofNat_of_zero_le hr0
      by_cases h1 : shape = 1
      · simp [h1]
        have := J2 i (by omega)
        subst h1
        have e1 : (1 : Int) + i - 1 = (i : Nat) := by omega
        rw [e1]
        exact this
      · simp [h1]
        exact J2 j (by omega)
    rintro _ ⟨v6, v7, p, l, e, hp, G, hl⟩
    cases e
    have e1 : (((names.length : Int) - 1).toNat) + 1 = names.length := by omega
    rw [e1] at G
    apply hM; clear hM M
    refine sq fun M hM => ?_
    have hn : names.length - 1 < names.length := by omega
    have eL : ((names.length : Int) - 1).toNat = names.length - 1 := by omega
    rw [eL] at hl
    have hl' : l.length < names.length := by omega
    clear hl eL e1
    have i0 : ∀ {sl st lk}, (⟨sl, st, lk⟩ : Gam).item (.d (.lst (sD names))) (.d (.int 0)) (.d (.str (names[0]'(by omega)))) := fun {sl st lk} => by
      rw [z_item_l, z_atI, List.getElem?_map, ein 0 (by omega)]
      rfl
    have iN : ∀ {sl st lk}, (⟨sl, st, lk⟩ : Gam).item (.d (.lst (sD names))) (.d (.int (-1))) (.d (.str (names[names.length - 1]))) := fun {sl st lk} => by
      rw [z_item_l]
      refine atI_last ?_
      rw [List.length_map, hs, List.getElem?_map, ein _ hn]
      rfl
    have lo1 : ∀ {l}, GrowOk names names.length l → PairsOk l := fun {l} G q hq => by
      obtain ⟨a1, a2, _⟩ := G.mem q hq
      exact ⟨hsn _ (List.mem_of_mem_take a1), hsn _ (List.mem_of_mem_take a2)⟩
    have all : ∀ {a}, a ∈ names → a ∈ names.take names.length := fun {a} h => by rw [List.take_of_length_le (Nat.le_refl _)]; exact h
    have J4 : ∀ l, GrowOk names names.length l → l.length ≤ names.length → M ⟨[some (.d (.scr ns)), some (.own 0), some (.d (.lst (sD names))), some (.own 1), some (.d (.int shape)), some (.d (.int ex)), fr v6, fr v7, none, none], [poolC p, lkC l], lk⟩ := fun l G hl => by
      apply hM; clear hM M
      refine sq fun M hM => ?_
      obtain ⟨exn, rfl⟩ := Int.eq_ofNat_of_zero_le h0
      have hexn : exn ≤ 98 := by omega
      refine ⟨_, rfl, (exn : Nat), rfl, by omega, by omega, ?_⟩
      rw [Int.toNat_natCast]
      refine ⟨fun i Γ => ∃ v6 v7 v8 v9 p l, Is Γ ⟨[some (.d (.scr ns)), some (.own 0), some (.d (.lst (sD names))), some (.own 1), some (.d (.int shape)), some (.d (.int (exn : Nat))), fr v6, fr v7, fr v8, fr v9], [poolC p, lkC l], lk⟩ ∧ PoolOk p ∧ GrowOk names names.length l ∧ l.length ≤ names.length + i, ⟨v6, v7, none, none, p, l, .r, hp, G, by omega⟩, fun _ _ _ _ => trivial, ?_, ?_⟩
      · rintro i _ hi ⟨v6, v7, v8, v9, p, l, e, hp, G, hl⟩
        cases e
        rw [z_gname]
        refine sq fun M2 hM2 => ?_
        refine ⟨_, rfl, _, rfl, _, rfl, ⟨_, rfl, ⟨_, names.length, rfl, by show some (((sD names).map Val.d).length) = _; rw [List.length_map, hs], ?_⟩⟩⟩
        simp only [z_c, z_acons, z_anil, List.map_nil, List.append_nil]
        refine call_take (many := names.length) rfl hp (by omega) (by omega) fun r p hp r0 r1 => ?_
        obtain ⟨a, rfl⟩ := Int.eq_ofNat_of_zero_le r0
        have ha : a < names.length := by omega
        have ia : ∀ {sl st lk}, (⟨sl, st, lk⟩ : Gam).item (.d (.lst (sD names))) (.d (.int (a : Nat))) (.d (.str names[a])) := fun {sl st lk} => by
          rw [z_item_l, z_atIn, List.getElem?_map, ein a ha]
          rfl
        refine ⟨_, ia, ?_⟩
        show M2 _
        apply hM2; clear hM2 M2
        refine sq fun M2 hM2 => ?_
        refine ⟨_, rfl, _, rfl, _, rfl, ⟨_, rfl, ⟨_, names.length, rfl, by show some (((sD names).map Val.d).length) = _; rw [List.length_map, hs], ?_⟩⟩⟩
        simp only [z_c, z_acons, z_anil, List.map_nil, List.append_nil]
        refine call_take (many := names.length) rfl hp (by omega) (by omega) fun r p hp r0 r1 => ?_
        obtain ⟨b, rfl⟩ := Int.eq_ofNat_of_zero_le r0
        have hb : b < names.length := by omega
        have ib : ∀ {sl st lk}, (⟨sl, st, lk⟩ : Gam).item (.d (.lst (sD names))) (.d (.int (b : Nat))) (.d (.str names[b])) := fun {sl st lk} => by
          rw [z_item_l, z_atIn, List.getElem?_map, ein b hb]
          rfl
        refine ⟨_, ib, ?_⟩
        show M2 _
        apply hM2; clear hM2 M2
        have fin : ∀ (q : Unit) (l' : List (Str × Str)), GrowOk names names.length l' → l'.length ≤ names.length + (i + 1) → ∃ u6 u7 u8 u9 p' l'', Is ((⟨[some (.d (.scr ns)), some (.own 0), some (.d (.lst (sD names))), some (.own 1), some (.d (.int shape)), some (.d (.int (exn : Nat))), some (.d (.int (i : Nat))), fr v7, some (.d (.str names[a])), some (.d (.str names[b]))], [poolC p, lkC l'], lk⟩ : Gam).trim 2) ⟨[some (.d (.scr ns)), some (.own 0), some (.d (.lst (sD names))), some (.own 1), some (.d (.int shape)), some (.d (.int (exn : Nat))), fr u6, fr u7, fr u8, fr u9], [poolC p', lkC l''], lk⟩ ∧ PoolOk p' ∧ GrowOk names names.length l'' ∧ l''.length ≤ names.length + (i + 1) := fun (q : Unit) l' G' hl' => by
          refine ⟨some (.int (i : Nat)), v7, some (.str names[a]), some (.str names[b]), p, l', ?_, hp, G', hl'⟩
          unfold lkC
          simp [trimC]
          exact .r
        have ma := List.getElem_mem ha
        have mb := List.getElem_mem hb
        have dl1 : ∀ {sl}, (⟨sl, [poolC p, lkC l], lk⟩ : Gam).dl (.own 1) = some (tpD l) := fun {sl} => dl_own rfl
        refine ⟨_, rfl, _, rfl, _, _, rfl, rfl, strOk_flat (hsn _ ma), strOk_flat (hsn _ mb), _, rfl, ?_⟩
        rw [z_eqv_s]
        by_cases hab : names[a] = names[b]
        · rw [decide_eq_true hab]
          exact fin () l G (by omega)
        rw [decide_eq_false hab]
        refine ⟨_, rfl, _, rfl, by simp, _, rfl, _, rfl, notin_go (has_tpD (l := l) (a := (names[a], names[b])) dl1 ⟨hsn _ ma, hsn _ mb⟩ (lo1 G)) ⟨_, rfl, ?_⟩⟩
        by_cases h1 : (names[a], names[b]) ∈ l
        · rw [decide_eq_true h1]
          exact fin () l G (by omega)
        rw [decide_eq_false h1]
        refine ⟨_, rfl, _, rfl, by simp, _, rfl, _, rfl, notin_go (has_tpD (l := l) (a := (names[b], names[a])) dl1 ⟨hsn _ mb, hsn _ ma⟩ (lo1 G)) ⟨_, rfl, ?_⟩⟩
        by_cases h2 : (names[b], names[a]) ∈ l
        · rw [decide_eq_true h2]
          exact fin () l G (by omega)
        rw [decide_eq_false h2]
        have hbd : ((tpD l).map Val.d).length < sizeLine := by unfold tpD; rw [List.length_map, List.length_map, z_sizeLine]; omega
        refine ⟨_, rfl, isT_L (xs := (tpD l).map .d) rfl, _, rfl, _, rfl, by simp, _, rfl, 1, (tpD l).map .d, .d (.tup [.str names[a], .str names[b]]), rfl, rfl, rfl, hbd, ?_⟩
        have := fin () (l ++ [(names[a], names[b])]) (G.extra (all ma) (all mb) hab h1 h2) (by rw [List.length_append]; simp; omega)
        rw [← lk_snoc] at this
        exact this
      rintro _ ⟨v6, v7, v8, v9, p, l, e, hp, G, hl⟩
      cases e
      apply hM; clear hM M
      simp [endsOf, retK, trimC, lkC]
      exact K l p hp (G.web hok (by omega))
    clear hM
    have hbd : ((tpD l).map Val.d).length < sizeLine := by unfold tpD; rw [List.length_map, List.length_map, z_sizeLine]; omega
    have dl1 : ∀ {sl}, (⟨sl, [poolC p, lkC l], lk⟩ : Gam).dl (.own 1) = some (tpD l) := fun {sl} => dl_own rfl
    have m0 := List.getElem_mem (l := names) (n := 0) (by omega)
    have mN := List.getElem_mem hn
    refine ⟨_, rfl, _, _, rfl, rfl, rfl, rfl, _, rfl, ?_⟩
    rw [z_eqv_i]
    by_cases h3 : shape = 3
    · rw [decide_eq_true h3]
      refine ⟨_, rfl, ⟨_, names.length, rfl, by show some (((sD names).map Val.d).length) = _; rw [List.length_map, hs], .inl ⟨_, _, rfl, rfl, _, rfl, ?_⟩⟩⟩
      dsimp only
      by_cases h2 : 2 < names.length
      · rw [if_pos (decide_eq_true (show (2 : Int) < (names.length : Nat) from by omega))]
        refine ⟨_, rfl, _, i0, _, rfl, _, rfl, _, iN, by simp, _, rfl, _, rfl, notin_go (has_tpD (l := l) (a := (names[0]'(by omega), names[names.length - 1])) dl1 ⟨hsn _ m0, hsn _ mN⟩ (lo1 G)) ⟨_, rfl, ?_⟩⟩
        by_cases c1 : (names[0]'(by omega), names[names.length - 1]) ∈ l
        · rw [decide_eq_true c1]
          exact J4 l G (by omega)
        rw [decide_eq_false c1]
        refine ⟨_, rfl, _, rfl, _, iN, _, rfl, _, i0, by simp, _, rfl, _, rfl, notin_go (has_tpD (l := l) (a := (names[names.length - 1], names[0]'(by omega))) dl1 ⟨hsn _ mN, hsn _ m0⟩ (lo1 G)) ⟨_, rfl, ?_⟩⟩
        by_cases c2 : (names[names.length - 1], names[0]'(by omega)) ∈ l
        · rw [decide_eq_true c2]
          exact J4 l G (by omega)
        rw [decide_eq_false c2]
        have hne : names[0]'(by omega) ≠ names[names.length - 1] := fun e => by
          have := (List.getElem_inj hok.nd).mp e
          omega
        refine ⟨_, rfl, isT_L (xs := (tpD l).map .d) rfl, _, rfl, _, i0, _, rfl, _, rfl, _, iN, by simp, _, rfl, 1, (tpD l).map .d, .d (.tup [.str (names[0]'(by omega)), .str names[names.length - 1]]), rfl, rfl, rfl, hbd, ?_⟩
        have := J4 (l ++ [(names[0]'(by omega), names[names.length - 1])]) (G.extra (all m0) (all mN) hne c1 c2) (by rw [List.length_append]; simp; omega)
        rw [← lk_snoc] at this
        exact this
      · rw [if_neg (by rw [decide_eq_false (show ¬ (2 : Int) < (names.length : Nat) from by omega)]; decide)]
        exact J4 l G (by omega)
    · rw [decide_eq_false h3]
      exact J4 l G (by omega)
  clear hM
  by_cases h3 : ex0 = 3
  · subst h3
    have hb : (names.length : Int) * names.length ≤ 196 := by
      have h1 : (names.length : Int) * names.length ≤ 14 * 14 := Int.mul_le_mul (by omega) (by omega) (by omega) (by omega)
      omega
    have hb0 : 0 ≤ (names.length : Int) * names.length := Int.mul_nonneg (by omega) (by omega)
    simp [hs, CDiv]
    refine ⟨cmulL (by omega) (by omega), ?_⟩
    refine call_take rfl hp (by omega) (by omega) fun ex p hp he0 he1 => ?_
    exact J ex p hp he0 (by omega)
  · simp [h3]
    exact J ex0 p hp he0 (by omega)
end L3

namespace L3
open PySem L2 PyProof.Rows
/-! ### what a Web tells of its links is the sorted list of them -/
theorem sLt_trans {a b c : Str} (h : sLt a b = true) (h' : sLt b c = true) : sLt a c = true := by
  unfold sLt at *
  exact decide_eq_true (List.lt_trans (of_decide_eq_true h) (of_decide_eq_true h'))
theorem sLt_ne {a b : Str} (h : sLt a b = true) : a ≠ b := fun e => by
  subst e
  rw [sLt_irrefl] at h
  cases h
theorem sLe_trans {a b c : Str} (h : sLe a b = true) (h' : sLe b c = true) : sLe a c = true := by
  unfold sLe at *
  simp only [Bool.not_eq_true'] at *
  cases e : sLt c a with
  | false => rfl
  | true =>
    by_cases hab : a = b
    · subst hab
      rw [e] at h'
      cases h'
    · have := sLt_trans e (sLt_total (fun z => hab z.symm) h)
      rw [this] at h'
      cases h'
theorem sLe_total (a b : Str) : (sLe a b || sLe b a) = true := by
  unfold sLe
  cases e : sLt b a with
  | false => rfl
  | true => rw [sLt_asymm e]; rfl
theorem sortS_pw (l : List Str) : (sortS l).Pairwise fun a b => sLe a b = true := List.pairwise_mergeSort (le := sLe) (fun a b c h h' => sLe_trans h h') sLe_total l
def tpLt (p q : Str × Str) : Bool := if p.1 = q.1 then sLt p.2 q.2 else sLt p.1 q.1
theorem dataLt_tp (p q : Str × Str) : PySem.W.dataLt (tp p).py (tp q).py = tpLt p q := by
  show PySem.W.dataLt (.tuple [.str p.1, .str p.2]) (.tuple [.str q.1, .str q.2]) = _
  rw [PySem.W.dataLt_tuple]
  unfold tpLt
  by_cases h : p.1 = q.1
  · rw [if_pos h, PySem.W.dataLt_all_yes rfl (by rw [h]; simp [PyData.eqv])]
    by_cases h2 : p.2 = q.2
    · rw [PySem.W.dataLt_all_yes rfl (by rw [h2]; simp [PyData.eqv]), h2, sLt_irrefl]
      decide +kernel
    · rw [PySem.W.dataLt_all_no rfl (by simp [PyData.eqv, h2]), PySem.W.dataLt_str]
      rfl
  · rw [if_neg h, PySem.W.dataLt_all_no rfl (by simp [PyData.eqv, h]), PySem.W.dataLt_str]
    rfl
theorem tpLe_eq (p q : Str × Str) : tpLe p q = !tpLt q p := by
  unfold tpLe leD
  rw [PySem.W.dataLe_eq]
  show (!PySem.W.dataLt (tp q).py (tp p).py) = _
  rw [dataLt_tp]
theorem tpLt_asymm {p q : Str × Str} (h : tpLt p q = true) : tpLt q p = false := by
  unfold tpLt at *
  by_cases e : p.1 = q.1
  · rw [if_pos e] at h
    rw [if_pos e.symm]
    exact sLt_asymm h
  · rw [if_neg e] at h
    rw [if_neg fun z => e z.symm]
    exact sLt_asymm h
theorem tpLt_total {p q : Str × Str} (h : p ≠ q) (h1 : tpLt p q = false) : tpLt q p = true := by
  unfold tpLt at *
  by_cases e : p.1 = q.1
  · rw [if_pos e] at h1
    rw [if_pos e.symm]
    exact sLt_total (fun z => h (by obtain ⟨a, b⟩ := p; obtain ⟨c, d⟩ := q; simp at e z; rw [e, z])) h1
  · rw [if_neg e] at h1
    rw [if_neg fun z => e z.symm]
    exact sLt_total e h1
theorem tpLt_trans {p q r : Str × Str} (h : tpLt p q = true) (h' : tpLt q r = true) : tpLt p r = true := by
  unfold tpLt at *
  by_cases e : p.1 = q.1
  · rw [if_pos e] at h
    by_cases e2 : q.1 = r.1
    · rw [if_pos e2] at h'
      rw [if_pos (e.trans e2)]
      exact sLt_trans h h'
    · rw [if_neg e2] at h'
      rw [if_neg (fun z => e2 (e.symm.trans z)), e]
      exact h'
  · rw [if_neg e] at h
    by_cases e2 : q.1 = r.1
    · rw [if_neg (fun z => e (z.trans e2.symm)), ← e2]
      exact h
    · rw [if_neg e2] at h'
      have := sLt_trans h h'
      rw [if_neg (sLt_ne this)]
      exact this
theorem tpLe_trans (p q r : Str × Str) (h : tpLe p q = true) (h' : tpLe q r = true) : tpLe p r = true := by
  rw [tpLe_eq] at *
  simp only [Bool.not_eq_true'] at *
  cases e : tpLt r p with
  | false => rfl
  | true =>
    by_cases hpq : p = q
    · subst hpq
      rw [e] at h'
      cases h'
    · have := tpLt_trans e (tpLt_total (fun z => hpq z.symm) h)
      rw [this] at h'
      cases h'
theorem tpLe_total (p q : Str × Str) : (tpLe p q || tpLe q p) = true := by
  rw [tpLe_eq, tpLe_eq]
  cases e : tpLt q p with
  | false => rfl
  | true => rw [tpLt_asymm e]; rfl
theorem tpLe_antisymm {p q : Str × Str} (h : tpLe p q = true) (h' : tpLe q p = true) : p = q := by
  rw [tpLe_eq] at *
  simp only [Bool.not_eq_true'] at *
  exact Decidable.byContradiction fun z => by
    have := tpLt_total z h'
    rw [h] at this
    cases this
theorem mem_neigh {links : List (Str × Str)} {a b : Str} : b ∈ neigh links a ↔ (a, b) ∈ links ∨ (b, a) ∈ links := by
  unfold neigh
  rw [List.mem_flatMap]
  constructor
  · rintro ⟨⟨c, d⟩, hp, h⟩
    rcases inApp h with h | h
    · by_cases e : c = a
      · simp [e] at h; subst h e; exact .inl hp
      · simp [e] at h
    · by_cases e : d = a
      · simp [e] at h; subst h e; exact .inr hp
      · simp [e] at h
  · rintro (h | h)
    · exact ⟨_, h, by simp⟩
    · exact ⟨_, h, by simp⟩
theorem neigh_cons (l : List (Str × Str)) (p : Str × Str) (h : Str) : neigh (p :: l) h = ((if p.1 = h then [p.2] else []) ++ (if p.2 = h then [p.1] else [])) ++ neigh l h := by
  unfold neigh
  rw [List.flatMap_cons]
theorem neigh_nd {links : List (Str × Str)} (hne : ∀ p, p ∈ links → p.1 ≠ p.2) (dj : (links.map pairOf).Nodup) (h : Str) : (neigh links h).Nodup := by
  induction links with
  | nil => exact List.nodup_nil
  | cons p l ih =>
    rw [List.map_cons, List.nodup_cons] at dj
    have ih := ih (fun q hq => hne q (List.mem_cons_of_mem _ hq)) dj.2
    have hp := hne p List.mem_cons_self
    rw [neigh_cons]
    have key : ∀ x, ((h, x) = p ∨ (x, h) = p) → x ∉ neigh l h := fun x hx hm => by
      refine dj.1 ?_
      rcases mem_neigh.mp hm with z | z <;> rcases hx with rfl | rfl
      · exact List.mem_map_of_mem z
      · rw [pairOf_sym]; exact List.mem_map_of_mem z
      · rw [pairOf_sym]; exact List.mem_map_of_mem z
      · exact List.mem_map_of_mem z
    obtain ⟨a, b⟩ := p
    by_cases e1 : a = h
    · subst e1
      have e2 : ¬ b = a := fun z => hp z.symm
      simp only [if_true, e2, if_false, List.append_nil, List.singleton_append, List.nodup_cons]
      exact ⟨key b (.inl rfl), ih⟩
    · by_cases e2 : b = h
      · subst e2
        simp only [e1, if_true, if_false, List.nil_append, List.singleton_append, List.nodup_cons]
        exact ⟨key a (.inr rfl), ih⟩
      · simp only [e1, e2, if_false, List.nil_append]
        exact ih
theorem told_sorted {names : List Str} {links : List (Str × Str)} (ok : WebOk names links) : (toldL names links).Pairwise fun p q => tpLt p q = true := by
  unfold toldL nearL
  rw [List.flatMap_map]
  rw [List.pairwise_flatMap]
  refine ⟨fun h _ => ?_, ?_⟩
  · rw [List.pairwise_map]
    refine List.Pairwise.filter _ ?_
    have h1 := sortS_pw (neigh links h)
    have h2 : (sortS (neigh links h)).Pairwise fun a b => a ≠ b := sortS_nd (neigh_nd (fun p hp => (ok.mem p hp).2.2) ok.dj h)
    refine (h1.and h2).imp fun {a b} ⟨x1, x2⟩ => ?_
    unfold tpLt
    rw [if_pos rfl]
    unfold sLe at x1
    simp only [Bool.not_eq_true'] at x1
    exact sLt_total (fun z => x2 z.symm) x1
  · have h1 := sortS_pw names
    have h2 : (sortS names).Pairwise fun a b => a ≠ b := sortS_nd ok.nd
    refine (h1.and h2).imp fun {a b} ⟨x1, x2⟩ p hp q hq => ?_
    obtain ⟨c, _, rfl⟩ := List.mem_map.mp hp
    obtain ⟨d, _, rfl⟩ := List.mem_map.mp hq
    unfold tpLt
    rw [if_neg x2]
    unfold sLe at x1
    simp only [Bool.not_eq_true'] at x1
    exact sLt_total (fun z => x2 z.symm) x1
theorem pairOf_lt {p : Str × Str} (h : p.1 ≠ p.2) : sLt (pairOf p).1 (pairOf p).2 = true := by
  unfold pairOf
  by_cases e : sLt p.2 p.1 = true
  · rw [if_pos e]; exact e
  · rw [if_neg e]
    exact sLt_total (fun z => h z.symm) (by simpa using e)
theorem pairOf_id {p : Str × Str} (h : sLt p.1 p.2 = true) : pairOf p = p := by
  unfold pairOf
  rw [sLt_asymm h]
  rfl
theorem told_mem {names : List Str} {links : List (Str × Str)} (ok : WebOk names links) (p : Str × Str) : p ∈ toldL names links ↔ p ∈ links.map pairOf := by
  obtain ⟨a, b⟩ := p
  unfold toldL nearL
  rw [List.flatMap_map, List.mem_flatMap, List.mem_map]
  constructor
  · rintro ⟨h, hh, hp⟩
    obtain ⟨c, hc, e⟩ := List.mem_map.mp hp
    obtain ⟨hc1, hc2⟩ := List.mem_filter.mp hc
    injection e with e1 e2
    subst e1 e2
    rcases mem_neigh.mp (sortS_mem.mp hc1) with z | z
    · exact ⟨_, z, pairOf_id hc2⟩
    · exact ⟨_, z, by rw [pairOf_sym]; exact pairOf_id hc2⟩
  · rintro ⟨q, hq, e⟩
    obtain ⟨m1, m2, m3⟩ := ok.mem q hq
    have hlt := pairOf_lt m3
    rw [e] at hlt
    rcases pairOf_eq (e.trans (pairOf_id (p := (a, b)) hlt).symm) with z | z
    · subst z
      exact ⟨a, sortS_mem.mpr m1, List.mem_map.mpr ⟨b, List.mem_filter.mpr ⟨sortS_mem.mpr (mem_neigh.mpr (.inl hq)), hlt⟩, rfl⟩⟩
    · subst z
      exact ⟨a, sortS_mem.mpr m2, List.mem_map.mpr ⟨b, List.mem_filter.mpr ⟨sortS_mem.mpr (mem_neigh.mpr (.inr hq)), hlt⟩, rfl⟩⟩
theorem told_sort {names : List Str} {links : List (Str × Str)} (ok : WebOk names links) : toldL names links = sortP (links.map pairOf) := by
  have hs := told_sorted ok
  have nd : (toldL names links).Nodup := hs.imp fun {p q} h e => by
    subst e
    have := tpLt_asymm h
    rw [h] at this
    cases this
  have hp : (toldL names links).Perm (links.map pairOf) := (List.perm_ext_iff_of_nodup nd ok.dj).mpr (told_mem ok)
  refine List.Perm.eq_of_pairwise (le := fun p q => tpLe p q = true) (fun p q _ _ => tpLe_antisymm) (hs.imp fun {p q} h => ?_) ?_ (hp.trans (List.mergeSort_perm _ _).symm)
  · rw [tpLe_eq, tpLt_asymm h]
    rfl
  · exact List.pairwise_mergeSort tpLe_trans tpLe_total _
end L3

namespace L3
open PySem L2 PyProof.Rows
theorem perm_map {α β : Type} {f : α → β} {r s : List β} (h : r.Perm s) : ∀ l : List α, s = l.map f → ∃ l' : List α, r = l'.map f ∧ l'.Perm l := by
  induction h with
  | nil => intro l e; exact ⟨[], rfl, by cases l with | nil => exact .refl _ | cons a l => cases e⟩
  | cons x h ih =>
    intro l e
    cases l with
    | nil => cases e
    | cons a l =>
      injection e with e1 e2
      obtain ⟨l', e3, p⟩ := ih l e2
      exact ⟨a :: l', by rw [List.map_cons, ← e1, e3], p.cons a⟩
  | swap x y l0 =>
    intro l e
    match l, e with
    | a :: b :: l, e =>
      injection e with e1 e2
      injection e2 with e2 e3
      exact ⟨b :: a :: l, by rw [List.map_cons, List.map_cons, ← e1, ← e2, ← e3], .swap _ _ _⟩
  | trans h1 h2 ih1 ih2 =>
    intro l e
    obtain ⟨l1, e1, p1⟩ := ih2 l e
    obtain ⟨l2, e2, p2⟩ := ih1 l1 e1
    exact ⟨l2, e2, p2.trans p1⟩
theorem WebOk.perm {names names' : List Str} {links links' : List (Str × Str)} (ok : WebOk names links) (h : names'.Perm names) (h2 : links'.Perm links) : WebOk names' links' := by
  refine ⟨⟨h.nodup_iff.mpr ok.nd, fun x hx => ok.ok x (h.mem_iff.mp hx), by rw [h.length_eq]; exact ok.lo, by rw [h.length_eq]; exact ok.hi⟩, ⟨fun p hp => ?_, (h2.map pairOf).nodup_iff.mpr ok.dj, by rw [h2.length_eq]; exact ok.few⟩, fun a b ha hb => ?_⟩
  · obtain ⟨a1, a2, a3⟩ := ok.mem p (h2.mem_iff.mp hp)
    exact ⟨h.mem_iff.mpr a1, h.mem_iff.mpr a2, a3⟩
  · refine reach_none (fun c d hcd => ?_) (ok.jo a b (h.mem_iff.mp ha) (h.mem_iff.mp hb))
    rw [mem_neigh] at hcd ⊢
    rw [h2.mem_iff, h2.mem_iff]
    exact hcd
theorem sLe_antisymm {a b : Str} (h : sLe a b = true) (h' : sLe b a = true) : a = b := by
  unfold sLe at *
  simp only [Bool.not_eq_true'] at *
  exact Decidable.byContradiction fun z => by
    have := sLt_total (fun e => z e.symm) h
    rw [this] at h'
    cases h'
theorem sortS_congr {l l' : List Str} (h : l.Perm l') : sortS l = sortS l' :=
  List.Perm.eq_of_pairwise (le := fun a b => sLe a b = true) (fun _ _ _ _ => sLe_antisymm) (sortS_pw l) (sortS_pw l') ((sortS_perm l).trans (h.trans (sortS_perm l').symm))
section
variable {Θ : Wh} {sl : List (Option Val)} {st : List Cell} {lk : Bool} {k : KE3} {x : XC} {ns : List Int} {p : List Int}
theorem call_law_names {many : Int} (hp : st[0]? = some (poolC p)) (ok : PoolOk p) (h0 : 0 ≤ many) (h1 : many ≤ 14)
    (h : ∀ (names : List Str) p', PoolOk p' → names.Nodup → (∀ x, x ∈ names → isName x = true) → names.length = many.toNat → k (.own st.length) ⟨sl, st.set 0 (poolC p') ++ [.L ((sD names).map .d)], lk⟩) : CallW (sp_law_names Θ) [.d (.scr ns), .own 0, .d (.int many)] ⟨sl, st, lk⟩ k x := by
  have e := getD_at hp
  refine callW_flat [0] (by simp) (fun m hm => ?_) (fun m hm => ?_) (by simp [Val.all]) ⟨ns, p, many, by simp [Val.mp, posIn], by simp only [List.map_cons, List.map_nil, e], ok, h0, h1, fun names p' a b c d => ?_⟩
  · rw [List.mem_singleton.mp hm]; exact (List.getElem?_eq_some_iff.mp hp).1
  · rw [List.mem_singleton.mp hm, e]; exact ok_pool
  · have := h names p' a b c d
    have em : ∀ f, mergeSt f [0] [poolC p', .L ((sD names).map .d)] st = st.set 0 (poolC p') ++ [.L ((sD names).map .d)] := fun f => by
      show (st.set 0 ((poolC p').mp f)) ++ [Cell.mp f (.L ((sD names).map .d))] = _
      rw [mp_pool, (cell_ok0 (ok_Ld (xs := sD names) (m := 0))).1]
    show k _ (Gam.mk sl _ lk)
    rw [em]
    simpa [Val.mp, backN] using this
theorem call_law_links {names : List Str} (hp : st[0]? = some (poolC p)) (ok : PoolOk p) (hn : NamesOk names)
    (h : ∀ (links : List (Str × Str)) p', PoolOk p' → WebOk names links → k (.own st.length) ⟨sl, st.set 0 (poolC p') ++ [.L ((tpD links).map .d)], lk⟩) : CallW (sp_law_links Θ) [.d (.scr ns), .own 0, .d (.lst (sD names))] ⟨sl, st, lk⟩ k x := by
  have e := getD_at hp
  refine callW_flat [0] (by simp) (fun m hm => ?_) (fun m hm => ?_) (by simp [Val.all]) ⟨ns, p, names, by simp [Val.mp, posIn], by simp only [List.map_cons, List.map_nil, e], ok, hn, fun links p' a b => ?_⟩
  · rw [List.mem_singleton.mp hm]; exact (List.getElem?_eq_some_iff.mp hp).1
  · rw [List.mem_singleton.mp hm, e]; exact ok_pool
  · have := h links p' a b
    have em : ∀ f, mergeSt f [0] [poolC p', .L ((tpD links).map .d)] st = st.set 0 (poolC p') ++ [.L ((tpD links).map .d)] := fun f => by
      show (st.set 0 ((poolC p').mp f)) ++ [Cell.mp f (.L ((tpD links).map .d))] = _
      rw [mp_pool, (cell_ok0 (ok_Ld (xs := tpD links) (m := 0))).1]
    show k _ (Gam.mk sl _ lk)
    rw [em]
    simpa [Val.mp, backN] using this
theorem call_shuffled_d {things : List D} (hp : st[0]? = some (poolC p)) (ok : PoolOk p) (hl : things.length ≤ 100000)
    (h : ∀ (found : List D) p', PoolOk p' → found.Perm things → k (.own st.length) ⟨sl, st.set 0 (poolC p') ++ [.L (found.map .d)], lk⟩) : CallW (sp_law_shuffled Θ) [.d (.scr ns), .own 0, .d (.lst things)] ⟨sl, st, lk⟩ k x := by
  have e := getD_at hp
  refine callW_flat [0] (by simp) (fun m hm => ?_) (fun m hm => ?_) (by simp [Val.all]) ⟨ns, p, things, .d (.lst things), [], by simp [Val.mp, posIn], by simp only [List.map_cons, List.map_nil, e], Flat.nil, dlS_d, ok, hl, fun found p' a b => ?_⟩
  · rw [List.mem_singleton.mp hm]; exact (List.getElem?_eq_some_iff.mp hp).1
  · rw [List.mem_singleton.mp hm, e]; exact ok_pool
  · have := h found p' a b
    have em : ∀ f, mergeSt f [0] (poolC p' :: ([] : List Cell) ++ [.L (found.map .d)]) st = st.set 0 (poolC p') ++ [.L (found.map .d)] := fun f => by
      show (st.set 0 ((poolC p').mp f)) ++ [Cell.mp f (.L (found.map .d))] = _
      rw [mp_pool, (cell_ok0 (ok_Ld (xs := found) (m := 0))).1]
    show k _ (Gam.mk sl _ lk)
    rw [em]
    simpa [Val.mp, backN] using this
theorem call_shuffled_o {things : List D} {n : Nat} (hp : st[0]? = some (poolC p)) (ok : PoolOk p) (hl : things.length ≤ 100000) (hn : st[n]? = some (.L (things.map .d))) (n0 : n ≠ 0)
    (h : ∀ (found : List D) p', PoolOk p' → found.Perm things → k (.own st.length) ⟨sl, st.set 0 (poolC p') ++ [.L (found.map .d)], lk⟩) : CallW (sp_law_shuffled Θ) [.d (.scr ns), .own 0, .own n] ⟨sl, st, lk⟩ k x := by
  have e := getD_at hp
  have e2 := getD_at hn
  have n0' : ¬ 0 = n := fun z => n0 z.symm
  refine callW_flat [0, n] (by simp [n0']) (fun m hm => ?_) (fun m hm => ?_) (by simp [Val.all]) ⟨ns, p, things, .own 1, [.L (things.map .d)], by simp [Val.mp, posIn, n0'], by simp only [List.map_cons, List.map_nil, e, e2], Flat.cons ok_Ld Flat.nil, ?_, ok, hl, fun found p' a b => ?_⟩
  · rcases inCons hm with rfl | hm
    · exact (List.getElem?_eq_some_iff.mp hp).1
    · rw [List.mem_singleton.mp hm]; exact (List.getElem?_eq_some_iff.mp hn).1
  · rcases inCons hm with rfl | hm
    · rw [e]; exact ok_pool
    · rw [List.mem_singleton.mp hm, e2]; exact ok_Ld
  · simp only [List.map_cons, List.map_nil, e, e2]
    exact dvals_map things
  · have := h found p' a b
    have em : ∀ f, mergeSt f [0, n] (poolC p' :: [.L (things.map .d)] ++ [.L (found.map .d)]) st = st.set 0 (poolC p') ++ [.L (found.map .d)] := fun f => by
      show ((st.set 0 ((poolC p').mp f)).set n (Cell.mp f (.L (things.map .d)))) ++ [Cell.mp f (.L (found.map .d))] = _
      rw [mp_pool, (cell_ok0 (ok_Ld (xs := found) (m := 0))).1, (cell_ok0 (ok_Ld (xs := things) (m := 0))).1, set_same (by rw [List.getElem?_set_ne n0']; exact hn)]
    show k _ (Gam.mk sl _ lk)
    rw [em]
    simpa [Val.mp, backN, e, e2] using this
theorem make_web {names : List Str} {links : List (Str × Str)} {a b : Nat} (ha : st[a]? = some (.L ((sD names).map .d))) (hb : st[b]? = some (.L ((tpD links).map .d))) (hab : a ≠ b) (ok : WebOk names links)
    (h : k (.own st.length) ⟨sl, st ++ [.O Θ.Web [("_near", .d (nearD names links))]], lk⟩) : MakeW Θ.Web (sp_Web__init__ Θ) [.own a, .own b] ⟨sl, st, lk⟩ k x := by
  have la := (List.getElem?_eq_some_iff.mp ha).1
  have lb := (List.getElem?_eq_some_iff.mp hb).1
  have ea : (st ++ [Cell.O Θ.Web []]).getD a .no = .L ((sD names).map .d) := getD_at (by rw [List.getElem?_append_left la]; exact ha)
  have eb : (st ++ [Cell.O Θ.Web []]).getD b .no = .L ((tpD links).map .d) := getD_at (by rw [List.getElem?_append_left lb]; exact hb)
  have em : (st ++ [Cell.O Θ.Web []]).getD st.length .no = .O Θ.Web [] := getD_at (by simp)
  have n1 : ¬ st.length = a := by omega
  have n2 : ¬ st.length = b := by omega
  refine callW_flat [st.length, a, b] (by simp [n1, n2, hab]) (fun m hm => ?_) (fun m hm => ?_) (by simp [Val.all]) ⟨.own 1, .own 2, names, links, [.L ((sD names).map .d), .L ((tpD links).map .d)], by simp [Val.mp, posIn, n1, n2, hab], by simp only [List.map_cons, List.map_nil, ea, eb, em], Flat.cons ok_Ld (Flat.cons ok_Ld Flat.nil), ?_, ?_, ok, ?_⟩
  · simp at hm
    rw [List.length_append]
    rcases hm with rfl | rfl | rfl <;> simp <;> omega
  · simp at hm
    rcases hm with rfl | rfl | rfl
    · rw [em]; rfl
    · rw [ea]; exact ok_Ld
    · rw [eb]; exact ok_Ld
  · simp only [List.map_cons, List.map_nil, ea, eb, em]
    exact dvals_map _
  · simp only [List.map_cons, List.map_nil, ea, eb, em]
    exact dvals_map _
  · refine ⟨rfl, ?_⟩
    have hm : ∀ f, mergeSt f [st.length, a, b] (.O Θ.Web [("_near", .d (nearD names links))] :: [.L ((sD names).map .d), .L ((tpD links).map .d)]) (st ++ [Cell.O Θ.Web []]) = st ++ [.O Θ.Web [("_near", .d (nearD names links))]] := fun f => by
      show ((((st ++ [Cell.O Θ.Web []]).set st.length (.O Θ.Web [("_near", .d (nearD names links))])).set a (Cell.mp f (.L ((sD names).map .d)))).set b (Cell.mp f (.L ((tpD links).map .d)))) ++ [] = _
      have e1 : (st ++ [Cell.O Θ.Web []]).set st.length (.O Θ.Web [("_near", .d (nearD names links))]) = st ++ [.O Θ.Web [("_near", .d (nearD names links))]] := by simp
      rw [e1, (cell_ok0 (ok_Ld (xs := sD names) (m := 0))).1, (cell_ok0 (ok_Ld (xs := tpD links) (m := 0))).1, set_same (n := a) (by rw [List.getElem?_append_left la]; exact ha), set_same (n := b) (by rw [List.getElem?_append_left lb]; exact hb), List.append_nil]
    show k _ (Gam.mk sl _ lk)
    rw [hm]
    exact h
theorem call_texts_o {n : Nat} {xs : List Str} (hn : st[n]? = some (.L ((sD xs).map .d))) (ok : ∀ x, x ∈ xs → PyData.strOk x = true) (hl : xs.length ≤ 1000000) (h : k (.d (.bl true)) ⟨sl, st, lk⟩) : CallW (sp_law_same_texts Θ) [.own n, .d (.lst (sD xs))] ⟨sl, st, lk⟩ k x := by
  have e := getD_at hn
  refine callW_flat [n] (by simp) (fun m hm => ?_) (fun m hm => ?_) (by simp [Val.all]) ⟨.own 0, .d (.lst (sD xs)), xs, by simp [Val.mp, posIn], ?_, dlS_d, ok, hl, ?_, ?_⟩
  · rw [List.mem_singleton.mp hm]; exact (List.getElem?_eq_some_iff.mp hn).1
  · rw [List.mem_singleton.mp hm, e]; exact ok_Ld
  · simp only [List.map_cons, List.map_nil, e]; exact dvals_map _
  · simp only [List.map_cons, List.map_nil, e]; exact Flat.cons ok_Ld Flat.nil
  · simp only [List.map_cons, List.map_nil, e]
    have : ∀ f, mergeSt f [n] [.L ((sD xs).map .d)] st = st := fun f => by
      show st.set n (Cell.mp f (.L ((sD xs).map .d))) ++ [] = st
      rw [(cell_ok0 (ok_Ld (xs := sD xs) (m := 0))).1, set_same hn, List.append_nil]
    show k _ (Gam.mk sl _ lk)
    rw [this]
    exact h
theorem call_pairs_o {n : Nat} {xs : List (Str × Str)} (hn : st[n]? = some (.L ((tpD xs).map .d))) (ok : PairsOk xs) (hl : xs.length ≤ 1000000) (h : k (.d (.bl true)) ⟨sl, st, lk⟩) : CallW (sp_law_same_pairs Θ) [.own n, .d (.lst (tpD xs))] ⟨sl, st, lk⟩ k x := by
  have e := getD_at hn
  refine callW_flat [n] (by simp) (fun m hm => ?_) (fun m hm => ?_) (by simp [Val.all]) ⟨.own 0, .d (.lst (tpD xs)), xs, by simp [Val.mp, posIn], ?_, dlS_d, ok, hl, ?_, ?_⟩
  · rw [List.mem_singleton.mp hm]; exact (List.getElem?_eq_some_iff.mp hn).1
  · rw [List.mem_singleton.mp hm, e]; exact ok_Ld
  · simp only [List.map_cons, List.map_nil, e]; exact dvals_map _
  · simp only [List.map_cons, List.map_nil, e]; exact Flat.cons ok_Ld Flat.nil
  · simp only [List.map_cons, List.map_nil, e]
    have : ∀ f, mergeSt f [n] [.L ((tpD xs).map .d)] st = st := fun f => by
      show st.set n (Cell.mp f (.L ((tpD xs).map .d))) ++ [] = st
      rw [(cell_ok0 (ok_Ld (xs := tpD xs) (m := 0))).1, set_same hn, List.append_nil]
    show k _ (Gam.mk sl _ lk)
    rw [this]
    exact h
theorem call_law_pairs {links : List (Str × Str)} (ok : ∀ p, p ∈ links → p.1 ≠ p.2 ∧ PyData.strOk p.1 = true ∧ PyData.strOk p.2 = true) (hl : links.length ≤ 1000000) (h : k (.d (.lst (tpD (sortP (links.map pairOf))))) ⟨sl, st, lk⟩) : CallW (sp_law_pairs Θ) [.d (.lst (tpD links))] ⟨sl, st, lk⟩ k x := by
  refine callW_d (ds := [.lst (tpD links)]) ⟨links, rfl, rfl, ok, hl, ?_⟩
  simpa [Val.mp, mergeSt] using h
theorem call_houses {names : List Str} {links : List (Str × Str)} (ok : WebOk names links) (h : k (.own st.length) ⟨sl, st ++ [.L ((sD (sortS names)).map .d)], lk⟩) : CallW (sp_Web_houses Θ) [.d (webD Θ names links)] ⟨sl, st, lk⟩ k x := by
  refine callW_d (ds := [webD Θ names links]) ⟨names, links, rfl, rfl, ok, ?_⟩
  show k _ (Gam.mk sl _ lk)
  rw [merge0 (Flat.cons ok_Ld Flat.nil)]
  simpa [Val.mp, backN] using h
theorem call_links {names : List Str} {links : List (Str × Str)} (ok : WebOk names links) (h : k (.own st.length) ⟨sl, st ++ [.L ((tpD (toldL names links)).map .d)], lk⟩) : CallW (sp_Web_links Θ) [.d (webD Θ names links)] ⟨sl, st, lk⟩ k x := by
  refine callW_d (ds := [webD Θ names links]) ⟨names, links, rfl, rfl, ok, ?_⟩
  show k _ (Gam.mk sl _ lk)
  rw [merge0 (Flat.cons ok_Ld Flat.nil)]
  simpa [Val.mp, backN] using h
theorem call_weblen {names : List Str} {links : List (Str × Str)} (ok : WebOk names links) (h : k (.d (.int (names.length : Nat))) ⟨sl, st, lk⟩) : CallW (sp_Web__len__ Θ) [.d (webD Θ names links)] ⟨sl, st, lk⟩ k x := by
  refine callW_d (ds := [webD Θ names links]) ⟨names, links, rfl, rfl, ok, ?_⟩
  simpa [Val.mp, mergeSt] using h
end
end L3

namespace L3
open PySem L2 PyProof.Rows
theorem frz_L {f : Nat} {sl : List (Option Val)} {st : List Cell} {lk : Bool} {n : Nat} {ds : List D} (h : st[n]? = some (.L (ds.map .d))) : Gam.frz (f + 1) ⟨sl, st, lk⟩ (.own n) = some (.lst ds, ⟨sl, st.set n (.fz (.lst ds)), lk⟩) := by
  rw [Gam.frz]
  simp only
  rw [h]
  simp only
  rw [frzs_d]
  simp only
  rw [h]
theorem frz_O {f : Nat} {sl : List (Option Val)} {st : List Cell} {lk : Bool} {n : Nat} {C : Addr} {g : Str} {d : D} (h : st[n]? = some (.O C [(g, .d d)])) : Gam.frz (f + 1) ⟨sl, st, lk⟩ (.own n) = some (.obj C [(g, d)], ⟨sl, st.set n (.fz (.obj C [(g, d)])), lk⟩) := by
  rw [Gam.frz]
  simp only
  rw [h]
  simp only
  rw [show [((g, Val.d d) : Str × Val)].map (·.2) = [d].map .d from rfl, frzs_d]
  simp only
  rw [h]
  rfl
theorem dv_own {sl : List (Option Val)} {st : List Cell} {lk : Bool} {n : Nat} {xs : List D} (h : st[n]? = some (.L (xs.map .d))) : Gam.dv ⟨sl, st, lk⟩ (.own n) = some (.lst xs) := by
  rw [z_dv_o, h]
  show (dvals _).map _ = _
  rw [dvals_map]
  rfl
theorem eqv_sD (l : List Str) : D.eqv (.lst (sD l)) (.lst (sD l)) = true := by
  show PyData.eqvAll (D.pys (sD l)) (D.pys (sD l)) = true
  induction l with
  | nil => simp [sD, D.pys, PyData.eqvAll]
  | cons a l ih =>
    show PyData.eqvAll (PyData.str a :: D.pys (sD l)) (PyData.str a :: D.pys (sD l)) = true
    rw [PyData.eqvAll, ih]
    simp [PyData.eqv]
theorem eqv_tpD (l : List (Str × Str)) : D.eqv (.lst (tpD l)) (.lst (tpD l)) = true := by
  show PyData.eqvAll (D.pys (tpD l)) (D.pys (tpD l)) = true
  induction l with
  | nil => simp [tpD, D.pys, PyData.eqvAll]
  | cons p l ih =>
    show PyData.eqvAll (PyData.tuple [PyData.str p.1, PyData.str p.2] :: D.pys (tpD l)) (PyData.tuple [PyData.str p.1, PyData.str p.2] :: D.pys (tpD l)) = true
    rw [PyData.eqvAll, ih]
    simp [PyData.eqv, PyData.eqvAll]
theorem v_law (Θ : Wh) : VOk (r_law Θ) 1 11 spLaw := by
  rintro lk _ _ k x ⟨ns, rfl, rfl, hns, K⟩
  refine ⟨rfl, ?_⟩
  unfold r_law
  refine sq fun M hM => ?_
  simp [List.replicate]
  apply hM; clear hM M
  refine sq fun M hM => ?_
  refine ⟨_, rfl, _, rfl, _, rfl, _, rfl, ?_⟩
  try simp only [z_c, z_acons, z_anil, List.map_nil, List.append_nil]
  refine call_take (p := [0, 0, 0, 0]) (many := 13) rfl ⟨⟨0, 0, 0, 0, rfl, by decide, by decide, by decide, by decide, by decide⟩⟩ (by omega) (by omega) fun r p hp r0 r1 => ?_
  refine .inl ⟨_, _, rfl, rfl, ?_⟩
  try simp only [z_c, z_acons, z_anil, List.map_nil, List.append_nil]
  refine call_law_names (p := p) rfl hp (by omega) (by omega) fun names p hp nd nm nl => ?_
  refine ⟨_, frz_L (f := 3) (ds := sD names) rfl, ?_⟩
  have hN : NamesOk names := ⟨nd, nm, by omega, by omega⟩
  show M ⟨[some (.d (.scr ns)), some (.own 0), some (.d (.lst (sD names))), none, none, none, none, none, none, none, none], [poolC p, .fz (.lst (sD names))], lk⟩
  apply hM; clear hM M r0 r1
  refine sq fun M hM => ?_
  refine ⟨_, rfl, _, rfl, _, rfl, _, rfl, _, rfl, ?_⟩
  try simp only [z_c, z_acons, z_anil, List.map_nil, List.append_nil]
  refine call_law_links (p := p) rfl hp hN fun links p hp ok => ?_
  try simp only [z_c, z_acons, z_anil, List.map_nil, List.append_nil]
  have few := ok.few
  refine call_shuffled_o (things := tpD links) (p := p) rfl hp (by unfold tpD; rw [List.length_map]; omega) rfl (by simp) fun found p hp hperm => ?_
  obtain ⟨links', rfl, hpl⟩ := perm_map hperm links rfl
  refine ⟨_, frz_L (f := 3) (ds := tpD links') rfl, ?_⟩
  show M ⟨[some (.d (.scr ns)), some (.own 0), some (.d (.lst (sD names))), some (.d (.lst (tpD links'))), none, none, none, none, none, none, none], [poolC p, .fz (.lst (sD names)), .L ((tpD links).map .d), .fz (.lst (tpD links'))], lk⟩
  apply hM; clear hM M hperm
  refine sq fun M hM => ?_
  refine ⟨_, rfl, _, rfl, _, rfl, ?_⟩
  try simp only [z_c, z_acons, z_anil, List.map_nil, List.append_nil]
  refine call_shuffled_d (things := sD names) (p := p) rfl hp (by unfold sD; rw [List.length_map]; have := hN.hi; omega) fun found p hp hperm => ?_
  obtain ⟨first, rfl, hpn⟩ := perm_map hperm names rfl
  show M ⟨[some (.d (.scr ns)), some (.own 0), some (.d (.lst (sD names))), some (.d (.lst (tpD links'))), some (.own 4), none, none, none, none, none, none], [poolC p, .fz (.lst (sD names)), .L ((tpD links).map .d), .fz (.lst (tpD links')), .L ((sD first).map .d)], lk⟩
  apply hM; clear hM M hperm
  have okF : WebOk first links' := ok.perm hpn hpl
  have okL : WebOk names links' := ok.perm (.refl _) hpl
  refine sq fun M hM => ?_
  refine ⟨_, rfl, list_go rfl ?_⟩
  show M ⟨[some (.d (.scr ns)), some (.own 0), some (.d (.lst (sD names))), some (.d (.lst (tpD links'))), some (.own 4), some (.own 5), none, none, none, none, none], [poolC p, .fz (.lst (sD names)), .L ((tpD links).map .d), .fz (.lst (tpD links')), .L ((sD first).map .d), .L ((tpD links').map .d)], lk⟩
  apply hM; clear hM M
  refine sq fun M hM => ?_
  refine ⟨_, rfl, list_go rfl ⟨.lst (sD first), by show (dvals _).map _ = _; rw [dvals_map]; rfl, ?_⟩⟩
  show M ⟨[some (.d (.scr ns)), some (.own 0), some (.d (.lst (sD names))), some (.d (.lst (tpD links'))), some (.own 4), some (.own 5), some (.d (.lst (sD first))), none, none, none, none], [poolC p, .fz (.lst (sD names)), .L ((tpD links).map .d), .fz (.lst (tpD links')), .L ((sD first).map .d), .L ((tpD links').map .d)], lk⟩
  apply hM; clear hM M
  refine sq fun M hM => ?_
  refine ⟨_, rfl, _, rfl, ?_⟩
  try simp only [z_c, z_acons, z_anil, List.map_nil, List.append_nil]
  refine make_web (names := first) (links := links') rfl rfl (by decide) okF ?_
  refine ⟨_, frz_O (f := 3) rfl, ?_⟩
  show M ⟨[some (.d (.scr ns)), some (.own 0), some (.d (.lst (sD names))), some (.d (.lst (tpD links'))), some (.own 4), some (.own 5), some (.d (.lst (sD first))), some (.d (webD Θ first links')), none, none, none], [poolC p, .fz (.lst (sD names)), .L ((tpD links).map .d), .fz (.lst (tpD links')), .L ((sD first).map .d), .L ((tpD links').map .d), .fz (webD Θ first links')], lk⟩
  apply hM; clear hM M
  have sF : ∀ x, x ∈ first → PyData.strOk x = true := fun x hx => isName_ok (okF.ok x hx)
  have pL : PairsOk links' := links_ok okF.toNamesOk okF.toLinksOk
  refine sq fun M hM => ?_
  refine ⟨_, rfl, _, rfl, _, _, dv_own (xs := sD first) rfl, rfl, eqOk_sD sF, eqOk_sD sF, _, rfl, ?_⟩
  rw [eqv_sD]
  refine ⟨_, rfl, _, rfl, _, _, dv_own (xs := tpD links') rfl, rfl, eqOk_tpD pL, eqOk_tpD pL, _, rfl, ?_⟩
  rw [eqv_tpD]
  show M _
  apply hM; clear hM M
  have hfl := okF.lo
  have hfh := okF.hi
  have fewL := okF.few
  have fl : (sD first).length = first.length := by simp [sD]
  refine sq fun M hM => ?_
  have hlast : (sD first)[first.length - 1]? = some (.str (first[first.length - 1]'(by omega))) := by
    unfold sD
    rw [List.getElem?_map, List.getElem?_eq_getElem (by omega)]
    rfl
  refine ⟨_, rfl, isT_L (xs := (sD first).map .d) rfl, 4, (sD first).map .d, .d (.str (first[first.length - 1]'(by omega))), rfl, rfl, rfl, by rw [List.length_map, fl, List.getElem?_map, hlast]; rfl, ?_⟩
  apply hM; clear hM M
  refine sq fun M hM => ?_
  have eX : ((sD first).map Val.d).dropLast = ((sD first).dropLast).map .d := by rw [List.map_dropLast]
  refine ⟨_, rfl, isT_L (xs := ((sD first).map .d).dropLast) rfl, 4, ((sD first).map .d).dropLast, .d (.str "other"), rfl, rfl, rfl, by rw [List.length_dropLast, List.length_map, fl, z_sizeLine]; omega, ?_⟩
  apply hM; clear hM M
  refine sq fun M hM => ?_
  refine ⟨_, rfl, isT_L (xs := (tpD links').map .d) rfl, 5, (tpD links').map .d, rfl, rfl, rfl, ?_⟩
  have eY : ((sD first).map Val.d).dropLast ++ [Val.d (.str "other")] = ((sD first).dropLast ++ [D.str "other"]).map .d := by rw [eX, List.map_append]; rfl
  generalize hS : [poolC p, .fz (.lst (sD names)), .L ((tpD links).map .d), .fz (.lst (tpD links')), .L (((sD first).dropLast ++ [D.str "other"]).map .d), .L [], .fz (webD Θ first links')] = S0
  have fS : Flat S0 := by
    rw [← hS]
    exact Flat.cons ok_pool (Flat.cons rfl (Flat.cons ok_Ld (Flat.cons rfl (Flat.cons ok_Ld (Flat.cons rfl (Flat.cons rfl Flat.nil))))))
  have lS : S0.length = 7 := by rw [← hS]; rfl
  have G : M ⟨[some (.d (.scr ns)), some (.own 0), some (.d (.lst (sD names))), some (.d (.lst (tpD links'))), some (.own 4), some (.own 5), some (.d (.lst (sD first))), some (.d (webD Θ first links')), none, none, none], S0, lk⟩ := by
    apply hM; clear hM M
    refine sq fun M hM => ?_
    refine ⟨3, rfl, by decide, by decide, ?_⟩
    refine ⟨fun i Γ => ∃ v8, Is Γ ⟨[some (.d (.scr ns)), some (.own 0), some (.d (.lst (sD names))), some (.d (.lst (tpD links'))), some (.own 4), some (.own 5), some (.d (.lst (sD first))), some (.d (webD Θ first links')), fr v8, none, none], S0, lk⟩, ⟨none, .r⟩, fun _ _ _ _ => trivial, ?_, ?_⟩
    · rintro i _ hi ⟨v8, e⟩
      cases e
      have hi3 : i < 3 := hi
      rw [z_gname]
      refine sq fun M2 hM2 => ?_
      refine ⟨_, rfl, _, rfl, rfl, ?_⟩
      try simp only [z_c, z_acons, z_anil, List.map_nil, List.append_nil]
      refine call_houses (names := first) (links := links') okF ?_
      rw [lS]
      show M2 ⟨[some (.d (.scr ns)), some (.own 0), some (.d (.lst (sD names))), some (.d (.lst (tpD links'))), some (.own 4), some (.own 5), some (.d (.lst (sD first))), some (.d (webD Θ first links')), some (.d (.int (i : Nat))), some (.own 7), none], S0 ++ [.L ((sD (sortS first)).map .d)], lk⟩
      apply hM2; clear hM2 M2
      refine sq fun M2 hM2 => ?_
      refine ⟨_, rfl, _, rfl, rfl, ?_⟩
      try simp only [z_c, z_acons, z_anil, List.map_nil, List.append_nil]
      refine call_links (names := first) (links := links') okF ?_
      have l8 : (S0 ++ [Cell.L ((sD (sortS first)).map .d)]).length = 8 := by rw [List.length_append, lS]; rfl
      rw [l8]
      show M2 ⟨[some (.d (.scr ns)), some (.own 0), some (.d (.lst (sD names))), some (.d (.lst (tpD links'))), some (.own 4), some (.own 5), some (.d (.lst (sD first))), some (.d (webD Θ first links')), some (.d (.int (i : Nat))), some (.own 7), some (.own 8)], S0 ++ [.L ((sD (sortS first)).map .d)] ++ [.L ((tpD (toldL first links')).map .d)], lk⟩
      apply hM2; clear hM2 M2
      have e7 : ∀ {c d}, (S0 ++ [c] ++ [d])[7]? = some c := fun {c d} => by
        rw [List.append_assoc, List.getElem?_append_right (by omega), lS]
        rfl
      have e8 : ∀ {c d}, (S0 ++ [c] ++ [d])[8]? = some d := fun {c d} => by
        rw [List.append_assoc, List.getElem?_append_right (by omega), lS]
        rfl
      have sN : ∀ x, x ∈ sortS names → PyData.strOk x = true := fun x hx => isName_ok (hN.ok x (sortS_mem.mp hx))
      have eqN : sortS first = sortS names := sortS_congr hpn
      have lN : (sortS names).length = names.length := sortS_len names
      have hNh := hN.hi
      have hNl := hN.lo
      rw [eqN, told_sort okF]
      refine sq fun M2 hM2 => ?_
      refine ⟨_, rfl, _, rfl, sorted_go (ds := sD names) (dvals_map _) (sortOk_sD (fun x hx => isName_ok (hN.ok x hx)) (by rw [z_sizeLine]; omega)) ?_⟩
      rw [sort_sD]
      refine ⟨.lst (sD (sortS names)), by show (dvals _).map _ = _; rw [dvals_map]; rfl, ?_⟩
      try simp only [z_c, z_acons, z_anil, List.map_nil, List.append_nil]
      refine call_texts_o e7 sN (by omega) ?_
      refine ⟨true, rfl, ?_⟩
      refine ⟨_, rfl, _, rfl, ?_⟩
      try simp only [z_c, z_acons, z_anil, List.map_nil, List.append_nil]
      refine call_law_pairs (fun q hq => ⟨(okF.mem q hq).2.2, pL q hq⟩) (by omega) ?_
      try simp only [z_c, z_acons, z_anil, List.map_nil, List.append_nil]
      have lP : (sortP (links'.map pairOf)).length = links'.length := by unfold sortP; rw [List.length_mergeSort, List.length_map]
      refine call_pairs_o e8 (fun q hq => ?_) (by omega) ?_
      · have hq' := (List.mergeSort_perm _ _).mem_iff.mp hq
        obtain ⟨q2, hq2, rfl⟩ := List.mem_map.mp hq'
        exact pairOf_ok (pL q2 hq2)
      refine ⟨true, rfl, ?_⟩
      show M2 _
      apply hM2; clear hM2 M2
      refine sq fun M2 hM2 => ?_
      refine ⟨_, rfl, ⟨_, _, rfl, rfl, ?_⟩⟩
      try simp only [z_c, z_acons, z_anil, List.map_nil, List.append_nil]
      refine call_weblen (names := first) (links := links') okF ?_
      refine ⟨(first.length : Nat), rfl, by omega, ?_⟩
      refine ⟨_, rfl, ⟨_, names.length, rfl, by show some (((sD names).map Val.d).length) = _; rw [List.length_map]; simp [sD], ?_⟩⟩
      refine ⟨_, _, rfl, rfl, rfl, rfl, _, rfl, ?_⟩
      have eln : D.eqv (.int (first.length : Nat)) (.int (names.length : Nat)) = true := by rw [z_eqv_i, hpn.length_eq]; exact decide_eq_true rfl
      rw [eln]
      show M2 _
      apply hM2; clear hM2 M2
      refine sq fun M2 hM2 => ?_
      -- houses.pop(turn % len(houses))
      have im : (i : Int) % ((sortS names).length : Nat) = ((i % (sortS names).length : Nat) : Int) := rfl
      have hj : i % (sortS names).length < (sD (sortS names)).length := by
        have : (sD (sortS names)).length = (sortS names).length := by simp [sD]
        rw [this]
        exact Nat.mod_lt _ (by omega)
      refine ⟨_, rfl, isT_L (xs := (sD (sortS names)).map .d) e7, _, rfl, _, rfl, ⟨_, (sortS names).length, rfl, by rw [size_shp, z_shp_o, e7]; show some (((sD (sortS names)).map Val.d).length) = _; simp [sD], ?_⟩⟩
      refine ⟨_, _, rfl, rfl, by omega, ?_⟩
      try simp only [z_c, z_acons, z_anil, List.map_nil, List.append_nil]
      have s7 : ∀ {c d c'}, (S0 ++ [c] ++ [d]).set 7 c' = S0 ++ [c'] ++ [d] := fun {c d c'} => by
        rw [List.append_assoc, List.set_append_right _ _ (by omega), lS, List.append_assoc]
        rfl
      have s8 : ∀ {c d d'}, (S0 ++ [c] ++ [d]).set 8 d' = S0 ++ [c] ++ [d'] := fun {c d d'} => by
        rw [List.append_assoc, List.set_append_right _ _ (by omega), lS, List.append_assoc]
        rfl
      refine ⟨7, (sD (sortS names)).map .d, .d ((sD (sortS names))[i % (sortS names).length]), (i : Int) % ((sortS names).length : Nat), i % (sortS names).length, rfl, rfl, e7, Int.le_trans (by decide) (Int.natCast_nonneg (i % (sortS names).length)), Int.lt_of_lt_of_le (Int.ofNat_lt.mpr (Nat.mod_lt i (show 0 < (sortS names).length by omega))) (by omega), ?_, by rw [List.getElem?_map, List.getElem?_eq_getElem hj]; rfl, ?_⟩
      · rw [List.length_map, im]
        exact (ixN_seq (ixN_nat hj)).1
      dsimp only
      rw [s7]
      apply hM2; clear hM2 M2
      refine sq fun M2 hM2 => ?_
      refine ⟨_, rfl, isT_L (xs := (tpD (sortP (links'.map pairOf))).map .d) e8, 8, (tpD (sortP (links'.map pairOf))).map .d, rfl, rfl, e8, ?_⟩
      dsimp only
      rw [s8]
      apply hM2; clear hM2 M2
      refine ⟨_, rfl, isT_L (xs := ((tpD (sortP (links'.map pairOf))).map Val.d).reverse) e8, by decide, _, rfl, 8, ((tpD (sortP (links'.map pairOf))).map Val.d).reverse, .d (.tup [.str "a", .str "a"]), rfl, rfl, e8, ?_, ?_⟩
      · rw [List.length_reverse, List.length_map, z_sizeLine]
        unfold tpD
        rw [List.length_map]
        omega
      dsimp only
      rw [s8]
      refine ⟨some (.int (i : Nat)), ?_⟩
      rw [z_trim]
      dsimp only
      have e9 := trimC_flat (m := 7) fS (more := [Cell.L (((sD (sortS names)).map Val.d).eraseIdx (i % (sortS names).length))] ++ [Cell.L (((tpD (sortP (links'.map pairOf))).map Val.d).reverse ++ [Val.d (.tup [.str "a", .str "a"])])])
      rw [lS] at e9
      rw [lS, List.append_assoc, e9]
      simp
      exact .r
    · rintro _ ⟨v8, e⟩
      cases e
      apply hM; clear hM M
      exact K
  rw [← hS, ← eY] at G
  exact G
end L3

namespace L3
open PySem L2 PyProof.Rows
def top (i : Nat) : Stmt := PySem.Challenge.pw_stretchroad_k01_web_told.main.body.getD i (.Pass ⟨0, 0, 0, 0⟩)
abbrev s_law_take : Stmt := top 18
theorem sc_law_take : FnScope ["_law_script", "_law_pool", "_law_many", "_law_cell", "_law_digit", "_law_seed"] ["_law_script", "_law_pool", "_law_many"] (defScope s_law_take) := ⟨rfl, rfl, rfl, by decide +kernel, rfl, by decide +kernel, by decide +kernel⟩
theorem d_law_take {P : Program} {w : World} {mg : Str → Option Value} {base : Heap} {f : Addr}  (Θ : Wh) (z_len : mg "len" = none) (z_int : mg "int" = none) (cdv : Value) (A : Around) (outer : List Env) (s : Shared) (H : Hp) (E : XK) (hr : Room 0 (A.deeper (envOfC "_law_take" (defScope s_law_take) s.heap.objs.size f cdv))) :
    PSs3 (cxOf (L2.CX P w) P w Θ.K mg base ["_law_script", "_law_pool", "_law_many", "_law_cell", "_law_digit", "_law_seed"] "_law_take" (defScope s_law_take) f cdv A outer s H E) (fun c d _ H => E c d H) (defBody s_law_take) (r_law_take Θ) := by
  have nd := sc_law_take.nd
  have c := good_of (mg := mg) (base := base) (E := E) (w := w) (P := P) (K := Θ.K) (outer := outer) (H := H) nd hr
  exact ss_cons (s_asg (w_op o_add (w_ix c.toGood (w_var 1) (w_int)) (w_int)) (g_sub c.toGood (w_var 1) (w_int)))
    (ss_cons (s_if (t_w (t_and (t_cmp (o_eq c.toGood) (w_ix c.toGood (w_var 1) (w_int)) (w_int) (by with_unfolding_all rfl)) (t_and1 (t_cmp o_lt (w_ix c.toGood (w_var 1) (w_int)) (w_callB c_len rfl z_len boot_len (a_cons (w_var 0) (a_nil))) (by with_unfolding_all rfl))))) (ss_cons (s_set c.toGood 3 (w_ix c.toGood (w_var 0) (w_ix c.toGood (w_var 1) (w_int))))
    (ss_cons (s_asg (w_op o_add (w_ix c.toGood (w_var 1) (w_int)) (w_int)) (g_sub c.toGood (w_var 1) (w_int)))
    (ss_cons (s_if (t_cmp o_lt (w_var 3) (w_int) (by with_unfolding_all rfl)) (ss_one (s_set c.toGood 3 (w_neg (w_var 3)))) (ss_nil))
    (ss_one (s_if (t_cmp o_ge (w_var 3) (w_op o_pow (w_int) (w_int)) (by with_unfolding_all rfl)) (ss_one (s_asg (w_var 3) (g_sub c.toGood (w_var 1) (w_int)))) (ss_one (s_asg (w_op o_mod (w_callTy c_int rfl z_int boot_int (a_cons (w_op o_add (w_op o_add (w_op o_mul (w_ix c.toGood (w_var 1) (w_int)) (w_int)) (w_var 3)) (w_int)) (a_nil))) (w_int)) (g_sub c.toGood (w_var 1) (w_int))))))))) (ss_nil))
    (ss_cons (s_if (t_cmp o_gt (w_ix c.toGood (w_var 1) (w_int)) (w_int) (by with_unfolding_all rfl)) (ss_cons (s_set c.toGood 4 (w_op o_mod (w_callTy c_int rfl z_int boot_int (a_cons (w_ix c.toGood (w_var 1) (w_int)) (a_nil))) (w_var 2)))
    (ss_cons (s_asg (w_op o_fdiv (w_ix c.toGood (w_var 1) (w_int)) (w_var 2)) (g_sub c.toGood (w_var 1) (w_int)))
    (ss_one (s_ret (w_var 4))))) (ss_nil))
    (ss_cons (s_set c.toGood 5 (w_op o_mod (w_op o_mul (w_callTy c_int rfl z_int boot_int (a_cons (w_op o_add (w_op o_add (w_ix c.toGood (w_var 1) (w_int)) (w_op o_mul (w_int) (w_ix c.toGood (w_var 1) (w_int)))) (w_int)) (a_nil))) (w_int)) (w_int)))
    (ss_cons (s_set c.toGood 5 (w_op o_mod (w_callTy c_int rfl z_int boot_int (a_cons (w_op o_mul (w_var 5) (w_op o_add (w_op o_fdiv (w_var 5) (w_int)) (w_int))) (a_nil))) (w_int)))
    (ss_cons (s_set c.toGood 5 (w_op o_mod (w_callTy c_int rfl z_int boot_int (a_cons (w_op o_mul (w_var 5) (w_op o_add (w_op o_fdiv (w_var 5) (w_int)) (w_int))) (a_nil))) (w_int)))
    (ss_one (s_ret (w_op o_mod (w_callTy c_int rfl z_int boot_int (a_cons (w_op o_fdiv (w_var 5) (w_int)) (a_nil))) (w_var 2)))))))))
abbrev s_law_names : Stmt := top 19
theorem sc_law_names : FnScope ["_law_script", "_law_pool", "_law_many", "_law_letters", "_law_names_here", "_law_k", "_law_size", "_law_word", "_law_letter", "_law_j"] ["_law_script", "_law_pool", "_law_many"] (defScope s_law_names) := ⟨rfl, rfl, rfl, by decide +kernel, rfl, by decide +kernel, by decide +kernel⟩
theorem d_law_names {P : Program} {w : World} {mg : Str → Option Value} {base : Heap} {f : Addr}  (Θ : Wh) (h_law_take : Cal3 P w Θ.K mg base 1 "_law_take" (sp_law_take Θ) []) (z_range : mg "range" = none) (cdv : Value) (A : Around) (outer : List Env) (s : Shared) (H : Hp) (E : XK) (hr : Room 1 (A.deeper (envOfC "_law_names" (defScope s_law_names) s.heap.objs.size f cdv))) :
    PSs3 (cxOf (L2.CX P w) P w Θ.K mg base ["_law_script", "_law_pool", "_law_many", "_law_letters", "_law_names_here", "_law_k", "_law_size", "_law_word", "_law_letter", "_law_j"] "_law_names" (defScope s_law_names) f cdv A outer s H E) (fun c d _ H => E c d H) (defBody s_law_names) (r_law_names Θ) := by
  have nd := sc_law_names.nd
  have c := good_of (mg := mg) (base := base) (E := E) (w := w) (P := P) (K := Θ.K) (outer := outer) (H := H) nd hr
  exact ss_cons (s_set c.toGood 3 (w_str))
    (ss_cons (s_set c.toGood 4 (w_lst true (a_nil)))
    (ss_cons (s_for c (i_range1 rfl z_range (a_cons (w_var 2) (a_nil))) (g_name c.toGood 5) (ss_cons (s_set c.toGood 6 (w_op o_add (w_int) (w_c c.toGood h_law_take hr (by decide) rfl (a_cons (w_var 0) (a_cons (w_var 1) (a_cons (w_int) (a_nil)))))))
    (ss_cons (s_set c.toGood 7 (w_bm F.plainAttrs_str F.slot_str_join F.type_str_join m_join (w_str) (a_cons (w_lc (own := [("_law_j", 9)]) false c.toGood (i_range1 rfl z_range (a_cons (w_var 6) (a_nil))) (show BlkOk ["_law_script", "_law_pool", "_law_many", "_law_letters", "_law_names_here", "_law_k", "_law_size", "_law_word", "_law_letter", "_law_j"] (defScope s_law_names) _ [("_law_j", 9)] from ⟨rfl, by decide +kernel, by decide +kernel, by decide +kernel, by decide +kernel⟩) (fun s H C cl fp => c_name nd 9) (fun s H C cl fp => ts_nil) (fun s H C cl fp => w_ix (c.toGood.blk _ _ _ _ _) (w_var 3) (w_c (c.toGood.blk _ _ _ _ _) h_law_take hr (by decide) rfl (a_cons (w_var 0) (a_cons (w_var 1) (a_cons (w_int) (a_nil))))))) (a_nil))))
    (ss_cons (s_for c (i_str (w_var 3)) (g_name c.toGood 8) (ss_one (s_if (t_w (t_and (t_cmp (o_in3 c.toGood) (w_var 7) (w_var 4) (by with_unfolding_all rfl)) (t_and1 (t_cmp (o_notin3 c.toGood) (w_var 8) (w_var 4) (by with_unfolding_all rfl))))) (ss_one (s_set c.toGood 7 (w_var 8))) (ss_nil))))
    (ss_one (s_expr (w_bm F.plainAttrs_list F.slot_list_append F.type_list_append m_append (w_var 4) (a_cons (w_var 7) (a_nil)))))))))
    (ss_one (s_ret (w_var 4)))))
abbrev s_law_links : Stmt := top 21
theorem sc_law_links : FnScope ["_law_script", "_law_pool", "_law_names_here", "_law_links_here", "_law_shape", "_law_extra", "_law_k", "_law_back", "_law_a", "_law_b"] ["_law_script", "_law_pool", "_law_names_here"] (defScope s_law_links) := ⟨rfl, rfl, rfl, by decide +kernel, rfl, by decide +kernel, by decide +kernel⟩
theorem d_law_links {P : Program} {w : World} {mg : Str → Option Value} {base : Heap} {f : Addr}  (Θ : Wh) (h_law_take : Cal3 P w Θ.K mg base 1 "_law_take" (sp_law_take Θ) []) (z_len : mg "len" = none) (z_range : mg "range" = none) (cdv : Value) (A : Around) (outer : List Env) (s : Shared) (H : Hp) (E : XK) (hr : Room 1 (A.deeper (envOfC "_law_links" (defScope s_law_links) s.heap.objs.size f cdv))) :
    PSs3 (cxOf (L2.CX P w) P w Θ.K mg base ["_law_script", "_law_pool", "_law_names_here", "_law_links_here", "_law_shape", "_law_extra", "_law_k", "_law_back", "_law_a", "_law_b"] "_law_links" (defScope s_law_links) f cdv A outer s H E) (fun c d _ H => E c d H) (defBody s_law_links) (r_law_links Θ) := by
  have nd := sc_law_links.nd
  have c := good_of (mg := mg) (base := base) (E := E) (w := w) (P := P) (K := Θ.K) (outer := outer) (H := H) nd hr
  exact ss_cons (s_set c.toGood 3 (w_lst true (a_nil)))
    (ss_cons (s_set c.toGood 4 (w_c c.toGood h_law_take hr (by decide) rfl (a_cons (w_var 0) (a_cons (w_var 1) (a_cons (w_int) (a_nil))))))
    (ss_cons (s_set c.toGood 5 (w_c c.toGood h_law_take hr (by decide) rfl (a_cons (w_var 0) (a_cons (w_var 1) (a_cons (w_int) (a_nil))))))
    (ss_cons (s_if (t_cmp (o_eq c.toGood) (w_var 5) (w_int) (by with_unfolding_all rfl)) (ss_one (s_set c.toGood 5 (w_c c.toGood h_law_take hr (by decide) rfl (a_cons (w_var 0) (a_cons (w_var 1) (a_cons (w_op o_add (w_op o_fdiv (w_op o_mul (w_callB c_len rfl z_len boot_len (a_cons (w_var 2) (a_nil))) (w_callB c_len rfl z_len boot_len (a_cons (w_var 2) (a_nil)))) (w_int)) (w_int)) (a_nil))))))) (ss_nil))
    (ss_cons (s_for c (i_range2 rfl z_range (a_cons (w_int) (a_cons (w_callB c_len rfl z_len boot_len (a_cons (w_var 2) (a_nil))) (a_nil)))) (g_name c.toGood 6) (ss_cons (s_set c.toGood 7 (w_c c.toGood h_law_take hr (by decide) rfl (a_cons (w_var 0) (a_cons (w_var 1) (a_cons (w_var 6) (a_nil))))))
    (ss_cons (s_if (t_cmp (o_eq c.toGood) (w_var 4) (w_int) (by with_unfolding_all rfl)) (ss_one (s_set c.toGood 7 (w_op o_sub (w_var 6) (w_int)))) (ss_nil))
    (ss_cons (s_if (t_cmp (o_eq c.toGood) (w_var 4) (w_int) (by with_unfolding_all rfl)) (ss_one (s_set c.toGood 7 (w_int))) (ss_nil))
    (ss_one (s_if (t_cmp (o_eq c.toGood) (w_c c.toGood h_law_take hr (by decide) rfl (a_cons (w_var 0) (a_cons (w_var 1) (a_cons (w_int) (a_nil))))) (w_int) (by with_unfolding_all rfl)) (ss_one (s_expr (w_bm F.plainAttrs_list F.slot_list_append F.type_list_append m_append (w_var 3) (a_cons (w_tup (a_cons (w_ix c.toGood (w_var 2) (w_var 7)) (a_cons (w_ix c.toGood (w_var 2) (w_var 6)) (a_nil)))) (a_nil))))) (ss_one (s_expr (w_bm F.plainAttrs_list F.slot_list_append F.type_list_append m_append (w_var 3) (a_cons (w_tup (a_cons (w_ix c.toGood (w_var 2) (w_var 6)) (a_cons (w_ix c.toGood (w_var 2) (w_var 7)) (a_nil)))) (a_nil)))))))))))
    (ss_cons (s_if (t_w (t_and (t_cmp (o_eq c.toGood) (w_var 4) (w_int) (by with_unfolding_all rfl)) (t_and (t_cmp o_gt (w_callB c_len rfl z_len boot_len (a_cons (w_var 2) (a_nil))) (w_int) (by with_unfolding_all rfl)) (t_and (t_cmp (o_notin3 c.toGood) (w_tup (a_cons (w_ix c.toGood (w_var 2) (w_int)) (a_cons (w_ix c.toGood (w_var 2) (w_neg (w_int))) (a_nil)))) (w_var 3) (by with_unfolding_all rfl)) (t_and1 (t_cmp (o_notin3 c.toGood) (w_tup (a_cons (w_ix c.toGood (w_var 2) (w_neg (w_int))) (a_cons (w_ix c.toGood (w_var 2) (w_int)) (a_nil)))) (w_var 3) (by with_unfolding_all rfl))))))) (ss_one (s_expr (w_bm F.plainAttrs_list F.slot_list_append F.type_list_append m_append (w_var 3) (a_cons (w_tup (a_cons (w_ix c.toGood (w_var 2) (w_int)) (a_cons (w_ix c.toGood (w_var 2) (w_neg (w_int))) (a_nil)))) (a_nil))))) (ss_nil))
    (ss_cons (s_for c (i_range1 rfl z_range (a_cons (w_var 5) (a_nil))) (g_name c.toGood 6) (ss_cons (s_set c.toGood 8 (w_ix c.toGood (w_var 2) (w_c c.toGood h_law_take hr (by decide) rfl (a_cons (w_var 0) (a_cons (w_var 1) (a_cons (w_callB c_len rfl z_len boot_len (a_cons (w_var 2) (a_nil))) (a_nil)))))))
    (ss_cons (s_set c.toGood 9 (w_ix c.toGood (w_var 2) (w_c c.toGood h_law_take hr (by decide) rfl (a_cons (w_var 0) (a_cons (w_var 1) (a_cons (w_callB c_len rfl z_len boot_len (a_cons (w_var 2) (a_nil))) (a_nil)))))))
    (ss_one (s_if (t_w (t_and (t_cmp (o_ne c.toGood) (w_var 8) (w_var 9) (by with_unfolding_all rfl)) (t_and (t_cmp (o_notin3 c.toGood) (w_tup (a_cons (w_var 8) (a_cons (w_var 9) (a_nil)))) (w_var 3) (by with_unfolding_all rfl)) (t_and1 (t_cmp (o_notin3 c.toGood) (w_tup (a_cons (w_var 9) (a_cons (w_var 8) (a_nil)))) (w_var 3) (by with_unfolding_all rfl)))))) (ss_one (s_expr (w_bm F.plainAttrs_list F.slot_list_append F.type_list_append m_append (w_var 3) (a_cons (w_tup (a_cons (w_var 8) (a_cons (w_var 9) (a_nil)))) (a_nil))))) (ss_nil))))))
    (ss_one (s_ret (w_var 3)))))))))
abbrev s_law_shuffled : Stmt := top 26
theorem sc_law_shuffled : FnScope ["_law_script", "_law_pool", "_law_things", "_law_rest", "_law_found", "_law_k"] ["_law_script", "_law_pool", "_law_things"] (defScope s_law_shuffled) := ⟨rfl, rfl, rfl, by decide +kernel, rfl, by decide +kernel, by decide +kernel⟩
theorem d_law_shuffled {P : Program} {w : World} {mg : Str → Option Value} {base : Heap} {f : Addr}  (Θ : Wh) (h_law_take : Cal3 P w Θ.K mg base 1 "_law_take" (sp_law_take Θ) []) (z_list : mg "list" = none) (z_range : mg "range" = none) (z_len : mg "len" = none) (cdv : Value) (A : Around) (outer : List Env) (s : Shared) (H : Hp) (E : XK) (hr : Room 1 (A.deeper (envOfC "_law_shuffled" (defScope s_law_shuffled) s.heap.objs.size f cdv))) :
    PSs3 (cxOf (L2.CX P w) P w Θ.K mg base ["_law_script", "_law_pool", "_law_things", "_law_rest", "_law_found", "_law_k"] "_law_shuffled" (defScope s_law_shuffled) f cdv A outer s H E) (fun c d _ H => E c d H) (defBody s_law_shuffled) (r_law_shuffled Θ) := by
  have nd := sc_law_shuffled.nd
  have c := good_of (mg := mg) (base := base) (E := E) (w := w) (P := P) (K := Θ.K) (outer := outer) (H := H) nd hr
  exact ss_cons (s_set c.toGood 3 (w_callTy (c_list true c.toGood) rfl z_list boot_list (a_cons (w_var 2) (a_nil))))
    (ss_cons (s_set c.toGood 4 (w_lst true (a_nil)))
    (ss_cons (s_for c (i_range1 rfl z_range (a_cons (w_callB c_len rfl z_len boot_len (a_cons (w_var 2) (a_nil))) (a_nil))) (g_name c.toGood 5) (ss_one (s_expr (w_bm F.plainAttrs_list F.slot_list_append F.type_list_append m_append (w_var 4) (a_cons (w_bm F.plainAttrs_list F.slot_list_pop F.type_list_pop m_popAt (w_var 3) (a_cons (w_c c.toGood h_law_take hr (by decide) rfl (a_cons (w_var 0) (a_cons (w_var 1) (a_cons (w_callB c_len rfl z_len boot_len (a_cons (w_var 3) (a_nil))) (a_nil))))) (a_nil))) (a_nil))))))
    (ss_one (s_ret (w_var 4)))))
abbrev s_is_name : Stmt := top 11
theorem sc_is_name : FnScope ["word", "letter"] ["word"] (defScope s_is_name) := ⟨rfl, rfl, rfl, by decide +kernel, rfl, by decide +kernel, by decide +kernel⟩
theorem d_is_name {P : Program} {w : World} {mg : Str → Option Value} {base : Heap} {f : Addr} {t_LONGEST_NAME : Nat} {t_LETTERS : Nat} (Θ : Wh) (z_len : mg "len" = none) (g_LONGEST_NAME : mg "LONGEST_NAME" = some (.int 8 t_LONGEST_NAME)) (g_LETTERS : mg "LETTERS" = some (.str "abcdefghijklmnopqrstuvwxyz" t_LETTERS)) (z_all : mg "all" = none) (cdv : Value) (A : Around) (outer : List Env) (s : Shared) (H : Hp) (E : XK) (hr : Room 0 (A.deeper (envOfC "is_name" (defScope s_is_name) s.heap.objs.size f cdv))) :
    PSs3 (cxOf (L2.CX P w) P w Θ.K mg base ["word", "letter"] "is_name" (defScope s_is_name) f cdv A outer s H E) (fun c d _ H => E c d H) (defBody s_is_name) (r_is_name Θ) := by
  have nd := sc_is_name.nd
  have c := good_of (mg := mg) (base := base) (E := E) (w := w) (P := P) (K := Θ.K) (outer := outer) (H := H) nd hr
  exact ss_one (s_ret (w_and (w_chain o_le o_le (w_int) (w_callB c_len rfl z_len boot_len (a_cons (w_var 0) (a_nil))) (w_glob (v := V.int 8) rfl g_LONGEST_NAME ⟨_, rfl⟩ (fun _ => .int _))) (w_one (w_callB (c_all c.toGood) rfl z_all boot_all (a_cons (w_lc (own := [("letter", 1)]) false c.toGood (i_str (w_var 0)) (show BlkOk ["word", "letter"] (defScope s_is_name) _ [("letter", 1)] from ⟨rfl, by decide +kernel, by decide +kernel, by decide +kernel, by decide +kernel⟩) (fun s H C cl fp => c_name nd 1) (fun s H C cl fp => ts_nil) (fun s H C cl fp => w_cmp (o_in3 (c.toGood.blk _ _ _ _ _)) (w_var 1) (w_glob (v := V.str "abcdefghijklmnopqrstuvwxyz") rfl g_LETTERS ⟨_, rfl⟩ (fun _ => .str _)) (by with_unfolding_all rfl))) (a_nil))))))
abbrev s_check_houses : Stmt := top 14
theorem sc_check_houses : FnScope ["houses", "at", "house"] ["houses"] (defScope s_check_houses) := ⟨rfl, rfl, rfl, by decide +kernel, rfl, by decide +kernel, by decide +kernel⟩
theorem d_check_houses {P : Program} {w : World} {mg : Str → Option Value} {base : Heap} {f : Addr} {t_MOST_HOUSES : Nat} (Θ : Wh) (h_is_name : Cal3 P w Θ.K mg base 1 "is_name" (sp_is_name Θ) []) (z_len : mg "len" = none) (g_MOST_HOUSES : mg "MOST_HOUSES" = some (.int 14 t_MOST_HOUSES)) (z_enumerate : mg "enumerate" = none) (cdv : Value) (A : Around) (outer : List Env) (s : Shared) (H : Hp) (E : XK) (hr : Room 1 (A.deeper (envOfC "check_houses" (defScope s_check_houses) s.heap.objs.size f cdv))) :
    PSs3 (cxOf (L2.CX P w) P w Θ.K mg base ["houses", "at", "house"] "check_houses" (defScope s_check_houses) f cdv A outer s H E) (fun c d _ H => E c d H) (defBody s_check_houses) (r_check_houses Θ) := by
  have nd := sc_check_houses.nd
  have c := good_of (mg := mg) (base := base) (E := E) (w := w) (P := P) (K := Θ.K) (outer := outer) (H := H) nd hr
  exact ss_cons (s_if (t_not (t_chain o_le o_le (w_int) (w_callB c_len rfl z_len boot_len (a_cons (w_var 0) (a_nil))) (w_glob (v := V.int 14) rfl g_MOST_HOUSES ⟨_, rfl⟩ (fun _ => .int _)))) (ss_one (s_never)) (ss_nil))
    (ss_one (s_for c (i_enum rfl z_enumerate (a_cons (w_var 0) (a_nil))) (g_tup c.toGood (gs_cons (g_name c.toGood 1) (gs_cons (g_name c.toGood 2) (gs_nil)))) (ss_one (s_if (t_w (t_or (t_not (t_tru (w_c c.toGood h_is_name hr (by decide) rfl (a_cons (w_var 2) (a_nil))))) (t_or1 (t_cmp (o_in3 c.toGood) (w_var 2) (w_sl false (w_var 0) (o_none) (o_some (w_var 1))) (by with_unfolding_all rfl))))) (ss_one (s_never)) (ss_nil)))))
abbrev s_pair_of : Stmt := top 12
theorem sc_pair_of : FnScope ["a", "b"] ["a", "b"] (defScope s_pair_of) := ⟨rfl, rfl, rfl, by decide +kernel, rfl, by decide +kernel, by decide +kernel⟩
theorem d_pair_of {P : Program} {w : World} {mg : Str → Option Value} {base : Heap} {f : Addr}  (Θ : Wh)  (cdv : Value) (A : Around) (outer : List Env) (s : Shared) (H : Hp) (E : XK) (hr : Room 0 (A.deeper (envOfC "pair_of" (defScope s_pair_of) s.heap.objs.size f cdv))) :
    PSs3 (cxOf (L2.CX P w) P w Θ.K mg base ["a", "b"] "pair_of" (defScope s_pair_of) f cdv A outer s H E) (fun c d _ H => E c d H) (defBody s_pair_of) (r_pair_of Θ) := by
  have nd := sc_pair_of.nd
  have c := good_of (mg := mg) (base := base) (E := E) (w := w) (P := P) (K := Θ.K) (outer := outer) (H := H) nd hr
  exact ss_cons (s_if (t_cmp o_lt (w_var 1) (w_var 0) (by with_unfolding_all rfl)) (ss_one (s_ret (w_tup (a_cons (w_var 1) (a_cons (w_var 0) (a_nil)))))) (ss_nil))
    (ss_one (s_ret (w_tup (a_cons (w_var 0) (a_cons (w_var 1) (a_nil))))))
abbrev s_check_links : Stmt := top 15
theorem sc_check_links : FnScope ["houses", "links", "known", "at", "a", "b"] ["houses", "links"] (defScope s_check_links) := ⟨rfl, rfl, rfl, by decide +kernel, rfl, by decide +kernel, by decide +kernel⟩
theorem d_check_links {P : Program} {w : World} {mg : Str → Option Value} {base : Heap} {f : Addr}  (Θ : Wh) (h_pair_of : Cal3 P w Θ.K mg base 1 "pair_of" (sp_pair_of Θ) []) (z_enumerate : mg "enumerate" = none) (cdv : Value) (A : Around) (outer : List Env) (s : Shared) (H : Hp) (E : XK) (hr : Room 1 (A.deeper (envOfC "check_links" (defScope s_check_links) s.heap.objs.size f cdv))) :
    PSs3 (cxOf (L2.CX P w) P w Θ.K mg base ["houses", "links", "known", "at", "a", "b"] "check_links" (defScope s_check_links) f cdv A outer s H E) (fun c d _ H => E c d H) (defBody s_check_links) (r_check_links Θ) := by
  have nd := sc_check_links.nd
  have c := good_of (mg := mg) (base := base) (E := E) (w := w) (P := P) (K := Θ.K) (outer := outer) (H := H) nd hr
  exact ss_cons (s_set c.toGood 2 (w_dnewT))
    (ss_one (s_for c (i_enum rfl z_enumerate (a_cons (w_var 1) (a_nil))) (g_tup c.toGood (gs_cons (g_name c.toGood 3) (gs_cons (g_tup c.toGood (gs_cons (g_name c.toGood 4) (gs_cons (g_name c.toGood 5) (gs_nil)))) (gs_nil)))) (ss_cons (s_if (t_w (t_or (t_cmp (o_notin3 c.toGood) (w_var 4) (w_var 0) (by with_unfolding_all rfl)) (t_or (t_cmp (o_notin3 c.toGood) (w_var 5) (w_var 0) (by with_unfolding_all rfl)) (t_or (t_cmp (o_eq c.toGood) (w_var 4) (w_var 5) (by with_unfolding_all rfl)) (t_or1 (t_cmp (o_in3 c.toGood) (w_c c.toGood h_pair_of hr (by decide) rfl (a_cons (w_var 4) (a_cons (w_var 5) (a_nil)))) (w_var 2) (by with_unfolding_all rfl))))))) (ss_one (s_never)) (ss_nil))
    (ss_one (s_asg (w_bl) (g_sub c.toGood (w_var 2) (w_c c.toGood h_pair_of hr (by decide) rfl (a_cons (w_var 4) (a_cons (w_var 5) (a_nil))))))))))
abbrev s_reached : Stmt := top 13
theorem sc_reached : FnScope ["near", "start", "barred", "found", "queue", "at", "house", "other"] ["near", "start", "barred"] (defScope s_reached) := ⟨rfl, rfl, rfl, by decide +kernel, rfl, by decide +kernel, by decide +kernel⟩
theorem d_reached {P : Program} {w : World} {mg : Str → Option Value} {base : Heap} {f : Addr}  (Θ : Wh) (h_pair_of : Cal3 P w Θ.K mg base 1 "pair_of" (sp_pair_of Θ) []) (z_len : mg "len" = none) (cdv : Value) (A : Around) (outer : List Env) (s : Shared) (H : Hp) (E : XK) (hr : Room 1 (A.deeper (envOfC "reached" (defScope s_reached) s.heap.objs.size f cdv))) :
    PSs3 (cxOf (L2.CX P w) P w Θ.K mg base ["near", "start", "barred", "found", "queue", "at", "house", "other"] "reached" (defScope s_reached) f cdv A outer s H E) (fun c d _ H => E c d H) (defBody s_reached) (r_reached Θ) := by
  have nd := sc_reached.nd
  have c := good_of (mg := mg) (base := base) (E := E) (w := w) (P := P) (K := Θ.K) (outer := outer) (H := H) nd hr
  exact ss_cons (s_set c.toGood 3 (w_disp1 (w_var 1) (w_bl)))
    (ss_cons (s_set c.toGood 4 (w_lst true (a_cons (w_var 1) (a_nil))))
    (ss_cons (s_set c.toGood 5 (w_int))
    (ss_cons (s_while c (t_cmp o_lt (w_var 5) (w_callB c_len rfl z_len boot_len (a_cons (w_var 4) (a_nil))) (by with_unfolding_all rfl)) (ss_cons (s_set c.toGood 6 (w_ix c.toGood (w_var 4) (w_var 5)))
    (ss_cons (s_add c.toGood (w_int))
    (ss_one (s_for c (i_list (w_ix c.toGood (w_var 0) (w_var 6))) (g_name c.toGood 7) (ss_one (s_if (t_w (t_and (t_cmp (o_notin3 c.toGood) (w_var 7) (w_var 3) (by with_unfolding_all rfl)) (t_and1 (t_cmp (o_ne c.toGood) (w_c c.toGood h_pair_of hr (by decide) rfl (a_cons (w_var 6) (a_cons (w_var 7) (a_nil)))) (w_var 2) (by with_unfolding_all rfl))))) (ss_cons (s_asg (w_bl) (g_sub c.toGood (w_var 3) (w_var 7)))
    (ss_one (s_expr (w_bm F.plainAttrs_list F.slot_list_append F.type_list_append m_append (w_var 4) (a_cons (w_var 7) (a_nil)))))) (ss_nil))))))))
    (ss_one (s_ret (w_var 3))))))
abbrev s_Web__init__ : Stmt := inClass (top 16) 0
theorem sc_Web__init__ : FnScope ["self", "houses", "links", "a", "b", "house", "found"] ["self", "houses", "links"] (defScope s_Web__init__) := ⟨rfl, rfl, rfl, by decide +kernel, rfl, by decide +kernel, by decide +kernel⟩
theorem d_Web__init__ {P : Program} {w : World} {mg : Str → Option Value} {base : Heap} {f : Addr}  (Θ : Wh) (h_check_houses : Cal3 P w Θ.K mg base 2 "check_houses" (sp_check_houses Θ) []) (h_check_links : Cal3 P w Θ.K mg base 2 "check_links" (sp_check_links Θ) []) (h_reached : Cal3 P w Θ.K mg base 2 "reached" (sp_reached Θ) [.non]) (z_sorted : mg "sorted" = none) (z_min : mg "min" = none) (cdv : Value) (A : Around) (outer : List Env) (s : Shared) (H : Hp) (E : XK) (hr : Room 2 (A.deeper (envOfC "Web.__init__" (defScope s_Web__init__) s.heap.objs.size f cdv))) :
    PSs3 (cxOf (L2.CX P w) P w Θ.K mg base ["self", "houses", "links", "a", "b", "house", "found"] "Web.__init__" (defScope s_Web__init__) f cdv A outer s H E) (fun c d _ H => E c d H) (defBody s_Web__init__) (r_Web__init__ Θ) := by
  have nd := sc_Web__init__.nd
  have c := good_of (mg := mg) (base := base) (E := E) (w := w) (P := P) (K := Θ.K) (outer := outer) (H := H) nd hr
  exact ss_fin 0 "_near" (ss_cons (s_expr (w_c c.toGood h_check_houses hr (by decide) rfl (a_cons (w_var 1) (a_nil))))
    (ss_cons (s_expr (w_c c.toGood h_check_links hr (by decide) rfl (a_cons (w_var 1) (a_cons (w_var 2) (a_nil)))))
    (ss_cons (s_fld (w_var 0) (w_dc (own := [("house", 5)]) c.toGood (i_list (w_callB (c_sorted false c.toGood) rfl z_sorted boot_sorted (a_cons (w_var 1) (a_nil)))) (show BlkOk ["self", "houses", "links", "a", "b", "house", "found"] (defScope s_Web__init__) _ [("house", 5)] from ⟨rfl, by decide +kernel, by decide +kernel, by decide +kernel, by decide +kernel⟩) (fun s H C cl fp => c_name nd 5) (fun s H C cl fp => ts_nil) (fun s H C cl fp => w_var 5) (fun s H C cl fp => w_lst true (a_nil))))
    (ss_cons (s_for c (i_list (w_var 2)) (g_tup c.toGood (gs_cons (g_name c.toGood 3) (gs_cons (g_name c.toGood 4) (gs_nil)))) (ss_cons (s_expr (w_bm F.plainAttrs_list F.slot_list_append F.type_list_append m_append (w_ix c.toGood (w_fld (w_var 0)) (w_var 3)) (a_cons (w_var 4) (a_nil))))
    (ss_one (s_expr (w_bm F.plainAttrs_list F.slot_list_append F.type_list_append m_append (w_ix c.toGood (w_fld (w_var 0)) (w_var 4)) (a_cons (w_var 3) (a_nil)))))))
    (ss_cons (s_for c (i_list (w_callB (c_sorted false c.toGood) rfl z_sorted boot_sorted (a_cons (w_var 1) (a_nil)))) (g_name c.toGood 5) (ss_one (s_asg (w_callB (c_sorted false c.toGood) rfl z_sorted boot_sorted (a_cons (w_ix c.toGood (w_fld (w_var 0)) (w_var 5)) (a_nil))) (g_sub c.toGood (w_fld (w_var 0)) (w_var 5)))))
    (ss_cons (s_set c.toGood 6 (w_c c.toGood h_reached hr (by decide) rfl (a_cons (w_fld (w_var 0)) (a_cons (w_callB (c_min c.toGood) rfl z_min boot_min (a_cons (w_var 1) (a_nil))) (a_nil)))))
    (ss_one (s_for c (i_list (w_callB (c_sorted false c.toGood) rfl z_sorted boot_sorted (a_cons (w_var 1) (a_nil)))) (g_name c.toGood 5) (ss_one (s_if (t_cmp (o_notin3 c.toGood) (w_var 5) (w_var 6) (by with_unfolding_all rfl)) (ss_one (s_never)) (ss_nil)))))))))))
abbrev s_Web_houses : Stmt := inClass (top 16) 1
theorem sc_Web_houses : FnScope ["self"] ["self"] (defScope s_Web_houses) := ⟨rfl, rfl, rfl, by decide +kernel, rfl, by decide +kernel, by decide +kernel⟩
theorem d_Web_houses {P : Program} {w : World} {mg : Str → Option Value} {base : Heap} {f : Addr}  (Θ : Wh) (z_list : mg "list" = none) (cdv : Value) (A : Around) (outer : List Env) (s : Shared) (H : Hp) (E : XK) (hr : Room 0 (A.deeper (envOfC "Web.houses" (defScope s_Web_houses) s.heap.objs.size f cdv))) :
    PSs3 (cxOf (L2.CX P w) P w Θ.K mg base ["self"] "Web.houses" (defScope s_Web_houses) f cdv A outer s H E) (fun c d _ H => E c d H) (defBody s_Web_houses) (r_Web_houses Θ) := by
  have nd := sc_Web_houses.nd
  have c := good_of (mg := mg) (base := base) (E := E) (w := w) (P := P) (K := Θ.K) (outer := outer) (H := H) nd hr
  exact ss_one (s_ret (w_callTy (c_list true c.toGood) rfl z_list boot_list (a_cons (w_fld (w_var 0)) (a_nil))))
abbrev s_Web_links : Stmt := inClass (top 16) 2
theorem sc_Web_links : FnScope ["self", "a", "b"] ["self"] (defScope s_Web_links) := ⟨rfl, rfl, rfl, by decide +kernel, rfl, by decide +kernel, by decide +kernel⟩
theorem d_Web_links {P : Program} {w : World} {mg : Str → Option Value} {base : Heap} {f : Addr}  (Θ : Wh)  (cdv : Value) (A : Around) (outer : List Env) (s : Shared) (H : Hp) (E : XK) (hr : Room 0 (A.deeper (envOfC "Web.links" (defScope s_Web_links) s.heap.objs.size f cdv))) :
    PSs3 (cxOf (L2.CX P w) P w Θ.K mg base ["self", "a", "b"] "Web.links" (defScope s_Web_links) f cdv A outer s H E) (fun c d _ H => E c d H) (defBody s_Web_links) (r_Web_links Θ) := by
  have nd := sc_Web_links.nd
  have c := good_of (mg := mg) (base := base) (E := E) (w := w) (P := P) (K := Θ.K) (outer := outer) (H := H) nd hr
  exact ss_one (s_ret (w_lc2D (own := [("a", 1), ("b", 2)]) true [2] c.toGood (l_keys (p_fld 0)) (show BlkOk ["self", "a", "b"] (defScope s_Web_links) _ [("a", 1), ("b", 2)] from ⟨rfl, by decide +kernel, by decide +kernel, by decide +kernel, by decide +kernel⟩) (fun s H C cl fp => c_name nd 1) (fun s H C cl fp => ts_nil) (fun s H C cl fp => i_list (w_ix (c.toGood.blk _ _ _ _ _) (w_fld (w_var 0)) (w_var 1))) (fun s H C cl fp => c_name nd 2) (fun s H C cl fp => ts_one (t_cmp o_lt (w_var 1) (w_var 2) (by with_unfolding_all rfl))) (fun s H C cl fp => w_tup (a_cons (w_var 1) (a_cons (w_var 2) (a_nil))))))
abbrev s_law_same_texts : Stmt := top 24
theorem sc_law_same_texts : FnScope ["_law_actual", "_law_expected", "_law_k"] ["_law_actual", "_law_expected"] (defScope s_law_same_texts) := ⟨rfl, rfl, rfl, by decide +kernel, rfl, by decide +kernel, by decide +kernel⟩
theorem d_law_same_texts {P : Program} {w : World} {mg : Str → Option Value} {base : Heap} {f : Addr}  (Θ : Wh) (z_list : mg "list" = none) (z_isinstance : mg "isinstance" = none) (z_len : mg "len" = none) (z_range : mg "range" = none) (z_str : mg "str" = none) (cdv : Value) (A : Around) (outer : List Env) (s : Shared) (H : Hp) (E : XK) (hr : Room 0 (A.deeper (envOfC "_law_same_texts" (defScope s_law_same_texts) s.heap.objs.size f cdv))) :
    PSs3 (cxOf (L2.CX P w) P w Θ.K mg base ["_law_actual", "_law_expected", "_law_k"] "_law_same_texts" (defScope s_law_same_texts) f cdv A outer s H E) (fun c d _ H => E c d H) (defBody s_law_same_texts) (r_law_same_texts Θ) := by
  have nd := sc_law_same_texts.nd
  have c := good_of (mg := mg) (base := base) (E := E) (w := w) (P := P) (K := Θ.K) (outer := outer) (H := H) nd hr
  exact ss_cons (s_if (t_w (t_or (t_not (t_tru (w_callB c_isi rfl z_isinstance boot_isinstance (a_cons (w_var 0) (a_cons (w_ty rfl z_list boot_list) (a_nil)))))) (t_or1 (t_cmp (o_ne c.toGood) (w_callB c_len rfl z_len boot_len (a_cons (w_var 0) (a_nil))) (w_callB c_len rfl z_len boot_len (a_cons (w_var 1) (a_nil))) (by with_unfolding_all rfl))))) (ss_one (s_ret (w_bl))) (ss_nil))
    (ss_cons (s_for c (i_range1 rfl z_range (a_cons (w_callB c_len rfl z_len boot_len (a_cons (w_var 1) (a_nil))) (a_nil))) (g_name c.toGood 2) (ss_one (s_if (t_w (t_or (t_not (t_tru (w_callB c_isi rfl z_isinstance boot_isinstance (a_cons (w_ix c.toGood (w_var 0) (w_var 2)) (a_cons (w_ty rfl z_str boot_str) (a_nil)))))) (t_or1 (t_cmp (o_ne c.toGood) (w_ix c.toGood (w_var 0) (w_var 2)) (w_ix c.toGood (w_var 1) (w_var 2)) (by with_unfolding_all rfl))))) (ss_one (s_ret (w_bl))) (ss_nil))))
    (ss_one (s_ret (w_bl))))
abbrev s_law_pair : Stmt := top 22
theorem sc_law_pair : FnScope ["_law_a", "_law_b"] ["_law_a", "_law_b"] (defScope s_law_pair) := ⟨rfl, rfl, rfl, by decide +kernel, rfl, by decide +kernel, by decide +kernel⟩
theorem d_law_pair {P : Program} {w : World} {mg : Str → Option Value} {base : Heap} {f : Addr}  (Θ : Wh)  (cdv : Value) (A : Around) (outer : List Env) (s : Shared) (H : Hp) (E : XK) (hr : Room 0 (A.deeper (envOfC "_law_pair" (defScope s_law_pair) s.heap.objs.size f cdv))) :
    PSs3 (cxOf (L2.CX P w) P w Θ.K mg base ["_law_a", "_law_b"] "_law_pair" (defScope s_law_pair) f cdv A outer s H E) (fun c d _ H => E c d H) (defBody s_law_pair) (r_law_pair Θ) := by
  have nd := sc_law_pair.nd
  have c := good_of (mg := mg) (base := base) (E := E) (w := w) (P := P) (K := Θ.K) (outer := outer) (H := H) nd hr
  exact ss_cons (s_if (t_cmp o_lt (w_var 0) (w_var 1) (by with_unfolding_all rfl)) (ss_one (s_ret (w_tup (a_cons (w_var 0) (a_cons (w_var 1) (a_nil)))))) (ss_nil))
    (ss_one (s_ret (w_tup (a_cons (w_var 1) (a_cons (w_var 0) (a_nil))))))
abbrev s_law_pairs : Stmt := top 23
theorem sc_law_pairs : FnScope ["_law_links_here", "_law_link"] ["_law_links_here"] (defScope s_law_pairs) := ⟨rfl, rfl, rfl, by decide +kernel, rfl, by decide +kernel, by decide +kernel⟩
theorem d_law_pairs {P : Program} {w : World} {mg : Str → Option Value} {base : Heap} {f : Addr}  (Θ : Wh) (h_law_pair : Cal3 P w Θ.K mg base 1 "_law_pair" (sp_law_pair Θ) []) (z_sorted : mg "sorted" = none) (cdv : Value) (A : Around) (outer : List Env) (s : Shared) (H : Hp) (E : XK) (hr : Room 1 (A.deeper (envOfC "_law_pairs" (defScope s_law_pairs) s.heap.objs.size f cdv))) :
    PSs3 (cxOf (L2.CX P w) P w Θ.K mg base ["_law_links_here", "_law_link"] "_law_pairs" (defScope s_law_pairs) f cdv A outer s H E) (fun c d _ H => E c d H) (defBody s_law_pairs) (r_law_pairs Θ) := by
  have nd := sc_law_pairs.nd
  have c := good_of (mg := mg) (base := base) (E := E) (w := w) (P := P) (K := Θ.K) (outer := outer) (H := H) nd hr
  exact ss_one (s_ret (w_callB (c_sorted false c.toGood) rfl z_sorted boot_sorted (a_cons (w_lc (own := [("_law_link", 1)]) false c.toGood (i_list (w_var 0)) (show BlkOk ["_law_links_here", "_law_link"] (defScope s_law_pairs) _ [("_law_link", 1)] from ⟨rfl, by decide +kernel, by decide +kernel, by decide +kernel, by decide +kernel⟩) (fun s H C cl fp => c_name nd 1) (fun s H C cl fp => ts_nil) (fun s H C cl fp => w_c (c.toGood.blk _ _ _ _ _) h_law_pair hr (by decide) rfl (a_cons (w_ix (c.toGood.blk _ _ _ _ _) (w_var 1) (w_int)) (a_cons (w_ix (c.toGood.blk _ _ _ _ _) (w_var 1) (w_int)) (a_nil))))) (a_nil))))
abbrev s_law_same_pairs : Stmt := top 25
theorem sc_law_same_pairs : FnScope ["_law_actual", "_law_expected", "_law_k"] ["_law_actual", "_law_expected"] (defScope s_law_same_pairs) := ⟨rfl, rfl, rfl, by decide +kernel, rfl, by decide +kernel, by decide +kernel⟩
theorem d_law_same_pairs {P : Program} {w : World} {mg : Str → Option Value} {base : Heap} {f : Addr}  (Θ : Wh) (h_law_same_texts : Cal3 P w Θ.K mg base 1 "_law_same_texts" (sp_law_same_texts Θ) []) (z_list : mg "list" = none) (z_isinstance : mg "isinstance" = none) (z_len : mg "len" = none) (z_range : mg "range" = none) (z_tuple : mg "tuple" = none) (cdv : Value) (A : Around) (outer : List Env) (s : Shared) (H : Hp) (E : XK) (hr : Room 1 (A.deeper (envOfC "_law_same_pairs" (defScope s_law_same_pairs) s.heap.objs.size f cdv))) :
    PSs3 (cxOf (L2.CX P w) P w Θ.K mg base ["_law_actual", "_law_expected", "_law_k"] "_law_same_pairs" (defScope s_law_same_pairs) f cdv A outer s H E) (fun c d _ H => E c d H) (defBody s_law_same_pairs) (r_law_same_pairs Θ) := by
  have nd := sc_law_same_pairs.nd
  have c := good_of (mg := mg) (base := base) (E := E) (w := w) (P := P) (K := Θ.K) (outer := outer) (H := H) nd hr
  exact ss_cons (s_if (t_w (t_or (t_not (t_tru (w_callB c_isi rfl z_isinstance boot_isinstance (a_cons (w_var 0) (a_cons (w_ty rfl z_list boot_list) (a_nil)))))) (t_or1 (t_cmp (o_ne c.toGood) (w_callB c_len rfl z_len boot_len (a_cons (w_var 0) (a_nil))) (w_callB c_len rfl z_len boot_len (a_cons (w_var 1) (a_nil))) (by with_unfolding_all rfl))))) (ss_one (s_ret (w_bl))) (ss_nil))
    (ss_cons (s_for c (i_range1 rfl z_range (a_cons (w_callB c_len rfl z_len boot_len (a_cons (w_var 1) (a_nil))) (a_nil))) (g_name c.toGood 2) (ss_one (s_if (t_w (t_or (t_not (t_tru (w_callB c_isi rfl z_isinstance boot_isinstance (a_cons (w_ix c.toGood (w_var 0) (w_var 2)) (a_cons (w_ty rfl z_tuple boot_tuple) (a_nil)))))) (t_or1 (t_not (t_tru (w_c c.toGood h_law_same_texts hr (by decide) rfl (a_cons (w_callTy (c_list false c.toGood) rfl z_list boot_list (a_cons (w_ix c.toGood (w_var 0) (w_var 2)) (a_nil))) (a_cons (w_callTy (c_list false c.toGood) rfl z_list boot_list (a_cons (w_ix c.toGood (w_var 1) (w_var 2)) (a_nil))) (a_nil))))))))) (ss_one (s_ret (w_bl))) (ss_nil))))
    (ss_one (s_ret (w_bl))))
abbrev s_Web__len__ : Stmt := inClass (top 16) 15
theorem sc_Web__len__ : FnScope ["self"] ["self"] (defScope s_Web__len__) := ⟨rfl, rfl, rfl, by decide +kernel, rfl, by decide +kernel, by decide +kernel⟩
theorem d_Web__len__ {P : Program} {w : World} {mg : Str → Option Value} {base : Heap} {f : Addr}  (Θ : Wh) (z_len : mg "len" = none) (cdv : Value) (A : Around) (outer : List Env) (s : Shared) (H : Hp) (E : XK) (hr : Room 0 (A.deeper (envOfC "Web.__len__" (defScope s_Web__len__) s.heap.objs.size f cdv))) :
    PSs3 (cxOf (L2.CX P w) P w Θ.K mg base ["self"] "Web.__len__" (defScope s_Web__len__) f cdv A outer s H E) (fun c d _ H => E c d H) (defBody s_Web__len__) (r_Web__len__ Θ) := by
  have nd := sc_Web__len__.nd
  have c := good_of (mg := mg) (base := base) (E := E) (w := w) (P := P) (K := Θ.K) (outer := outer) (H := H) nd hr
  exact ss_one (s_ret (w_callB c_len rfl z_len boot_len (a_cons (w_fld (w_var 0)) (a_nil))))
abbrev s_law : Stmt := top 27
theorem sc_law : FnScope ["_law_script", "_law_pool", "_law_names_here", "_law_links_here", "_law_first", "_law_second", "_law_kept", "_law_web", "_law_turn", "_law_houses", "_law_pairs_here"] ["_law_script"] (defScope s_law) := ⟨rfl, rfl, rfl, by decide +kernel, rfl, by decide +kernel, by decide +kernel⟩
theorem d_law {P : Program} {w : World} {mg : Str → Option Value} {base : Heap} {f : Addr}  (Θ : Wh) (h_law_take : Cal3 P w Θ.K mg base 1 "_law_take" (sp_law_take Θ) []) (h_law_names : Cal3 P w Θ.K mg base 2 "_law_names" (sp_law_names Θ) []) (h_law_links : Cal3 P w Θ.K mg base 2 "_law_links" (sp_law_links Θ) []) (h_law_shuffled : Cal3 P w Θ.K mg base 2 "_law_shuffled" (sp_law_shuffled Θ) []) (h_Web__init__ : Mak3 P w Θ.K mg base 3 "Web" Θ.Web (sp_Web__init__ Θ) []) (h_Web_houses : Met3 P w Θ.K mg base 1 Θ.Web "houses" (sp_Web_houses Θ) []) (h_Web_links : Met3 P w Θ.K mg base 1 Θ.Web "links" (sp_Web_links Θ) []) (h_law_same_texts : Cal3 P w Θ.K mg base 1 "_law_same_texts" (sp_law_same_texts Θ) []) (h_law_pairs : Cal3 P w Θ.K mg base 2 "_law_pairs" (sp_law_pairs Θ) []) (h_law_same_pairs : Cal3 P w Θ.K mg base 2 "_law_same_pairs" (sp_law_same_pairs Θ) []) (h_Web__len__ : Spc3 P w Θ.K mg base 1 Θ.Web "__len__" (sp_Web__len__ Θ)) (z_list : mg "list" = none) (z_range : mg "range" = none) (z_sorted : mg "sorted" = none) (z_len : mg "len" = none) (cdv : Value) (A : Around) (outer : List Env) (s : Shared) (H : Hp) (E : XK) (hr : Room 4 (A.deeper (envOfC "law" (defScope s_law) s.heap.objs.size f cdv))) :
    PSs3 (cxOf (L2.CX P w) P w Θ.K mg base ["_law_script", "_law_pool", "_law_names_here", "_law_links_here", "_law_first", "_law_second", "_law_kept", "_law_web", "_law_turn", "_law_houses", "_law_pairs_here"] "law" (defScope s_law) f cdv A outer s H E) (fun c d _ H => E c d H) (defBody s_law) (r_law Θ) := by
  have nd := sc_law.nd
  have c := good_of (mg := mg) (base := base) (E := E) (w := w) (P := P) (K := Θ.K) (outer := outer) (H := H) nd hr
  exact ss_cons (s_set c.toGood 1 (w_lst true (a_cons (w_int) (a_cons (w_int) (a_cons (w_int) (a_cons (w_int) (a_nil)))))))
    (ss_cons (s_set c.toGood 2 (w_frz (w_c c.toGood h_law_names hr (by decide) rfl (a_cons (w_var 0) (a_cons (w_var 1) (a_cons (w_op o_add (w_int) (w_c c.toGood h_law_take hr (by decide) rfl (a_cons (w_var 0) (a_cons (w_var 1) (a_cons (w_int) (a_nil)))))) (a_nil)))))))
    (ss_cons (s_set c.toGood 3 (w_frz (w_c c.toGood h_law_shuffled hr (by decide) rfl (a_cons (w_var 0) (a_cons (w_var 1) (a_cons (w_c c.toGood h_law_links hr (by decide) rfl (a_cons (w_var 0) (a_cons (w_var 1) (a_cons (w_var 2) (a_nil))))) (a_nil)))))))
    (ss_cons (s_set c.toGood 4 (w_c c.toGood h_law_shuffled hr (by decide) rfl (a_cons (w_var 0) (a_cons (w_var 1) (a_cons (w_var 2) (a_nil))))))
    (ss_cons (s_set c.toGood 5 (w_callTy (c_list true c.toGood) rfl z_list boot_list (a_cons (w_var 3) (a_nil))))
    (ss_cons (s_set c.toGood 6 (w_callTy (c_list false c.toGood) rfl z_list boot_list (a_cons (w_var 4) (a_nil))))
    (ss_cons (s_set c.toGood 7 (w_frz (w_mk c.toGood h_Web__init__ hr (by decide) rfl (a_cons (w_var 4) (a_cons (w_var 5) (a_nil))))))
    (ss_cons (s_if (t_w (t_or (t_cmp (o_ne c.toGood) (w_var 4) (w_var 6) (by with_unfolding_all rfl)) (t_or1 (t_cmp (o_ne c.toGood) (w_var 5) (w_var 3) (by with_unfolding_all rfl))))) (ss_one (s_ret (w_bl))) (ss_nil))
    (ss_cons (s_expr (w_bm0 F.plainAttrs_list F.slot_list_pop F.type_list_pop m_pop (w_var 4)))
    (ss_cons (s_expr (w_bm F.plainAttrs_list F.slot_list_append F.type_list_append m_append (w_var 4) (a_cons (w_str) (a_nil))))
    (ss_cons (s_expr (w_bm0 F.plainAttrs_list F.slot_list_clear F.type_list_clear m_clear (w_var 5)))
    (ss_cons (s_for c (i_range1 rfl z_range (a_cons (w_int) (a_nil))) (g_name c.toGood 8) (ss_cons (s_set c.toGood 9 (w_m0 c.toGood h_Web_houses hr (by decide) (w_var 7)))
    (ss_cons (s_set c.toGood 10 (w_m0 c.toGood h_Web_links hr (by decide) (w_var 7)))
    (ss_cons (s_if (t_w (t_or (t_not (t_tru (w_c c.toGood h_law_same_texts hr (by decide) rfl (a_cons (w_var 9) (a_cons (w_callB (c_sorted false c.toGood) rfl z_sorted boot_sorted (a_cons (w_var 2) (a_nil))) (a_nil)))))) (t_or1 (t_not (t_tru (w_c c.toGood h_law_same_pairs hr (by decide) rfl (a_cons (w_var 10) (a_cons (w_c c.toGood h_law_pairs hr (by decide) rfl (a_cons (w_var 3) (a_nil))) (a_nil))))))))) (ss_one (s_ret (w_bl))) (ss_nil))
    (ss_cons (s_if (t_cmp (o_ne c.toGood) (w_callB (c_lenO h_Web__len__ hr (by decide)) rfl z_len boot_len (a_cons (w_var 7) (a_nil))) (w_callB c_len rfl z_len boot_len (a_cons (w_var 2) (a_nil))) (by with_unfolding_all rfl)) (ss_one (s_ret (w_bl))) (ss_nil))
    (ss_cons (s_expr (w_bm F.plainAttrs_list F.slot_list_pop F.type_list_pop m_popAt (w_var 9) (a_cons (w_op o_mod (w_var 8) (w_callB c_len rfl z_len boot_len (a_cons (w_var 9) (a_nil)))) (a_nil))))
    (ss_cons (s_expr (w_bm0 F.plainAttrs_list F.slot_list_reverse F.type_list_reverse m_rev (w_var 10)))
    (ss_one (s_expr (w_bm F.plainAttrs_list F.slot_list_append F.type_list_append m_append (w_var 10) (a_cons (w_tup (a_cons (w_str) (a_cons (w_str) (a_nil)))) (a_nil))))))))))))
    (ss_one (s_ret (w_bl))))))))))))))
theorem all_mk {P : Program} {w : World} {K : PySem.W.Frag} {h : Heap} {mg : Str → Option Value} {fa : Addr} {CWeb : Addr} {f0 : Addr} {od0 an0 : Option Addr} {sl0 : Array (Option Value)} {oc0 kV0 dc0 pm0 cd0 ct0 : Value} {f1 : Addr} {od1 an1 : Option Addr} {sl1 : Array (Option Value)} {oc1 kV1 dc1 pm1 cd1 ct1 : Value} {f2 : Addr} {od2 an2 : Option Addr} {sl2 : Array (Option Value)} {oc2 kV2 dc2 pm2 cd2 ct2 : Value} {f3 : Addr} {od3 an3 : Option Addr} {sl3 : Array (Option Value)} {oc3 kV3 dc3 pm3 cd3 ct3 : Value} {f4 : Addr} {od4 an4 : Option Addr} {sl4 : Array (Option Value)} {oc4 kV4 dc4 pm4 cd4 ct4 : Value} {f5 : Addr} {od5 an5 : Option Addr} {sl5 : Array (Option Value)} {oc5 kV5 dc5 pm5 cd5 ct5 : Value} {f6 : Addr} {od6 an6 : Option Addr} {sl6 : Array (Option Value)} {oc6 kV6 dc6 pm6 cd6 ct6 : Value} {f7 : Addr} {od7 an7 : Option Addr} {sl7 : Array (Option Value)} {oc7 kV7 dc7 pm7 cd7 ct7 : Value} {f8 : Addr} {od8 an8 : Option Addr} {sl8 : Array (Option Value)} {oc8 kV8 dc8 pm8 cd8 ct8 : Value} {T8 : Addr} {ocT8 : Value} {odT8 : Option Addr} {nT8 : Nat} {slT8 : Array (Option Value)} {f9 : Addr} {od9 an9 : Option Addr} {sl9 : Array (Option Value)} {oc9 kV9 dc9 pm9 cd9 ct9 : Value} {f10 : Addr} {od10 an10 : Option Addr} {sl10 : Array (Option Value)} {oc10 kV10 dc10 pm10 cd10 ct10 : Value} {f11 : Addr} {od11 an11 : Option Addr} {sl11 : Array (Option Value)} {oc11 kV11 dc11 pm11 cd11 ct11 : Value} {f12 : Addr} {od12 an12 : Option Addr} {sl12 : Array (Option Value)} {oc12 kV12 dc12 pm12 cd12 ct12 : Value} {f13 : Addr} {od13 an13 : Option Addr} {sl13 : Array (Option Value)} {oc13 kV13 dc13 pm13 cd13 ct13 : Value} {f14 : Addr} {od14 an14 : Option Addr} {sl14 : Array (Option Value)} {oc14 kV14 dc14 pm14 cd14 ct14 : Value} {f15 : Addr} {od15 an15 : Option Addr} {sl15 : Array (Option Value)} {oc15 kV15 dc15 pm15 cd15 ct15 : Value} {f16 : Addr} {od16 an16 : Option Addr} {sl16 : Array (Option Value)} {oc16 kV16 dc16 pm16 cd16 ct16 : Value} {f17 : Addr} {od17 an17 : Option Addr} {sl17 : Array (Option Value)} {oc17 kV17 dc17 pm17 cd17 ct17 : Value} {t_LONGEST_NAME : Nat} {t_LETTERS : Nat} {t_MOST_HOUSES : Nat} (X : K.In h) (G : h.Ns mainGlobals mg) (hfa : mg "law" = some (.ref fa))
    (aCWeb : PySem.W.nsIn K mainGlobals "Web" = some (some (.ref CWeb)))
    (pgWeb : PySem.W.plainGet K CWeb Str.empty = true)
    (hdWeb : PySem.W.hasDictIn K CWeb = true)
    (poWeb : PySem.W.plainOver K CWeb = true)
    (saWeb : PySem.W.findIn K (.ref CWeb) "__setattr__" = some (some (.builtin "object.__setattr__")))
    (mkWeb : PySem.W.makesIn K CWeb = true)
    (kcWeb : PySem.W.keepIn K (.ref CWeb) = true)
    (naWeb_near : PySem.W.findIn K (.ref CWeb) "_near" = some none)
    (a0 : PySem.W.nsIn K mainGlobals "_law_take" = some (some (.ref f0)))
    (l0 : K.lookup f0 = some ⟨oc0, od0, .func (PySem.W.fnOf "_law_take" "_law_take" (defArgs s_law_take) (defBody s_law_take) (defScope s_law_take) .none kV0 dc0 pm0 an0 cd0 ct0), sl0⟩)
    (c0 : PySem.W.codeIn K cd0 "_law_take" = true)
    (k0 : PySem.W.keepIn K (.ref f0) = true)
    (a1 : PySem.W.nsIn K mainGlobals "_law_names" = some (some (.ref f1)))
    (l1 : K.lookup f1 = some ⟨oc1, od1, .func (PySem.W.fnOf "_law_names" "_law_names" (defArgs s_law_names) (defBody s_law_names) (defScope s_law_names) .none kV1 dc1 pm1 an1 cd1 ct1), sl1⟩)
    (c1 : PySem.W.codeIn K cd1 "_law_names" = true)
    (k1 : PySem.W.keepIn K (.ref f1) = true)
    (a2 : PySem.W.nsIn K mainGlobals "_law_links" = some (some (.ref f2)))
    (l2 : K.lookup f2 = some ⟨oc2, od2, .func (PySem.W.fnOf "_law_links" "_law_links" (defArgs s_law_links) (defBody s_law_links) (defScope s_law_links) .none kV2 dc2 pm2 an2 cd2 ct2), sl2⟩)
    (c2 : PySem.W.codeIn K cd2 "_law_links" = true)
    (k2 : PySem.W.keepIn K (.ref f2) = true)
    (a3 : PySem.W.nsIn K mainGlobals "_law_shuffled" = some (some (.ref f3)))
    (l3 : K.lookup f3 = some ⟨oc3, od3, .func (PySem.W.fnOf "_law_shuffled" "_law_shuffled" (defArgs s_law_shuffled) (defBody s_law_shuffled) (defScope s_law_shuffled) .none kV3 dc3 pm3 an3 cd3 ct3), sl3⟩)
    (c3 : PySem.W.codeIn K cd3 "_law_shuffled" = true)
    (k3 : PySem.W.keepIn K (.ref f3) = true)
    (a4 : PySem.W.nsIn K mainGlobals "is_name" = some (some (.ref f4)))
    (l4 : K.lookup f4 = some ⟨oc4, od4, .func (PySem.W.fnOf "is_name" "is_name" (defArgs s_is_name) (defBody s_is_name) (defScope s_is_name) .none kV4 dc4 pm4 an4 cd4 ct4), sl4⟩)
    (c4 : PySem.W.codeIn K cd4 "is_name" = true)
    (k4 : PySem.W.keepIn K (.ref f4) = true)
    (a5 : PySem.W.nsIn K mainGlobals "check_houses" = some (some (.ref f5)))
    (l5 : K.lookup f5 = some ⟨oc5, od5, .func (PySem.W.fnOf "check_houses" "check_houses" (defArgs s_check_houses) (defBody s_check_houses) (defScope s_check_houses) .none kV5 dc5 pm5 an5 cd5 ct5), sl5⟩)
    (c5 : PySem.W.codeIn K cd5 "check_houses" = true)
    (k5 : PySem.W.keepIn K (.ref f5) = true)
    (a6 : PySem.W.nsIn K mainGlobals "pair_of" = some (some (.ref f6)))
    (l6 : K.lookup f6 = some ⟨oc6, od6, .func (PySem.W.fnOf "pair_of" "pair_of" (defArgs s_pair_of) (defBody s_pair_of) (defScope s_pair_of) .none kV6 dc6 pm6 an6 cd6 ct6), sl6⟩)
    (c6 : PySem.W.codeIn K cd6 "pair_of" = true)
    (k6 : PySem.W.keepIn K (.ref f6) = true)
    (a7 : PySem.W.nsIn K mainGlobals "check_links" = some (some (.ref f7)))
    (l7 : K.lookup f7 = some ⟨oc7, od7, .func (PySem.W.fnOf "check_links" "check_links" (defArgs s_check_links) (defBody s_check_links) (defScope s_check_links) .none kV7 dc7 pm7 an7 cd7 ct7), sl7⟩)
    (c7 : PySem.W.codeIn K cd7 "check_links" = true)
    (k7 : PySem.W.keepIn K (.ref f7) = true)
    (a8 : PySem.W.nsIn K mainGlobals "reached" = some (some (.ref f8)))
    (l8 : K.lookup f8 = some ⟨oc8, od8, .func (PySem.W.fnOf "reached" "reached" (defArgs s_reached) (defBody s_reached) (defScope s_reached) (.ref T8) kV8 dc8 pm8 an8 cd8 ct8), sl8⟩)
    (c8 : PySem.W.codeIn K cd8 "reached" = true)
    (k8 : PySem.W.keepIn K (.ref f8) = true)
    (t8 : K.lookup T8 = some ⟨ocT8, odT8, .seq #[Value.none] nT8, slT8⟩)
    (a9 : PySem.W.findIn K (.ref CWeb) "__init__" = some (some (.ref f9)))
    (i9 : PySem.W.isFn K (.ref f9) = true)
    (l9 : K.lookup f9 = some ⟨oc9, od9, .func (PySem.W.fnOf "__init__" "Web.__init__" (defArgs s_Web__init__) (defBody s_Web__init__) (defScope s_Web__init__) .none kV9 dc9 pm9 an9 cd9 ct9), sl9⟩)
    (c9 : PySem.W.codeIn K cd9 "Web.__init__" = true)
    (k9 : PySem.W.keepIn K (.ref f9) = true)
    (a10 : PySem.W.findIn K (.ref CWeb) "houses" = some (some (.ref f10)))
    (i10 : PySem.W.isFn K (.ref f10) = true)
    (l10 : K.lookup f10 = some ⟨oc10, od10, .func (PySem.W.fnOf "houses" "Web.houses" (defArgs s_Web_houses) (defBody s_Web_houses) (defScope s_Web_houses) .none kV10 dc10 pm10 an10 cd10 ct10), sl10⟩)
    (c10 : PySem.W.codeIn K cd10 "Web.houses" = true)
    (k10 : PySem.W.keepIn K (.ref f10) = true)
    (a11 : PySem.W.findIn K (.ref CWeb) "links" = some (some (.ref f11)))
    (i11 : PySem.W.isFn K (.ref f11) = true)
    (l11 : K.lookup f11 = some ⟨oc11, od11, .func (PySem.W.fnOf "links" "Web.links" (defArgs s_Web_links) (defBody s_Web_links) (defScope s_Web_links) .none kV11 dc11 pm11 an11 cd11 ct11), sl11⟩)
    (c11 : PySem.W.codeIn K cd11 "Web.links" = true)
    (k11 : PySem.W.keepIn K (.ref f11) = true)
    (a12 : PySem.W.nsIn K mainGlobals "_law_same_texts" = some (some (.ref f12)))
    (l12 : K.lookup f12 = some ⟨oc12, od12, .func (PySem.W.fnOf "_law_same_texts" "_law_same_texts" (defArgs s_law_same_texts) (defBody s_law_same_texts) (defScope s_law_same_texts) .none kV12 dc12 pm12 an12 cd12 ct12), sl12⟩)
    (c12 : PySem.W.codeIn K cd12 "_law_same_texts" = true)
    (k12 : PySem.W.keepIn K (.ref f12) = true)
    (a13 : PySem.W.nsIn K mainGlobals "_law_pair" = some (some (.ref f13)))
    (l13 : K.lookup f13 = some ⟨oc13, od13, .func (PySem.W.fnOf "_law_pair" "_law_pair" (defArgs s_law_pair) (defBody s_law_pair) (defScope s_law_pair) .none kV13 dc13 pm13 an13 cd13 ct13), sl13⟩)
    (c13 : PySem.W.codeIn K cd13 "_law_pair" = true)
    (k13 : PySem.W.keepIn K (.ref f13) = true)
    (a14 : PySem.W.nsIn K mainGlobals "_law_pairs" = some (some (.ref f14)))
    (l14 : K.lookup f14 = some ⟨oc14, od14, .func (PySem.W.fnOf "_law_pairs" "_law_pairs" (defArgs s_law_pairs) (defBody s_law_pairs) (defScope s_law_pairs) .none kV14 dc14 pm14 an14 cd14 ct14), sl14⟩)
    (c14 : PySem.W.codeIn K cd14 "_law_pairs" = true)
    (k14 : PySem.W.keepIn K (.ref f14) = true)
    (a15 : PySem.W.nsIn K mainGlobals "_law_same_pairs" = some (some (.ref f15)))
    (l15 : K.lookup f15 = some ⟨oc15, od15, .func (PySem.W.fnOf "_law_same_pairs" "_law_same_pairs" (defArgs s_law_same_pairs) (defBody s_law_same_pairs) (defScope s_law_same_pairs) .none kV15 dc15 pm15 an15 cd15 ct15), sl15⟩)
    (c15 : PySem.W.codeIn K cd15 "_law_same_pairs" = true)
    (k15 : PySem.W.keepIn K (.ref f15) = true)
    (a16 : PySem.W.findIn K (.ref CWeb) "__len__" = some (some (.ref f16)))
    (i16 : PySem.W.isFn K (.ref f16) = true)
    (l16 : K.lookup f16 = some ⟨oc16, od16, .func (PySem.W.fnOf "__len__" "Web.__len__" (defArgs s_Web__len__) (defBody s_Web__len__) (defScope s_Web__len__) .none kV16 dc16 pm16 an16 cd16 ct16), sl16⟩)
    (c16 : PySem.W.codeIn K cd16 "Web.__len__" = true)
    (k16 : PySem.W.keepIn K (.ref f16) = true)
    (a17 : PySem.W.nsIn K mainGlobals "law" = some (some (.ref f17)))
    (l17 : K.lookup f17 = some ⟨oc17, od17, .func (PySem.W.fnOf "law" "law" (defArgs s_law) (defBody s_law) (defScope s_law) .none kV17 dc17 pm17 an17 cd17 ct17), sl17⟩)
    (c17 : PySem.W.codeIn K cd17 "law" = true)
    (k17 : PySem.W.keepIn K (.ref f17) = true)
    (z_len : PySem.W.nsIn K mainGlobals "len" = some none)
    (z_int : PySem.W.nsIn K mainGlobals "int" = some none)
    (z_range : PySem.W.nsIn K mainGlobals "range" = some none)
    (z_list : PySem.W.nsIn K mainGlobals "list" = some none)
    (z_all : PySem.W.nsIn K mainGlobals "all" = some none)
    (z_enumerate : PySem.W.nsIn K mainGlobals "enumerate" = some none)
    (z_sorted : PySem.W.nsIn K mainGlobals "sorted" = some none)
    (z_min : PySem.W.nsIn K mainGlobals "min" = some none)
    (z_isinstance : PySem.W.nsIn K mainGlobals "isinstance" = some none)
    (z_str : PySem.W.nsIn K mainGlobals "str" = some none)
    (z_tuple : PySem.W.nsIn K mainGlobals "tuple" = some none)
    (g_LONGEST_NAME : PySem.W.nsIn K mainGlobals "LONGEST_NAME" = some (some (.int 8 t_LONGEST_NAME)))
    (g_LETTERS : PySem.W.nsIn K mainGlobals "LETTERS" = some (some (.str "abcdefghijklmnopqrstuvwxyz" t_LETTERS)))
    (g_MOST_HOUSES : PySem.W.nsIn K mainGlobals "MOST_HOUSES" = some (some (.int 14 t_MOST_HOUSES)))
    : ∃ fd : FuncData, (∀ (s : Shared) (u : Value), BindsTo s fd ⟨[u], []⟩ [("_law_script", u)]) ∧ ∀ base : Heap, K.In base → base.Ns mainGlobals mg → FnOk P w K mg base (L2.CX P w) 5 fa fd ["_law_script"] (spOf K spLaw) := by
  have e := hfa.symm.trans (PySem.W.mg_of X G a17)
  cases e
  let Θ : Wh := { K := K, Web := CWeb, BadHouses := 0, BadLink := 0, NotJoined := 0, UnknownHouse := 0 }
  have T : WebCls Θ := ⟨⟨pgWeb, hdWeb, poWeb, saWeb⟩, naWeb_near⟩
  have F0 := fun_mk (st := s_law_take) l0 c0 k0
  have b0 := F0.binds (ps := ["_law_script", "_law_pool", "_law_many"]) fun _ _ _ _ _ _ us hl => match us, hl with | [_, _, _], _ => rfl
  have F1 := fun_mk (st := s_law_names) l1 c1 k1
  have b1 := F1.binds (ps := ["_law_script", "_law_pool", "_law_many"]) fun _ _ _ _ _ _ us hl => match us, hl with | [_, _, _], _ => rfl
  have F2 := fun_mk (st := s_law_links) l2 c2 k2
  have b2 := F2.binds (ps := ["_law_script", "_law_pool", "_law_names_here"]) fun _ _ _ _ _ _ us hl => match us, hl with | [_, _, _], _ => rfl
  have F3 := fun_mk (st := s_law_shuffled) l3 c3 k3
  have b3 := F3.binds (ps := ["_law_script", "_law_pool", "_law_things"]) fun _ _ _ _ _ _ us hl => match us, hl with | [_, _, _], _ => rfl
  have F4 := fun_mk (st := s_is_name) l4 c4 k4
  have b4 := F4.binds (ps := ["word"]) fun _ _ _ _ _ _ us hl => match us, hl with | [_], _ => rfl
  have F5 := fun_mk (st := s_check_houses) l5 c5 k5
  have b5 := F5.binds (ps := ["houses"]) fun _ _ _ _ _ _ us hl => match us, hl with | [_], _ => rfl
  have F6 := fun_mk (st := s_pair_of) l6 c6 k6
  have b6 := F6.binds (ps := ["a", "b"]) fun _ _ _ _ _ _ us hl => match us, hl with | [_, _], _ => rfl
  have F7 := fun_mk (st := s_check_links) l7 c7 k7
  have b7 := F7.binds (ps := ["houses", "links"]) fun _ _ _ _ _ _ us hl => match us, hl with | [_, _], _ => rfl
  have F8 : FunD K "reached" "reached" (defArgs s_reached) (defBody s_reached) (defScope s_reached) [V.non] [] f8 _ := ⟨⟨oc8, od8, .ref T8, kV8, dc8, pm8, an8, cd8, ct8, sl8, rfl, l8, c8, .inr ⟨by simp, T8, _, [Value.none], nT8, rfl, t8, rfl, .cons rfl .nil⟩, .inl rfl⟩, k8⟩
  obtain ⟨d8, v8, b8⟩ := F8.binds1 (ps := ["near", "start", "barred"]) 2 0 (by simp) rfl fun _ _ _ _ _ _ _ us its hu hi => match us, its, hu, hi with | [_, _], [_], _, _ => ⟨_, rfl, rfl⟩
  have F9 := fun_mk (st := s_Web__init__) l9 c9 k9
  have b9 := F9.binds (ps := ["self", "houses", "links"]) fun _ _ _ _ _ _ us hl => match us, hl with | [_, _, _], _ => rfl
  have F10 := fun_mk (st := s_Web_houses) l10 c10 k10
  have b10 := F10.binds (ps := ["self"]) fun _ _ _ _ _ _ us hl => match us, hl with | [_], _ => rfl
  have F11 := fun_mk (st := s_Web_links) l11 c11 k11
  have b11 := F11.binds (ps := ["self"]) fun _ _ _ _ _ _ us hl => match us, hl with | [_], _ => rfl
  have F12 := fun_mk (st := s_law_same_texts) l12 c12 k12
  have b12 := F12.binds (ps := ["_law_actual", "_law_expected"]) fun _ _ _ _ _ _ us hl => match us, hl with | [_, _], _ => rfl
  have F13 := fun_mk (st := s_law_pair) l13 c13 k13
  have b13 := F13.binds (ps := ["_law_a", "_law_b"]) fun _ _ _ _ _ _ us hl => match us, hl with | [_, _], _ => rfl
  have F14 := fun_mk (st := s_law_pairs) l14 c14 k14
  have b14 := F14.binds (ps := ["_law_links_here"]) fun _ _ _ _ _ _ us hl => match us, hl with | [_], _ => rfl
  have F15 := fun_mk (st := s_law_same_pairs) l15 c15 k15
  have b15 := F15.binds (ps := ["_law_actual", "_law_expected"]) fun _ _ _ _ _ _ us hl => match us, hl with | [_, _], _ => rfl
  have F16 := fun_mk (st := s_Web__len__) l16 c16 k16
  have b16 := F16.binds (ps := ["self"]) fun _ _ _ _ _ _ us hl => match us, hl with | [_], _ => rfl
  have F17 := fun_mk (st := s_law) l17 c17 k17
  have b17 := F17.binds (ps := ["_law_script"]) fun _ _ _ _ _ _ us hl => match us, hl with | [_], _ => rfl
  refine ⟨PySem.W.fnOf "law" "law" (defArgs s_law) (defBody s_law) (defScope s_law) .none kV17 dc17 pm17 an17 cd17 ct17, fun s u => .of_eq rfl, fun base _ _ => ?_⟩
  have G0 : FnOk P w K mg base (L2.CX P w) 1 f0 _ ["_law_script", "_law_pool", "_law_many"] (spOf K (sp_law_take Θ)) := fn3 F0 sc_law_take ⟨r_law_take Θ, fun cdv A outer s H E hr => d_law_take Θ (PySem.W.mg_none_of X G z_len) (PySem.W.mg_none_of X G z_int) cdv A outer s H E hr, v_law_take Θ⟩
  have h_law_take : Cal3 P w Θ.K mg base 1 "_law_take" (sp_law_take Θ) [] := ⟨f0, PySem.W.mg_of X G a0, k0, _, _, [], [], G0, b0, .nil, fun _ => .nil⟩
  have G1 : FnOk P w K mg base (L2.CX P w) 2 f1 _ ["_law_script", "_law_pool", "_law_many"] (spOf K (sp_law_names Θ)) := fn3 F1 sc_law_names ⟨r_law_names Θ, fun cdv A outer s H E hr => d_law_names Θ h_law_take (PySem.W.mg_none_of X G z_range) cdv A outer s H E hr, v_law_names Θ⟩
  have h_law_names : Cal3 P w Θ.K mg base 2 "_law_names" (sp_law_names Θ) [] := ⟨f1, PySem.W.mg_of X G a1, k1, _, _, [], [], G1, b1, .nil, fun _ => .nil⟩
  have G2 : FnOk P w K mg base (L2.CX P w) 2 f2 _ ["_law_script", "_law_pool", "_law_names_here"] (spOf K (sp_law_links Θ)) := fn3 F2 sc_law_links ⟨r_law_links Θ, fun cdv A outer s H E hr => d_law_links Θ h_law_take (PySem.W.mg_none_of X G z_len) (PySem.W.mg_none_of X G z_range) cdv A outer s H E hr, v_law_links Θ⟩
  have h_law_links : Cal3 P w Θ.K mg base 2 "_law_links" (sp_law_links Θ) [] := ⟨f2, PySem.W.mg_of X G a2, k2, _, _, [], [], G2, b2, .nil, fun _ => .nil⟩
  have G3 : FnOk P w K mg base (L2.CX P w) 2 f3 _ ["_law_script", "_law_pool", "_law_things"] (spOf K (sp_law_shuffled Θ)) := fn3 F3 sc_law_shuffled ⟨r_law_shuffled Θ, fun cdv A outer s H E hr => d_law_shuffled Θ h_law_take (PySem.W.mg_none_of X G z_list) (PySem.W.mg_none_of X G z_range) (PySem.W.mg_none_of X G z_len) cdv A outer s H E hr, v_law_shuffled Θ⟩
  have h_law_shuffled : Cal3 P w Θ.K mg base 2 "_law_shuffled" (sp_law_shuffled Θ) [] := ⟨f3, PySem.W.mg_of X G a3, k3, _, _, [], [], G3, b3, .nil, fun _ => .nil⟩
  have G4 : FnOk P w K mg base (L2.CX P w) 1 f4 _ ["word"] (spOf K (sp_is_name Θ)) := fn3 F4 sc_is_name ⟨r_is_name Θ, fun cdv A outer s H E hr => d_is_name Θ (PySem.W.mg_none_of X G z_len) (PySem.W.mg_of X G g_LONGEST_NAME) (PySem.W.mg_of X G g_LETTERS) (PySem.W.mg_none_of X G z_all) cdv A outer s H E hr, v_is_name Θ⟩
  have h_is_name : Cal3 P w Θ.K mg base 1 "is_name" (sp_is_name Θ) [] := ⟨f4, PySem.W.mg_of X G a4, k4, _, _, [], [], G4, b4, .nil, fun _ => .nil⟩
  have G5 : FnOk P w K mg base (L2.CX P w) 2 f5 _ ["houses"] (spOf K (sp_check_houses Θ)) := fn3 F5 sc_check_houses ⟨r_check_houses Θ, fun cdv A outer s H E hr => d_check_houses Θ h_is_name (PySem.W.mg_none_of X G z_len) (PySem.W.mg_of X G g_MOST_HOUSES) (PySem.W.mg_none_of X G z_enumerate) cdv A outer s H E hr, v_check_houses Θ⟩
  have h_check_houses : Cal3 P w Θ.K mg base 2 "check_houses" (sp_check_houses Θ) [] := ⟨f5, PySem.W.mg_of X G a5, k5, _, _, [], [], G5, b5, .nil, fun _ => .nil⟩
  have G6 : FnOk P w K mg base (L2.CX P w) 1 f6 _ ["a", "b"] (spOf K (sp_pair_of Θ)) := fn3 F6 sc_pair_of ⟨r_pair_of Θ, fun cdv A outer s H E hr => d_pair_of Θ  cdv A outer s H E hr, v_pair_of Θ⟩
  have h_pair_of : Cal3 P w Θ.K mg base 1 "pair_of" (sp_pair_of Θ) [] := ⟨f6, PySem.W.mg_of X G a6, k6, _, _, [], [], G6, b6, .nil, fun _ => .nil⟩
  have G7 : FnOk P w K mg base (L2.CX P w) 2 f7 _ ["houses", "links"] (spOf K (sp_check_links Θ)) := fn3 F7 sc_check_links ⟨r_check_links Θ, fun cdv A outer s H E hr => d_check_links Θ h_pair_of (PySem.W.mg_none_of X G z_enumerate) cdv A outer s H E hr, v_check_links Θ⟩
  have h_check_links : Cal3 P w Θ.K mg base 2 "check_links" (sp_check_links Θ) [] := ⟨f7, PySem.W.mg_of X G a7, k7, _, _, [], [], G7, b7, .nil, fun _ => .nil⟩
  have G8 : FnOk P w K mg base (L2.CX P w) 2 f8 _ ["near", "start", "barred"] (spOf K (sp_reached Θ)) := fn3D F8 sc_reached ⟨r_reached Θ, fun cdv A outer s H E hr => d_reached Θ h_pair_of (PySem.W.mg_none_of X G z_len) cdv A outer s H E hr, v_reached Θ⟩
  have h_reached : Cal3 P w Θ.K mg base 2 "reached" (sp_reached Θ) [.non] := ⟨f8, PySem.W.mg_of X G a8, k8, _, _, d8, [V.non], G8, b8, v8, fun _ => .cons .non .nil⟩
  have G9 : FnOk P w K mg base (L2.CX P w) 3 f9 _ ["self", "houses", "links"] (spOf K (sp_Web__init__ Θ)) := fn3 F9 sc_Web__init__ ⟨r_Web__init__ Θ, fun cdv A outer s H E hr => d_Web__init__ Θ h_check_houses h_check_links h_reached (PySem.W.mg_none_of X G z_sorted) (PySem.W.mg_none_of X G z_min) cdv A outer s H E hr, v_Web__init__ Θ T⟩
  have h_Web__init__ : Mak3 P w Θ.K mg base 3 "Web" Θ.Web (sp_Web__init__ Θ) [] := ⟨f9, ⟨mkWeb, a9, i9, kcWeb⟩, PySem.W.mg_of X G aCWeb, _, _, [], [], G9, b9, .nil, fun _ => .nil⟩
  have G10 : FnOk P w K mg base (L2.CX P w) 1 f10 _ ["self"] (spOf K (sp_Web_houses Θ)) := fn3 F10 sc_Web_houses ⟨r_Web_houses Θ, fun cdv A outer s H E hr => d_Web_houses Θ (PySem.W.mg_none_of X G z_list) cdv A outer s H E hr, v_Web_houses Θ T⟩
  have h_Web_houses : Met3 P w Θ.K mg base 1 Θ.Web "houses" (sp_Web_houses Θ) [] := ⟨f10, ⟨pgWeb, hdWeb, poWeb, saWeb⟩, ⟨a10, i10, k10⟩, _, _, [], [], G10, b10, .nil, fun _ => .nil⟩
  have G11 : FnOk P w K mg base (L2.CX P w) 1 f11 _ ["self"] (spOf K (sp_Web_links Θ)) := fn3 F11 sc_Web_links ⟨r_Web_links Θ, fun cdv A outer s H E hr => d_Web_links Θ  cdv A outer s H E hr, v_Web_links Θ T⟩
  have h_Web_links : Met3 P w Θ.K mg base 1 Θ.Web "links" (sp_Web_links Θ) [] := ⟨f11, ⟨pgWeb, hdWeb, poWeb, saWeb⟩, ⟨a11, i11, k11⟩, _, _, [], [], G11, b11, .nil, fun _ => .nil⟩
  have G12 : FnOk P w K mg base (L2.CX P w) 1 f12 _ ["_law_actual", "_law_expected"] (spOf K (sp_law_same_texts Θ)) := fn3 F12 sc_law_same_texts ⟨r_law_same_texts Θ, fun cdv A outer s H E hr => d_law_same_texts Θ (PySem.W.mg_none_of X G z_list) (PySem.W.mg_none_of X G z_isinstance) (PySem.W.mg_none_of X G z_len) (PySem.W.mg_none_of X G z_range) (PySem.W.mg_none_of X G z_str) cdv A outer s H E hr, v_law_same_texts Θ⟩
  have h_law_same_texts : Cal3 P w Θ.K mg base 1 "_law_same_texts" (sp_law_same_texts Θ) [] := ⟨f12, PySem.W.mg_of X G a12, k12, _, _, [], [], G12, b12, .nil, fun _ => .nil⟩
  have G13 : FnOk P w K mg base (L2.CX P w) 1 f13 _ ["_law_a", "_law_b"] (spOf K (sp_law_pair Θ)) := fn3 F13 sc_law_pair ⟨r_law_pair Θ, fun cdv A outer s H E hr => d_law_pair Θ  cdv A outer s H E hr, v_law_pair Θ⟩
  have h_law_pair : Cal3 P w Θ.K mg base 1 "_law_pair" (sp_law_pair Θ) [] := ⟨f13, PySem.W.mg_of X G a13, k13, _, _, [], [], G13, b13, .nil, fun _ => .nil⟩
  have G14 : FnOk P w K mg base (L2.CX P w) 2 f14 _ ["_law_links_here"] (spOf K (sp_law_pairs Θ)) := fn3 F14 sc_law_pairs ⟨r_law_pairs Θ, fun cdv A outer s H E hr => d_law_pairs Θ h_law_pair (PySem.W.mg_none_of X G z_sorted) cdv A outer s H E hr, v_law_pairs Θ⟩
  have h_law_pairs : Cal3 P w Θ.K mg base 2 "_law_pairs" (sp_law_pairs Θ) [] := ⟨f14, PySem.W.mg_of X G a14, k14, _, _, [], [], G14, b14, .nil, fun _ => .nil⟩
  have G15 : FnOk P w K mg base (L2.CX P w) 2 f15 _ ["_law_actual", "_law_expected"] (spOf K (sp_law_same_pairs Θ)) := fn3 F15 sc_law_same_pairs ⟨r_law_same_pairs Θ, fun cdv A outer s H E hr => d_law_same_pairs Θ h_law_same_texts (PySem.W.mg_none_of X G z_list) (PySem.W.mg_none_of X G z_isinstance) (PySem.W.mg_none_of X G z_len) (PySem.W.mg_none_of X G z_range) (PySem.W.mg_none_of X G z_tuple) cdv A outer s H E hr, v_law_same_pairs Θ⟩
  have h_law_same_pairs : Cal3 P w Θ.K mg base 2 "_law_same_pairs" (sp_law_same_pairs Θ) [] := ⟨f15, PySem.W.mg_of X G a15, k15, _, _, [], [], G15, b15, .nil, fun _ => .nil⟩
  have G16 : FnOk P w K mg base (L2.CX P w) 1 f16 _ ["self"] (spOf K (sp_Web__len__ Θ)) := fn3 F16 sc_Web__len__ ⟨r_Web__len__ Θ, fun cdv A outer s H E hr => d_Web__len__ Θ (PySem.W.mg_none_of X G z_len) cdv A outer s H E hr, v_Web__len__ Θ T⟩
  have h_Web__len__ : Spc3 P w Θ.K mg base 1 Θ.Web "__len__" (sp_Web__len__ Θ) := ⟨f16, _, _, a16, i16, G16, b16⟩
  exact fn3 F17 sc_law ⟨r_law Θ, fun cdv A outer s H E hr => d_law Θ h_law_take h_law_names h_law_links h_law_shuffled h_Web__init__ h_Web_houses h_Web_links h_law_same_texts h_law_pairs h_law_same_pairs h_Web__len__ (PySem.W.mg_none_of X G z_list) (PySem.W.mg_none_of X G z_range) (PySem.W.mg_none_of X G z_sorted) (PySem.W.mg_none_of X G z_len) cdv A outer s H E hr, v_law Θ⟩
end L3

open PyProof.Rows PySem PySem.W
set_option maxHeartbeats 0 in
theorem PySem.Challenge.cw_stretchroad_k01_web_told_holds : PySem.Challenge.rw_stretchroad_k01_web_told.Holds := by
  w_on
  o_law
  k_head
  (case hw => w_witness2)
  k_fill
  refine L3.walk3 (l := PySem.Challenge.rw_stretchroad_k01_web_told) (n := 63) (k := 5) (x := "_law_script") rfl (by decide) rfl ⟨rfl, by decide, by decide⟩ (fun w h Y => PySem.W.kIn_of Y) ?F
  case F =>
    intro w mg fa h KX G hmg
    refine' L3.all_mk KX G hmg ?aCWeb ?pgWeb ?hdWeb ?poWeb ?saWeb ?mkWeb ?kcWeb ?naWeb_near ?a0 ?l0 ?c0 ?k0 ?a1 ?l1 ?c1 ?k1 ?a2 ?l2 ?c2 ?k2 ?a3 ?l3 ?c3 ?k3 ?a4 ?l4 ?c4 ?k4 ?a5 ?l5 ?c5 ?k5 ?a6 ?l6 ?c6 ?k6 ?a7 ?l7 ?c7 ?k7 ?a8 ?l8 ?c8 ?k8 ?t8 ?a9 ?i9 ?l9 ?c9 ?k9 ?a10 ?i10 ?l10 ?c10 ?k10 ?a11 ?i11 ?l11 ?c11 ?k11 ?a12 ?l12 ?c12 ?k12 ?a13 ?l13 ?c13 ?k13 ?a14 ?l14 ?c14 ?k14 ?a15 ?l15 ?c15 ?k15 ?a16 ?i16 ?l16 ?c16 ?k16 ?a17 ?l17 ?c17 ?k17 ?z_len ?z_int ?z_range ?z_list ?z_all ?z_enumerate ?z_sorted ?z_min ?z_isinstance ?z_str ?z_tuple ?g_LONGEST_NAME ?g_LETTERS ?g_MOST_HOUSES
    (case aCWeb => k_is)
    (case pgWeb => k_is)
    (case hdWeb => k_is)
    (case poWeb => k_is)
    (case saWeb => k_is)
    (case mkWeb => k_is)
    (case kcWeb => k_is)
    (case naWeb_near => k_is)
    (case a0 => k_is)
    (case l0 => k_is)
    (case c0 => k_is)
    (case k0 => k_is)
    (case a1 => k_is)
    (case l1 => k_is)
    (case c1 => k_is)
    (case k1 => k_is)
    (case a2 => k_is)
    (case l2 => k_is)
    (case c2 => k_is)
    (case k2 => k_is)
    (case a3 => k_is)
    (case l3 => k_is)
    (case c3 => k_is)
    (case k3 => k_is)
    (case a4 => k_is)
    (case l4 => k_is)
    (case c4 => k_is)
    (case k4 => k_is)
    (case a5 => k_is)
    (case l5 => k_is)
    (case c5 => k_is)
    (case k5 => k_is)
    (case a6 => k_is)
    (case l6 => k_is)
    (case c6 => k_is)
    (case k6 => k_is)
    (case a7 => k_is)
    (case l7 => k_is)
    (case c7 => k_is)
    (case k7 => k_is)
    (case a8 => k_is)
    (case l8 => k_is)
    (case c8 => k_is)
    (case k8 => k_is)
    (case t8 => k_is)
    (case a9 => k_is)
    (case i9 => k_is)
    (case l9 => k_is)
    (case c9 => k_is)
    (case k9 => k_is)
    (case a10 => k_is)
    (case i10 => k_is)
    (case l10 => k_is)
    (case c10 => k_is)
    (case k10 => k_is)
    (case a11 => k_is)
    (case i11 => k_is)
    (case l11 => k_is)
    (case c11 => k_is)
    (case k11 => k_is)
    (case a12 => k_is)
    (case l12 => k_is)
    (case c12 => k_is)
    (case k12 => k_is)
    (case a13 => k_is)
    (case l13 => k_is)
    (case c13 => k_is)
    (case k13 => k_is)
    (case a14 => k_is)
    (case l14 => k_is)
    (case c14 => k_is)
    (case k14 => k_is)
    (case a15 => k_is)
    (case l15 => k_is)
    (case c15 => k_is)
    (case k15 => k_is)
    (case a16 => k_is)
    (case i16 => k_is)
    (case l16 => k_is)
    (case c16 => k_is)
    (case k16 => k_is)
    (case a17 => k_is)
    (case l17 => k_is)
    (case c17 => k_is)
    (case k17 => k_is)
    (case z_len => k_is)
    (case z_int => k_is)
    (case z_range => k_is)
    (case z_list => k_is)
    (case z_all => k_is)
    (case z_enumerate => k_is)
    (case z_sorted => k_is)
    (case z_min => k_is)
    (case z_isinstance => k_is)
    (case z_str => k_is)
    (case z_tuple => k_is)
    (case g_LONGEST_NAME => k_is)
    (case g_LETTERS => k_is)
    (case g_MOST_HOUSES => k_is)

