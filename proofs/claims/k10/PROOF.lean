import PyProof.Rows.All
import Wide.All
import OpenK.AllK
import Wide.FinOn
import HandS.ForMost
import HandS.ForExc
import HandS.Defaults
import HandS.CallSlots
import HandS.IsInst
import HandS.WideBits
import HandS.Walk
import HandS.NoneIn
import HandS.Deep
import HandS.WordsDict
import HandS.Ends
import HandS.Words
import PyProof.NoPylong
import PySem.Challenge.RW_sumaudit_k10_names_integers_and_defaults
set_option Elab.async false
set_option linter.all false
set_option maxRecDepth 100000
set_option maxHeartbeats 4000000
/-! MvA: data trees over the abstract heap: what is shared (Is), what is owned (Own), how a step may change both. -/
namespace MV
open PySem L2
/-- a value as the mirror sees it: shared data, a raw value, an owned list, tuple, dict, instance -/
inductive T where
  | d (x : PyData)
  | v (x : V)
  | l (xs : List T)
  | t (xs : List T)
  | k (ks : List Key) (xs : List T)
  | o (c : String) (fs : List Str) (xs : List T)
  /-- moved away for a while -/
  | h
  /-- the script -/
  | scr (ns : List Int)
def dkey : Key → PyData
  | .inl i => .int i
  | .inr s => .str s
mutual
/-- shared data stands in the frozen part F -/
inductive Is (K : PySem.W.Frag) (F : Hp) : V → PyData → Prop
  | non : Is K F .non .none
  | bl (b : Bool) : Is K F (.bl b) (.bool b)
  | int (i : Int) : Is K F (.int i) (.int i)
  | str (x : Str) : Is K F (.str x) (.str x)
  | lst {a : Addr} {xs : List V} {ds : List PyData} : F a = some (.lst xs) → IsAll K F xs ds → Is K F (.ref a) (.list ds)
  | tup {a : Addr} {xs : List V} {ds : List PyData} : SqT K F a xs → IsAll K F xs ds → Is K F (.ref a) (.tuple ds)
  | dct {a : Addr} {kvs : List (Key × V)} {ds : List (PyData × PyData)} : F a = some (.dK kvs) → IsKv K F kvs ds → Is K F (.ref a) (.dict ds)
inductive IsAll (K : PySem.W.Frag) (F : Hp) : List V → List PyData → Prop
  | nil : IsAll K F [] []
  | cons {v : V} {vs : List V} {d : PyData} {ds : List PyData} : Is K F v d → IsAll K F vs ds → IsAll K F (v :: vs) (d :: ds)
inductive IsKv (K : PySem.W.Frag) (F : Hp) : List (Key × V) → List (PyData × PyData) → Prop
  | nil : IsKv K F [] []
  | cons {k : Key} {v : V} {vs : List (Key × V)} {d : PyData} {ds : List (PyData × PyData)} : Is K F v d → IsKv K F vs ds → IsKv K F ((k, v) :: vs) ((dkey k, d) :: ds)
end
def Le (F F' : Hp) : Prop := ∀ a o, F a = some o → F' a = some o
theorem Le.refl (F : Hp) : Le F F := fun _ _ h => h
theorem Le.trans {F G H : Hp} (a : Le F G) (b : Le G H) : Le F H := fun x o h => b x o (a x o h)
theorem rd_mono {F F' : Hp} (e : Le F F') {a : Addr} {u : HO} (h : Rd F a u) : Rd F' a u := by
  rcases h with h | ⟨o, h⟩
  · exact .inl (e _ _ h)
  · exact .inr ⟨o, e _ _ h⟩
theorem sqL_mono {K : PySem.W.Frag} {F F' : Hp} (e : Le F F') {a : Addr} {xs : List V} (h : SqL K F a xs) : SqL K F' a xs := h.imp (rd_mono e) id
theorem sqT_mono {K : PySem.W.Frag} {F F' : Hp} (e : Le F F') {a : Addr} {xs : List V} (h : SqT K F a xs) : SqT K F' a xs := h.imp (rd_mono e) id
section
variable {K : PySem.W.Frag} {F F' : Hp}
mutual
theorem Is.mono (e : Le F F') : ∀ {v : V} {d : PyData}, Is K F v d → Is K F' v d
  | _, _, .non => .non
  | _, _, .bl b => .bl b
  | _, _, .int i => .int i
  | _, _, .str x => .str x
  | _, _, .lst h q => .lst (e _ _ h) (IsAll.mono e q)
  | _, _, .tup h q => .tup (sqT_mono e h) (IsAll.mono e q)
  | _, _, .dct h q => .dct (e _ _ h) (IsKv.mono e q)
theorem IsAll.mono (e : Le F F') : ∀ {v : List V} {d : List PyData}, IsAll K F v d → IsAll K F' v d
  | _, _, .nil => .nil
  | _, _, .cons h q => .cons (Is.mono e h) (IsAll.mono e q)
theorem IsKv.mono (e : Le F F') : ∀ {v : List (Key × V)} {d : List (PyData × PyData)}, IsKv K F v d → IsKv K F' v d
  | _, _, .nil => .nil
  | _, _, .cons h q => .cons (Is.mono e h) (IsKv.mono e q)
end
theorem IsAll.length : ∀ {v : List V} {d : List PyData}, IsAll K F v d → v.length = d.length
  | _, _, .nil => rfl
  | _, _, .cons _ q => by simp [IsAll.length q]
theorem IsAll.get : ∀ {v : List V} {d : List PyData} {i : Nat} {x : PyData}, IsAll K F v d → d[i]? = some x → ∃ u, v[i]? = some u ∧ Is K F u x
  | _, _, _, _, .nil, e => by simp at e
  | _, _, 0, _, .cons h _, e => by simp at e; subst e; exact ⟨_, rfl, h⟩
  | _, _, i + 1, x, .cons _ q, e => by
    obtain ⟨u, h1, h2⟩ := IsAll.get (i := i) (x := x) q (by simpa using e)
    exact ⟨u, by simpa using h1, h2⟩
theorem IsAll.append : ∀ {v w : List V} {d e : List PyData}, IsAll K F v d → IsAll K F w e → IsAll K F (v ++ w) (d ++ e)
  | _, _, _, _, .nil, s => s
  | _, _, _, _, .cons h q, s => .cons h (IsAll.append q s)
theorem IsAll.take : ∀ {v : List V} {d : List PyData} (n : Nat), IsAll K F v d → IsAll K F (v.take n) (d.take n)
  | _, _, 0, _ => by simp; exact .nil
  | _, _, _ + 1, .nil => by simp; exact .nil
  | _, _, n + 1, .cons h q => by simp only [List.take_succ_cons]; exact .cons h (IsAll.take n q)
theorem IsAll.drop : ∀ {v : List V} {d : List PyData} (n : Nat), IsAll K F v d → IsAll K F (v.drop n) (d.drop n)
  | _, _, 0, h => by simpa using h
  | _, _, _ + 1, .nil => by simp; exact .nil
  | _, _, n + 1, .cons h q => by simp only [List.drop_succ_cons]; exact IsAll.drop n q
end
/-- where the classes of the program stand -/
structure G where
  K : PySem.W.Frag
  adr : String → Addr
mutual
/-- an owned tree and its footprint -/
inductive Own (g : G) (F H : Hp) : V → T → List Addr → Prop
  | d {v : V} {x : PyData} : Is g.K F v x → Own g F H v (.d x) []
  | v {x : V} : Own g F H x (.v x) []
  | h {x : V} : Own g F H x .h []
  | scr {a : Addr} {ns : List Int} : SqL g.K F a (ns.map V.int) → Own g F H (.ref a) (.scr ns) []
  | l {a : Addr} {vs : List V} {ts : List T} {fp : List Addr} : H a = some (.lst vs) → OwnL g F H vs ts fp → Own g F H (.ref a) (.l ts) (a :: fp)
  | t {a : Addr} {vs : List V} {ts : List T} {fp : List Addr} : H a = some (.tup vs) → OwnL g F H vs ts fp → Own g F H (.ref a) (.t ts) (a :: fp)
  | k {a : Addr} {kvs : List (Key × V)} {ks : List Key} {ts : List T} {fp : List Addr} : H a = some (.dK kvs) → kvs.map (·.1) = ks → OwnL g F H (kvs.map (·.2)) ts fp → Own g F H (.ref a) (.k ks ts) (a :: fp)
  | o {a dx : Addr} {c : String} {fs : List (Str × V)} {ks : List Str} {ts : List T} {fp : List Addr} : H a = some (.ins (g.adr c) dx fs) → fs.map (·.1) = ks → OwnL g F H (fs.map (·.2)) ts fp → Own g F H (.ref a) (.o c ks ts) (a :: fp)
inductive OwnL (g : G) (F H : Hp) : List V → List T → List Addr → Prop
  | nil : OwnL g F H [] [] []
  | cons {v : V} {vs : List V} {t : T} {ts : List T} {fp fq : List Addr} : Own g F H v t fp → OwnL g F H vs ts fq → OwnL g F H (v :: vs) (t :: ts) (fp ++ fq)
end
section
variable {g : G} {F F' H H' : Hp}
mutual
theorem Own.keep (e : Le F F') : ∀ {v : V} {t : T} {fp : List Addr}, (∀ a ∈ fp, ∀ o, H a = some o → H' a = some o) → Own g F H v t fp → Own g F' H' v t fp
  | _, _, _, _, .d h => .d (h.mono e)
  | _, _, _, _, .v => .v
  | _, _, _, _, .h => .h
  | _, _, _, _, .scr h => .scr (sqL_mono e h)
  | _, _, _, k, .l h q => .l (k _ (List.mem_cons_self ..) _ h) (OwnL.keep e (fun a ha => k a (List.mem_cons_of_mem _ ha)) q)
  | _, _, _, k, .t h q => .t (k _ (List.mem_cons_self ..) _ h) (OwnL.keep e (fun a ha => k a (List.mem_cons_of_mem _ ha)) q)
  | _, _, _, k, .k h z q => .k (k _ (List.mem_cons_self ..) _ h) z (OwnL.keep e (fun a ha => k a (List.mem_cons_of_mem _ ha)) q)
  | _, _, _, k, .o h z q => .o (k _ (List.mem_cons_self ..) _ h) z (OwnL.keep e (fun a ha => k a (List.mem_cons_of_mem _ ha)) q)
theorem OwnL.keep (e : Le F F') : ∀ {v : List V} {t : List T} {fp : List Addr}, (∀ a ∈ fp, ∀ o, H a = some o → H' a = some o) → OwnL g F H v t fp → OwnL g F' H' v t fp
  | _, _, _, _, .nil => .nil
  | _, _, _, k, .cons h q => .cons (Own.keep e (fun a ha => k a (List.mem_append_left _ ha)) h) (OwnL.keep e (fun a ha => k a (List.mem_append_right _ ha)) q)
end
mutual
theorem Own.dom : ∀ {v : V} {t : T} {fp : List Addr}, Own g F H v t fp → ∀ a ∈ fp, ∃ o, H a = some o
  | _, _, _, .d _, _, ha => nomatch ha
  | _, _, _, .v, _, ha => nomatch ha
  | _, _, _, .h, _, ha => nomatch ha
  | _, _, _, .scr _, _, ha => nomatch ha
  | _, _, _, .l h q, b, hb => (List.mem_cons.mp hb).elim (fun e => ⟨_, e ▸ h⟩) (OwnL.dom q b)
  | _, _, _, .t h q, b, hb => (List.mem_cons.mp hb).elim (fun e => ⟨_, e ▸ h⟩) (OwnL.dom q b)
  | _, _, _, .k h _ q, b, hb => (List.mem_cons.mp hb).elim (fun e => ⟨_, e ▸ h⟩) (OwnL.dom q b)
  | _, _, _, .o h _ q, b, hb => (List.mem_cons.mp hb).elim (fun e => ⟨_, e ▸ h⟩) (OwnL.dom q b)
theorem OwnL.dom : ∀ {v : List V} {t : List T} {fp : List Addr}, OwnL g F H v t fp → ∀ a ∈ fp, ∃ o, H a = some o
  | _, _, _, .nil, _, ha => nomatch ha
  | _, _, _, .cons h q, b, hb => (List.mem_append.mp hb).elim (Own.dom h b) (OwnL.dom q b)
end
theorem OwnL.length : ∀ {v : List V} {t : List T} {fp : List Addr}, OwnL g F H v t fp → v.length = t.length
  | _, _, _, .nil => rfl
  | _, _, _, .cons _ q => by simp [OwnL.length q]
theorem OwnL.append : ∀ {v w : List V} {t u : List T} {fp fq : List Addr}, OwnL g F H v t fp → OwnL g F H w u fq → OwnL g F H (v ++ w) (t ++ u) (fp ++ fq)
  | _, _, _, _, _, _, .nil, s => s
  | _, _, _, _, _, _, .cons h q, s => by rw [List.append_assoc]; exact .cons h (OwnL.append q s)
theorem OwnL.ofAll : ∀ {v : List V} {ds : List PyData}, IsAll g.K F v ds → OwnL g F H v (ds.map T.d) []
  | _, _, .nil => .nil
  | _, _, .cons h q => OwnL.cons (fp := []) (fq := []) (.d h) (OwnL.ofAll q)
end
/-! ### what a tree is as data -/
def kdict (ks : List Key) (ds : List PyData) : PyData := .dict (List.zipWith (fun k d => (dkey k, d)) ks ds)
mutual
def T.fz : T → Option PyData
  | .d x => some x
  | .v _ => none
  | .l xs => (T.fzL xs).map .list
  | .t xs => (T.fzL xs).map .tuple
  | .k ks xs => (T.fzL xs).map (kdict ks)
  | .o _ _ _ => none
  | .h => none
  | .scr _ => none
def T.fzL : List T → Option (List PyData)
  | [] => some []
  | y :: ys => match T.fz y, T.fzL ys with
    | some x, some xs => some (x :: xs)
    | _, _ => none
end
theorem fzL_cons {t : T} {ts : List T} {ds : List PyData} (h : T.fzL (t :: ts) = some ds) : ∃ x xs, T.fz t = some x ∧ T.fzL ts = some xs ∧ ds = x :: xs := by
  have h : (match T.fz t, T.fzL ts with | some x, some xs => some (x :: xs) | _, _ => none) = some ds := h
  split at h
  · rename_i x xs e1 e2
    exact ⟨x, xs, e1, e2, (Option.some.inj h).symm⟩
  · cases h
theorem fzL_map_d (ds : List PyData) : T.fzL (ds.map T.d) = some ds := by
  induction ds with
  | nil => rfl
  | cons x xs ih =>
    show (match T.fz (T.d x), T.fzL (xs.map T.d) with | some x, some xs => some (x :: xs) | _, _ => none) = _
    rw [ih]
    rfl
theorem isKv_of {K : PySem.W.Frag} {F : Hp} : ∀ {kvs : List (Key × V)} {ds : List PyData}, IsAll K F (kvs.map (·.2)) ds → IsKv K F kvs (List.zipWith (fun k d => (dkey k, d)) (kvs.map (·.1)) ds)
  | [], _, .nil => .nil
  | (_, _) :: _, _, .cons h q => .cons h (isKv_of q)
section
variable {g : G} {F F' H : Hp}
mutual
/-- a tree read as data: any frozen part that bears F and what the footprint holds -/
theorem Own.is (e : Le F F') : ∀ {t : T} {v : V} {fp : List Addr} {x : PyData}, Own g F H v t fp → T.fz t = some x → (∀ a ∈ fp, ∀ o, H a = some o → F' a = some o) → Is g.K F' v x
  | .d y, _, _, x, h, hx, _ => by
    cases h with
    | d h =>
      have hx : some y = some x := hx
      cases hx
      exact h.mono e
  | .v _, _, _, x, _, hx, _ => by
    have hx : none = some x := hx
    cases hx
  | .l ts, _, _, x, h, hx, k => by
    cases h with
    | l h q =>
      obtain ⟨y, hy, rfl⟩ := Option.map_eq_some_iff.mp (show (T.fzL ts).map PyData.list = some x from hx)
      exact .lst (k _ (List.mem_cons_self ..) _ h) (OwnL.is e q hy fun b hb => k b (List.mem_cons_of_mem _ hb))
  | .t ts, _, _, x, h, hx, k => by
    cases h with
    | t h q =>
      obtain ⟨y, hy, rfl⟩ := Option.map_eq_some_iff.mp (show (T.fzL ts).map PyData.tuple = some x from hx)
      exact .tup (SqT.of (k _ (List.mem_cons_self ..) _ h)) (OwnL.is e q hy fun b hb => k b (List.mem_cons_of_mem _ hb))
  | .k ks ts, _, _, x, h, hx, k => by
    cases h with
    | k h z q =>
      obtain ⟨y, hy, rfl⟩ := Option.map_eq_some_iff.mp (show (T.fzL ts).map (kdict ks) = some x from hx)
      subst z
      exact .dct (k _ (List.mem_cons_self ..) _ h) (isKv_of (OwnL.is e q hy fun b hb => k b (List.mem_cons_of_mem _ hb)))
  | .o _ _ _, _, _, x, _, hx, _ => by
    have hx : none = some x := hx
    cases hx
  | .h, _, _, x, _, hx, _ => by
    have hx : none = some x := hx
    cases hx
  | .scr _, _, _, x, _, hx, _ => by
    have hx : none = some x := hx
    cases hx
theorem OwnL.is (e : Le F F') : ∀ {t : List T} {v : List V} {fp : List Addr} {x : List PyData}, OwnL g F H v t fp → T.fzL t = some x → (∀ a ∈ fp, ∀ o, H a = some o → F' a = some o) → IsAll g.K F' v x
  | [], _, _, x, h, hx, _ => by
    cases h with
    | nil =>
      have hx : some [] = some x := hx
      cases hx
      exact .nil
  | _ :: _, _, _, x, h, hx, k => by
    cases h with
    | cons h q =>
      obtain ⟨y, ys, h1, h2, rfl⟩ := fzL_cons hx
      exact .cons (Own.is e h h1 fun b hb => k b (List.mem_append_left _ hb)) (OwnL.is e q h2 fun b hb => k b (List.mem_append_right _ hb))
end
/-- .. in the whole heap, as it stands -/
theorem Own.view (e : Le F H) {v : V} {t : T} {fp : List Addr} {x : PyData} (h : Own g F H v t fp) (hx : T.fz t = some x) : Is g.K H v x := h.is e hx fun _ _ _ q => q
end
end MV
/-! MvB: the state of a body (Sta), a step (Stp), outcomes (R), the readings of mirrors, the judgements DE, DT, DA, DS. -/
namespace MV
open PySem L2
abbrev Env := List (Option T)
/-- the slots hold their trees; one after another, apart from each other -/
inductive OwnS (g : G) (F H : Hp) : St → Env → List Addr → Prop
  | nil : OwnS g F H [] [] []
  | no {v : Option V} {σ : St} {ρ : Env} {fp : List Addr} : OwnS g F H σ ρ fp → OwnS g F H (v :: σ) (none :: ρ) fp
  | yes {v : V} {t : T} {σ : St} {ρ : Env} {fp fq : List Addr} : Own g F H v t fp → OwnS g F H σ ρ fq → OwnS g F H (some v :: σ) (some t :: ρ) (fp ++ fq)
structure Sta (g : G) (F H : Hp) (σ : St) (ρ : Env) (fp : List Addr) : Prop where
  le : Le F H
  own : OwnS g F H σ ρ fp
  nd : fp.Nodup
  out : ∀ a ∈ fp, F a = none
/-- what a step may do to all that was there: fp may be written, else nothing changes; fq is what is owned behind it -/
structure Stp (F H : Hp) (fp : List Addr) (F' H' : Hp) (fq : List Addr) : Prop where
  le : Le F F'
  keep : ∀ a o, H a = some o → a ∉ fp → H' a = some o
  dom : ∀ a, H' a = none → H a = none
  new : ∀ a ∈ fq, a ∈ fp ∨ H a = none
  frz : ∀ a o, F' a = some o → (∃ u, F a = some u) ∨ a ∈ fp ∨ H a = none
section
variable {g : G} {F F' F1 F2 H H' H1 H2 : Hp} {σ : St} {ρ : Env} {fp fq fs fp1 fp2 fq1 fq2 : List Addr}
theorem OwnS.keep (e : Le F F') : ∀ {σ : St} {ρ : Env} {fp : List Addr}, (∀ a ∈ fp, ∀ o, H a = some o → H' a = some o) → OwnS g F H σ ρ fp → OwnS g F' H' σ ρ fp
  | _, _, _, _, .nil => .nil
  | _, _, _, k, .no q => .no (OwnS.keep e k q)
  | _, _, _, k, .yes h q => .yes (h.keep e fun a ha => k a (List.mem_append_left _ ha)) (OwnS.keep e (fun a ha => k a (List.mem_append_right _ ha)) q)
theorem OwnS.dom : ∀ {σ : St} {ρ : Env} {fp : List Addr}, OwnS g F H σ ρ fp → ∀ a ∈ fp, ∃ o, H a = some o
  | _, _, _, .nil, _, ha => nomatch ha
  | _, _, _, .no q, b, hb => OwnS.dom q b hb
  | _, _, _, .yes h q, b, hb => (List.mem_append.mp hb).elim (Own.dom h b) (OwnS.dom q b)
theorem OwnS.length : ∀ {σ : St} {ρ : Env} {fp : List Addr}, OwnS g F H σ ρ fp → σ.length = ρ.length
  | _, _, _, .nil => rfl
  | _, _, _, .no q => by simp [OwnS.length q]
  | _, _, _, .yes h q => by simp [OwnS.length q]
/-- a slot that holds a tree, taken apart -/
theorem OwnS.get : ∀ {σ : St} {ρ : Env} {fp : List Addr} {i : Nat} {t : T}, OwnS g F H σ ρ fp → ρ[i]? = some (some t) →
    ∃ v f0 f1 f2, σ[i]? = some (some v) ∧ Own g F H v t f1 ∧ fp = f0 ++ f1 ++ f2 ∧
      ∀ (F' H' : Hp) (v' : V) (t' : Option T) (f' : List Addr), Le F F' → (∀ a ∈ f0 ++ f2, ∀ o, H a = some o → H' a = some o) → (∀ u, t' = some u → Own g F' H' v' u f') → (t' = none → f' = []) →
        OwnS g F' H' (σ.set i (some v')) (ρ.set i t') (f0 ++ f' ++ f2)
  | _, _, _, _, _, .nil, e => by simp at e
  | _, _, _, 0, _, .no q, e => by simp at e
  | _, _, _, 0, t, .yes (v := v) (fp := fp) (fq := fq) h q, e => by
    simp at e
    subst e
    refine ⟨v, [], fp, fq, rfl, h, by simp, fun F' H' v' t' f' l k hu hn => ?_⟩
    simp only [List.set_cons_zero, List.nil_append]
    have kq : OwnS g F' H' _ _ fq := q.keep l fun a ha => k a (by simpa using ha)
    cases t' with
    | none =>
      rw [hn rfl]
      exact .no kq
    | some u => exact .yes (hu u rfl) kq
  | _, _, _, i + 1, t, .no q, e => by
    obtain ⟨v, f0, f1, f2, h1, h2, h3, h4⟩ := OwnS.get (i := i) q (by simpa using e)
    exact ⟨v, f0, f1, f2, by simpa using h1, h2, h3, fun F' H' v' t' f' l k hu hn => by simp only [List.set_cons_succ]; exact .no (h4 F' H' v' t' f' l k hu hn)⟩
  | _, _, _, i + 1, t, .yes (fp := fp) (fq := fq) h q, e => by
    obtain ⟨v, f0, f1, f2, h1, h2, h3, h4⟩ := OwnS.get (i := i) q (by simpa using e)
    refine ⟨v, fp ++ f0, f1, f2, by simpa using h1, h2, by simp [h3], fun F' H' v' t' f' l k hu hn => ?_⟩
    simp only [List.set_cons_succ]
    have q4 := h4 F' H' v' t' f' l (fun a ha => k a (by simp only [List.mem_append] at ha ⊢; rcases ha with ha | ha; exact .inl (.inr ha); exact .inr ha)) hu hn
    have h' : Own g F' H' _ _ fp := h.keep l fun a ha => k a (by simp [ha])
    rw [List.append_assoc, List.append_assoc, ← List.append_assoc f0]
    exact .yes h' q4
/-- a slot is set anew, whatever it held -/
theorem OwnS.set : ∀ {σ : St} {ρ : Env} {fp : List Addr} (i : Nat) (v : V) (t : T) (f' : List Addr), OwnS g F H σ ρ fp → i < σ.length → Own g F H v t f' →
    ∃ f0 f2, (∀ a ∈ f0 ++ f2, a ∈ fp) ∧ (fp.Nodup → (f0 ++ f2).Nodup) ∧ OwnS g F H (σ.set i (some v)) (ρ.set i (some t)) (f0 ++ f' ++ f2)
  | _, _, _, _, _, _, _, .nil, h, _ => absurd h (Nat.not_lt_zero _)
  | _, _, fp, 0, v, t, f', .no q, _, h => ⟨[], fp, by simp, fun n => by simpa using n, by simpa using OwnS.yes h q⟩
  | _, _, _, 0, v, t, f', .yes (fp := fp) (fq := fq) _ q, _, h => ⟨[], fq, fun a ha => by simp at ha; simp [ha], fun n => by
      have n := (List.nodup_append.mp n).2.1
      simpa using n, by simpa using OwnS.yes h q⟩
  | _, _, _, i + 1, v, t, f', .no q, hi, h => by
    obtain ⟨f0, f2, h1, h2, h3⟩ := OwnS.set i v t f' q (by simpa using hi) h
    exact ⟨f0, f2, h1, h2, by simpa using OwnS.no h3⟩
  | _, _, _, i + 1, v, t, f', .yes (fp := fp) (fq := fq) ho q, hi, h => by
    obtain ⟨f0, f2, h1, h2, h3⟩ := OwnS.set i v t f' q (by simpa using hi) h
    refine ⟨fp ++ f0, f2, fun a ha => ?_, fun n => ?_, ?_⟩
    · simp only [List.mem_append] at ha ⊢
      rcases ha with (ha | ha) | ha
      · exact .inl ha
      · exact .inr (h1 a (by simp [ha]))
      · exact .inr (h1 a (by simp [ha]))
    · obtain ⟨n1, n2, n3⟩ := List.nodup_append.mp n
      rw [List.append_assoc]
      refine List.nodup_append.mpr ⟨n1, h2 n2, fun a ha b hb => n3 a ha b (h1 b hb)⟩
    · have := OwnS.yes ho h3
      simpa [List.append_assoc] using this
theorem Stp.refl (h : ∀ a ∈ fq, a ∈ fp) : Stp F H fp F H fq := ⟨Le.refl F, fun _ _ h _ => h, fun _ h => h, fun a ha => .inl (h a ha), fun a o e => .inl ⟨o, e⟩⟩
/-- two steps, with what is in hand meanwhile -/
theorem Stp.trans (s1 : Stp F H fp F1 H1 (fq1 ++ fp1)) (s2 : Stp F1 H1 fp1 F2 H2 fs) : Stp F H fp F2 H2 (fq1 ++ fs) := by
  refine ⟨s1.le.trans s2.le, fun a o e n => s2.keep a o (s1.keep a o e n) fun h => ?_, fun a e => s1.dom a (s2.dom a e), fun a ha => ?_, fun a o e => ?_⟩
  · rcases s1.new a (List.mem_append_right _ h) with h | h
    · exact n h
    · rw [e] at h; cases h
  · rcases List.mem_append.mp ha with ha | ha
    · exact s1.new a (List.mem_append_left _ ha)
    · rcases s2.new a ha with h | h
      · exact s1.new a (List.mem_append_right _ h)
      · exact .inr (s1.dom a h)
  · rcases s2.frz a o e with ⟨u, h⟩ | h | h
    · exact s1.frz a u h
    · exact .inr (s1.new a (List.mem_append_right _ h))
    · exact .inr (.inr (s1.dom a h))
theorem Stp.trans0 (s1 : Stp F H fp F1 H1 fp1) (s2 : Stp F1 H1 fp1 F2 H2 fs) : Stp F H fp F2 H2 fs := by
  have := Stp.trans (fq1 := []) (by simpa using s1) s2
  simpa using this
/-- more may be written ahead, less is told behind -/
theorem Stp.wid (s : Stp F H fp F' H' fq) (h1 : ∀ a ∈ fp, a ∈ fp1) (h2 : ∀ a ∈ fq1, a ∈ fq ∨ a ∈ fp1) : Stp F H fp1 F' H' fq1 :=
  ⟨s.le, fun a o e n => s.keep a o e fun h => n (h1 a h), s.dom, fun a ha => by
    rcases h2 a ha with h | h
    · rcases s.new a h with h | h
      · exact .inl (h1 a h)
      · exact .inr h
    · exact .inl h, fun a o e => by
    rcases s.frz a o e with h | h | h
    · exact .inl h
    · exact .inr (.inl (h1 a h))
    · exact .inr (.inr h)⟩
/-- what is in hand stays -/
theorem Stp.carry (s : Stp F H fp F' H' fq) (hd : ∀ a ∈ fs, ∃ o, H a = some o) (ho : ∀ a ∈ fs, F a = none) (dj : ∀ a ∈ fs, a ∉ fp) :
    (∀ a ∈ fs, ∀ o, H a = some o → H' a = some o) ∧ (∀ a ∈ fs, F' a = none) ∧ (∀ a ∈ fs, a ∉ fq) := by
  refine ⟨fun a ha o e => s.keep a o e (dj a ha), fun a ha => ?_, fun a ha h => ?_⟩
  · cases e : F' a with
    | none => rfl
    | some o =>
      rcases s.frz a o e with ⟨u, h⟩ | h | h
      · rw [ho a ha] at h; cases h
      · exact absurd h (dj a ha)
      · obtain ⟨o, e'⟩ := hd a ha
        rw [h] at e'; cases e'
  · rcases s.new a h with h | h
    · exact dj a ha h
    · obtain ⟨o, e'⟩ := hd a ha
      rw [h] at e'; cases e'
end
/-! ### outcomes -/
inductive R (α : Type) where
  /-- p: nothing that was owned has been written, nothing was shared anew -/
  | ok (a : α) (ρ : Env) (p : Bool)
  | exc (c : String) (ns : List Str) (ds : List PyData) (ρ : Env)
  | bad
def R.bind {α β : Type} (r : R α) (f : α → Env → R β) : R β := match r with
  | .ok a ρ p => (match f a ρ with
    | .ok b ρ' q => .ok b ρ' (p && q)
    | .exc c n d ρ' => .exc c n d ρ'
    | .bad => .bad)
  | .exc c n d ρ => .exc c n d ρ
  | .bad => .bad
/-- a way into a tree -/
inductive Sel where
  | ix (j : Nat)
  | fld (f : Str)
  | key (k : Key)
  deriving DecidableEq
/-- an operand: a tree in hand, or a place -/
inductive Op where
  | tm (t : T)
  | pl (i : Nat) (p : List Sel)
def Op.deep : Op → Bool
  | .pl _ (_ :: _) => true
  | _ => false
/-- what stands beside the first key that is a -/
def pick {α β : Type} [DecidableEq α] : List α → List β → α → Option β
  | k :: ks, x :: xs, a => if k = a then some x else pick ks xs a
  | _, _, _ => none
def T.sub : T → Sel → Option T
  | .l xs, .ix j => xs[j]?
  | .t xs, .ix j => xs[j]?
  | .k ks xs, .key a => pick ks xs a
  | .o _ fs xs, .fld f => pick fs xs f
  | _, _ => none
def T.at : T → List Sel → Option T
  | x, [] => some x
  | x, s :: p => (T.sub x s).bind fun y => T.at y p
def look (ρ : Env) : Op → Option T
  | .tm t => some t
  | .pl i p => match ρ[i]? with
    | some (some t) => T.at t p
    | _ => none
/-- values along a way, and the addresses that it passes -/
inductive Way (H : Hp) : V → List Sel → List Addr → V → Prop
  | nil {v : V} : Way H v [] [] v
  | lst {a : Addr} {xs : List V} {j : Nat} {x v : V} {p : List Sel} {as : List Addr} : H a = some (.lst xs) → xs[j]? = some x → Way H x p as v → Way H (.ref a) (.ix j :: p) (a :: as) v
  | tup {a : Addr} {xs : List V} {j : Nat} {x v : V} {p : List Sel} {as : List Addr} : H a = some (.tup xs) → xs[j]? = some x → Way H x p as v → Way H (.ref a) (.ix j :: p) (a :: as) v
  | key {a : Addr} {kvs : List (Key × V)} {k : Key} {x v : V} {p : List Sel} {as : List Addr} : H a = some (.dK kvs) → pick (kvs.map (·.1)) (kvs.map (·.2)) k = some x → Way H x p as v → Way H (.ref a) (.key k :: p) (a :: as) v
  | fld {a C dx : Addr} {fs : List (Str × V)} {f : Str} {x v : V} {p : List Sel} {as : List Addr} : H a = some (.ins C dx fs) → pick (fs.map (·.1)) (fs.map (·.2)) f = some x → Way H x p as v → Way H (.ref a) (.fld f :: p) (a :: as) v
theorem Way.keep {H H' : Hp} : ∀ {v : V} {p : List Sel} {as : List Addr} {w : V}, Way H v p as w → (∀ a ∈ as, ∀ o, H a = some o → H' a = some o) → Way H' v p as w
  | _, _, _, _, .nil, _ => .nil
  | _, _, _, _, .lst h e q, k => .lst (k _ (List.mem_cons_self ..) _ h) e (q.keep fun a ha => k a (List.mem_cons_of_mem _ ha))
  | _, _, _, _, .tup h e q, k => .tup (k _ (List.mem_cons_self ..) _ h) e (q.keep fun a ha => k a (List.mem_cons_of_mem _ ha))
  | _, _, _, _, .key h e q, k => .key (k _ (List.mem_cons_self ..) _ h) e (q.keep fun a ha => k a (List.mem_cons_of_mem _ ha))
  | _, _, _, _, .fld h e q, k => .fld (k _ (List.mem_cons_self ..) _ h) e (q.keep fun a ha => k a (List.mem_cons_of_mem _ ha))
/-- an operand in hand; fp: what the slots own -/
def Opn (g : G) (F H : Hp) (σ : St) (fp : List Addr) : Op → V → List Addr → Prop
  | .tm t, v, fq => Own g F H v t fq
  | .pl i p, v, fq => fq = [] ∧ ∃ v0 as, σ[i]? = some (some v0) ∧ Way H v0 p as v ∧ ∀ a ∈ as, a ∈ fp
inductive OpnL (g : G) (F H : Hp) (σ : St) (fp : List Addr) : List Op → List V → List Addr → Prop
  | nil : OpnL g F H σ fp [] [] []
  | cons {o : Op} {os : List Op} {v : V} {vs : List V} {fq fr : List Addr} : Opn g F H σ fp o v fq → OpnL g F H σ fp os vs fr → OpnL g F H σ fp (o :: os) (v :: vs) (fq ++ fr)
def Pure (ρ ρ' : Env) (fp fp' : List Addr) (H H' : Hp) : Prop := ρ' = ρ ∧ fp' = fp ∧ ∀ a ∈ fp, ∀ o, H a = some o → H' a = some o
/-- an exception behind a step -/
structure ExAt (g : G) (F H : Hp) (ns : List Str) (ds : List PyData) (d : Addr) : Prop where
  ex : ∃ vs : List (Str × V), H d = some (.xd vs) ∧ vs.map (·.1) = ns ∧ IsAll g.K F (vs.map (·.2)) ds
section
variable (g : G) (W : WX) (σ : St) (F H : Hp) (fs fp : List Addr) (ρ : Env)
/-- what an outcome promises: fs may be written, fp is what ρ owns ahead -/
def Out (r : R Op) (Q : VK) : Prop := match r with
  | .ok o ρ' p => ∀ v F' H' fq fp', Stp F H fs F' H' (fq ++ fp') → (fq ++ fp').Nodup → (∀ a ∈ fq, F' a = none) → Sta g F' H' σ ρ' fp' → Opn g F' H' σ fp' o v fq → (p = true → Pure ρ ρ' fp fp' H H') → Q v H'
  | .exc c ns ds ρ' => ∀ d F' H' fp', Stp F H fs F' H' fp' → Sta g F' H' σ ρ' fp' → ExAt g F' H' ns ds d → W (.ref (g.adr c)) (some d) σ H'
  | .bad => False
def OutL (r : R (List Op)) (Q : List V → Hp → Prop) : Prop := match r with
  | .ok os ρ' p => ∀ vs F' H' fq fp', Stp F H fs F' H' (fq ++ fp') → (fq ++ fp').Nodup → (∀ a ∈ fq, F' a = none) → Sta g F' H' σ ρ' fp' → OpnL g F' H' σ fp' os vs fq → (p = true → Pure ρ ρ' fp fp' H H') → Q vs H'
  | .exc c ns ds ρ' => ∀ d F' H' fp', Stp F H fs F' H' fp' → Sta g F' H' σ ρ' fp' → ExAt g F' H' ns ds d → W (.ref (g.adr c)) (some d) σ H'
  | .bad => False
def OutB (r : R Bool) (Q : Bool → Hp → Prop) : Prop := match r with
  | .ok b ρ' p => ∀ F' H' fp', Stp F H fs F' H' fp' → Sta g F' H' σ ρ' fp' → (p = true → Pure ρ ρ' fp fp' H H') → Q b H'
  | .exc c ns ds ρ' => ∀ d F' H' fp', Stp F H fs F' H' fp' → Sta g F' H' σ ρ' fp' → ExAt g F' H' ns ds d → W (.ref (g.adr c)) (some d) σ H'
  | .bad => False
end
/-- how a statement ends -/
inductive Fl where
  | nx
  | rt (t : T)
  | bk
  | ct
def Agree (P : List Nat) (σ σ' : St) : Prop := ∀ i ∈ P, σ'[i]? = σ[i]?
theorem Agree.refl (P : List Nat) (σ : St) : Agree P σ σ := fun _ _ => rfl
theorem Agree.trans {P : List Nat} {a b c : St} (h : Agree P a b) (h' : Agree P b c) : Agree P a c := fun i hi => (h' i hi).trans (h i hi)
def OutS (g : G) (W : WX) (P : List Nat) (σ : St) (F H : Hp) (fs : List Addr) (r : R Fl) (D : Ends) : Prop := match r with
  | .ok .nx ρ' _ => ∀ σ' F' H' fp', Stp F H fs F' H' fp' → Sta g F' H' σ' ρ' fp' → Agree P σ σ' → D.nx σ' H'
  | .ok .bk ρ' _ => ∀ σ' F' H' fp', Stp F H fs F' H' fp' → Sta g F' H' σ' ρ' fp' → Agree P σ σ' → D.bk σ' H'
  | .ok .ct ρ' _ => ∀ σ' F' H' fp', Stp F H fs F' H' fp' → Sta g F' H' σ' ρ' fp' → Agree P σ σ' → D.ct σ' H'
  | .ok (.rt t) ρ' _ => ∀ v σ' F' H' fq fp', Stp F H fs F' H' (fq ++ fp') → (fq ++ fp').Nodup → (∀ a ∈ fq, F' a = none) → Sta g F' H' σ' ρ' fp' → Own g F' H' v t fq → Agree P σ σ' → D.rt v H'
  | .exc c ns ds ρ' => ∀ d σ' F' H' fp', Stp F H fs F' H' fp' → Sta g F' H' σ' ρ' fp' → ExAt g F' H' ns ds d → Agree P σ σ' → W (.ref (g.adr c)) (some d) σ' H'
  | .bad => False
/-! ### the readings and the judgements -/
def EOf (g : G) (W : WX) (m : Env → R Op) : TE := fun σ H Q => ∃ F ρ fp, Sta g F H σ ρ fp ∧ Out g W σ F H fp fp ρ (m ρ) Q
def BOf (g : G) (W : WX) (m : Env → R Bool) : TT := fun σ H Q => ∃ F ρ fp, Sta g F H σ ρ fp ∧ OutB g W σ F H fp fp ρ (m ρ) Q
def AOf (g : G) (W : WX) (m : Env → R (List Op)) : TA := fun σ H Q => ∃ F ρ fp, Sta g F H σ ρ fp ∧ OutL g W σ F H fp fp ρ (m ρ) Q
def SOf (g : G) (W : WX) (P : List Nat) (m : Env → R Fl) : TS := fun D σ H => ∃ F ρ fp, Sta g F H σ ρ fp ∧ OutS g W P σ F H fp (m ρ) D
def DE (X : Cx) (g : G) (e : Expr) (m : Env → R Op) : Prop := ∀ W, Takes X W → PE X e (EOf g W m)
def DT (X : Cx) (g : G) (e : Expr) (m : Env → R Bool) : Prop := ∀ W, Takes X W → PT X e (BOf g W m)
def DA (X : Cx) (g : G) (es : List Expr) (m : Env → R (List Op)) : Prop := ∀ W, Takes X W → PA X es (AOf g W m)
def DS (X : Cx) (g : G) (P : List Nat) (st : Stmt) (m : Env → R Fl) : Prop := ∀ W, Takes X W → PassesOwn (model X.prog X.w) X.A X.env X.xe → PS X st (SOf g W P m)
def DSs (X : Cx) (g : G) (P : List Nat) (st : List Stmt) (m : Env → R Fl) : Prop := ∀ W, Takes X W → PassesOwn (model X.prog X.w) X.A X.env X.xe → PSs X st (SOf g W P m)
section
variable {X : Cx}
theorem pe_imp {e : Expr} {t t' : TE} (h : PE X e t) (k : ∀ σ H Q, t' σ H Q → t σ H Q) : PE X e t' := ⟨fun pins s σ H Q I q => h.run pins s σ H Q I (k σ H Q q)⟩
theorem pt_imp {e : Expr} {t t' : TT} (h : PT X e t) (k : ∀ σ H Q, t' σ H Q → t σ H Q) : PT X e t' := ⟨fun pins s σ H Q I q => h.run pins s σ H Q I (k σ H Q q)⟩
theorem pa_imp {e : List Expr} {t t' : TA} (h : PA X e t) (k : ∀ σ H Q, t' σ H Q → t σ H Q) : PA X e t' := ⟨fun pos pins s σ H Q I q => h.run pos pins s σ H Q I (k σ H Q q)⟩
theorem ps_imp {e : Stmt} {t t' : TS} (h : PS X e t) (k : ∀ D σ H, t' D σ H → t D σ H) : PS X e t' := ⟨fun pins s σ H D I q => h.run pins s σ H D I (k D σ H q)⟩
theorem pss_imp {e : List Stmt} {t t' : TS} (h : PSs X e t) (k : ∀ D σ H, t' D σ H → t D σ H) : PSs X e t' := ⟨fun pins s σ H D I q => h.run pins s σ H D I (k D σ H q)⟩
end
end MV
/-! MvC: names, constants, lists of operands, operations by values, tests. -/
namespace MV
open PySem L2
section
variable {g : G} {F F' F1 F2 H H' H1 H2 : Hp} {σ : St} {ρ ρ1 : Env} {fp fq fs fp1 fp2 fq1 fq2 : List Addr} {W : WX} {X : Cx}
theorem Sta.mem_none (s : Sta g F H σ ρ fp) {i : Nat} {t : T} (e : ρ[i]? = some (some t)) : ∃ v, σ[i]? = some (some v) := by
  obtain ⟨v, _, _, _, h, _⟩ := s.own.get e
  exact ⟨v, h⟩
theorem OpnL.dom : ∀ {os : List Op} {vs : List V} {fq : List Addr}, OpnL g F H σ fp os vs fq → ∀ a ∈ fq, ∃ o, H a = some o
  | _, _, _, .nil, _, ha => nomatch ha
  | _, _, _, .cons (o := o) h q, b, hb => by
    rcases List.mem_append.mp hb with hb | hb
    · cases o with
      | tm t => exact Own.dom h b hb
      | pl i p =>
        obtain ⟨e, _⟩ := h
        subst e
        cases hb
    · exact OpnL.dom q b hb
theorem Opn.dom {o : Op} {v : V} (h : Opn g F H σ fp o v fq) : ∀ a ∈ fq, ∃ o, H a = some o := by
  have := OpnL.dom (OpnL.cons h .nil)
  simpa using this
/-- an operand in hand stays over a step of the rest -/
theorem Opn.carry {o : Op} {v : V} (h : Opn g F1 H1 σ fp1 o v fs) (s : Stp F1 H1 fp1 F2 H2 fq) (ho : ∀ a ∈ fs, F1 a = none) (dj : ∀ a ∈ fs, a ∉ fp1)
    (hd : o.deep = true → fp2 = fp1 ∧ ∀ a ∈ fp1, ∀ o, H1 a = some o → H2 a = some o) : Opn g F2 H2 σ fp2 o v fs := by
  cases o with
  | tm t => exact Own.keep s.le (s.carry (Own.dom h) ho dj).1 h
  | pl i p =>
    obtain ⟨e, v0, as, h1, h2, h3⟩ := h
    refine ⟨e, v0, ?_⟩
    cases p with
    | nil =>
      cases h2
      exact ⟨[], h1, .nil, fun _ z => nomatch z⟩
    | cons x r =>
      obtain ⟨rfl, k⟩ := hd rfl
      exact ⟨as, h1, h2.keep fun a ha => k a (h3 a ha), h3⟩
/-! ### names and constants -/
abbrev M := Env → R Op
def mVar (i : Nat) : M := fun ρ => match ρ[i]? with
  | some (some _) => .ok (.pl i []) ρ true
  | _ => .bad
def mD (x : PyData) : M := fun ρ => .ok (.tm (.d x)) ρ true
def mV (x : V) : M := fun ρ => .ok (.tm (.v x)) ρ true
theorem pure_refl : Pure ρ ρ fp fp H H := ⟨rfl, rfl, fun _ _ _ h => h⟩
/-- a value that needs no heap is handed on -/
theorem Out.val {Q : VK} {t : T} {v : V} {p : Bool} (st : Sta g F H σ ρ fp) (h : Out g W σ F H fs fp ρ (.ok (.tm t) ρ p) Q) (hs : ∀ a ∈ fp, a ∈ fs) (o : Own g F H v t []) : Q v H :=
  h v F H [] fp (Stp.refl (by simpa using hs)) (by simpa using st.nd) (fun _ z => nomatch z) st o (fun _ => pure_refl)
theorem de_var {i : Nat} {x : Str} {pos : Pos} (hN : X.N[i]? = some x := by rfl) (hv : Vis X.env.scope x := by first | exact Or.inl rfl | exact Or.inr (Or.inl rfl) | exact Or.inr (Or.inr rfl)) (hd : (x == ("__debug__" : Str)) = false := by decide)
    (hcd : (x == ("__classdict__" : Str)) = false := by decide) : DE X g (.Name x pos) (mVar i) := fun W tk => by
  refine pe_imp (pe_var hN hv hd hcd) fun σ H Q h => ?_
  obtain ⟨F, ρ, fp, st, h⟩ := h
  unfold mVar at h
  split at h
  · rename_i t e
    obtain ⟨v, hv⟩ := st.mem_none e
    exact ⟨v, hv, h v F H [] fp (Stp.refl (by simp)) (by simpa using st.nd) (fun _ z => nomatch z) st ⟨rfl, v, [], hv, .nil, fun _ z => nomatch z⟩ (fun _ => pure_refl)⟩
  · exact h.elim
theorem de_c {e : Expr} {v : V} {t : T} (h : PE X e (tC v)) (o : ∀ F H, Own g F H v t []) : DE X g e (fun ρ => .ok (.tm t) ρ true) := fun W tk => by
  refine pe_imp h fun σ H Q h => ?_
  obtain ⟨F, ρ, fp, st, h⟩ := h
  exact h.val st (fun _ z => z) (o F H)
theorem de_int {i : Int} {j pos} : DE X g (.Constant (.int i) j pos) (mD (.int i)) := de_c pe_int fun _ _ => .d (.int i)
theorem de_bl {b : Bool} {j pos} : DE X g (.Constant (.bool b) j pos) (mD (.bool b)) := de_c pe_bl fun _ _ => .d (.bl b)
theorem de_non {j pos} : DE X g (.Constant .none j pos) (mD .none) := de_c pe_non fun _ _ => .d .non
theorem de_str {x : Str} {j pos} : DE X g (.Constant (.str x) j pos) (mD (.str x)) := de_c pe_str fun _ _ => .d (.str x)
/-- a constant of the module -/
theorem de_globI {x : Str} {i : Int} {u : Value} {pos : Pos} (hm : X.mg x = some u) (r : RelV (.int i) u) (hg : Gl X x := by rfl) (hd : (x == ("__debug__" : Str)) = false := by decide) : DE X g (.Name x pos) (mD (.int i)) := de_c (pe_glob hg hm r hd) fun _ _ => .d (.int i)
theorem de_globS {x : Str} {i : Str} {u : Value} {pos : Pos} (hm : X.mg x = some u) (r : RelV (.str i) u) (hg : Gl X x := by rfl) (hd : (x == ("__debug__" : Str)) = false := by decide) : DE X g (.Name x pos) (mD (.str i)) := de_c (pe_glob hg hm r hd) fun _ _ => .d (.str i)
theorem de_globV {x : Str} {i : V} {u : Value} {pos : Pos} (hm : X.mg x = some u) (r : RelV i u) (hg : Gl X x := by rfl) (hd : (x == ("__debug__" : Str)) = false := by decide) : DE X g (.Name x pos) (mV i) := de_c (pe_glob hg hm r hd) fun _ _ => .v
/-! ### lists of operands -/
def mNil : Env → R (List Op) := fun ρ => .ok [] ρ true
def mCons (m : M) (ms : Env → R (List Op)) : Env → R (List Op) := fun ρ => match m ρ with
  | .ok o ρ1 p => (match ms ρ1 with
    | .ok os ρ2 q => if (o.deep && !q) = true then .bad else .ok (o :: os) ρ2 (p && q)
    | .exc c n d ρ' => .exc c n d ρ'
    | .bad => .bad)
  | .exc c n d ρ' => .exc c n d ρ'
  | .bad => .bad
theorem aof_nil {Q : List V → Hp → Prop} (h : AOf g W mNil σ H Q) : tNil σ H Q := by
  obtain ⟨F, ρ, fp, st, h⟩ := h
  exact h [] F H [] fp (Stp.refl (by simp)) (by simpa using st.nd) (fun _ z => nomatch z) st .nil (fun _ => pure_refl)
/-- purities, one behind the other -/
theorem Pure.trans {ρ2 : Env} (a : Pure ρ ρ1 fp fp1 H H1) (b : Pure ρ1 ρ2 fp1 fp2 H1 H2) : Pure ρ ρ2 fp fp2 H H2 := by
  obtain ⟨rfl, rfl, k⟩ := a
  obtain ⟨rfl, rfl, k2⟩ := b
  exact ⟨rfl, rfl, fun a ha o e => k2 a ha o (k a ha o e)⟩
theorem nodup_carry (n1 : (fs ++ fp1).Nodup) (n2 : (fq ++ fp2).Nodup) (dj : ∀ a ∈ fs, a ∉ fq ++ fp2) : ((fs ++ fq) ++ fp2).Nodup := by
  rw [List.append_assoc]
  exact List.nodup_append.mpr ⟨(List.nodup_append.mp n1).1, n2, fun a ha b hb e => dj a ha (e ▸ hb)⟩
theorem aof_cons {m : M} {ms : Env → R (List Op)} {Q : List V → Hp → Prop} (h : AOf g W (mCons m ms) σ H Q) : tCons (EOf g W m) (AOf g W ms) σ H Q := by
  obtain ⟨F, ρ, fp, st, h⟩ := h
  refine ⟨F, ρ, fp, st, ?_⟩
  unfold mCons at h
  cases hm : m ρ with
  | bad => rw [hm] at h; exact h
  | exc c n d ρ' => rw [hm] at h; exact h
  | ok o ρ1 p =>
    rw [hm] at h
    intro v F1 H1 fs fp1 s1 n1 o1 st1 op1 pu1
    refine ⟨F1, ρ1, fp1, st1, ?_⟩
    dsimp only at h
    cases hms : ms ρ1 with
    | bad => rw [hms] at h; exact h
    | exc c n d ρ' =>
      rw [hms] at h
      exact fun d' F2 H2 fp2 s2 st2 ex => h d' F2 H2 fp2 ((Stp.trans s1 s2).wid (fun _ z => z) fun a ha => .inl (List.mem_append_right _ ha)) st2 ex
    | ok os ρ2 q =>
      rw [hms] at h
      dsimp only at h
      split at h
      · exact h.elim
      · rename_i hdq
        intro vs F2 H2 fq fp2 s2 n2 o2 st2 op2 pu2
        have dj : ∀ a ∈ fs, a ∉ fp1 := fun a ha z => (List.nodup_append.mp n1).2.2 a ha a z rfl
        obtain ⟨k1, k2, k3⟩ := s2.carry op1.dom o1 dj
        refine h (v :: vs) F2 H2 (fs ++ fq) fp2 (by rw [List.append_assoc]; exact Stp.trans s1 s2) (nodup_carry n1 n2 k3) (fun a ha => (List.mem_append.mp ha).elim (k2 a) (o2 a)) st2
          (.cons (op1.carry s2 o1 dj fun z => ?_) op2) fun z => ?_
        · have hq : q = true := by
            cases q with
            | true => rfl
            | false => rw [z] at hdq; exact absurd rfl hdq
          obtain ⟨_, e, k⟩ := pu2 hq
          exact ⟨e, k⟩
        · rw [Bool.and_eq_true] at z
          exact (pu1 z.1).trans (pu2 z.2)
theorem da_nil : DA X g [] mNil := fun W tk => pa_imp pa_nil fun _ _ _ h => aof_nil h
theorem da_cons {e : Expr} {es : List Expr} {m : M} {ms : Env → R (List Op)} (ha : DE X g e m) (hr : DA X g es ms) (hs : starEach (e :: es) X.env = (false, eval e X.env) :: starEach es X.env := by rfl) : DA X g (e :: es) (mCons m ms) :=
  fun W tk => pa_imp (pa_cons (ha W tk) (hr W tk) hs) fun _ _ _ h => aof_cons h
/-! ### operations by values -/
abbrev RN := WX → St → List V → Hp → VK → Prop
/-- what an operation asks, and what it gives by the mirror -/
def OpN (g : G) (r : RN) (f : Env → List Op → R Op) : Prop :=
  ∀ (W : WX) (σ : St) (F H : Hp) (ρ : Env) (fp fq : List Addr) (os : List Op) (vs : List V) (Q : VK), Sta g F H σ ρ fp → OpnL g F H σ fp os vs fq → (fq ++ fp).Nodup → (∀ a ∈ fq, F a = none) → Out g W σ F H (fq ++ fp) fp ρ (f ρ os) Q → r W σ vs H Q
def mOpN (f : Env → List Op → R Op) (ms : Env → R (List Op)) : M := fun ρ => match ms ρ with
  | .ok os ρ1 p => (match f ρ1 os with
    | .ok o ρ2 q => .ok o ρ2 (p && q)
    | .exc c n d ρ' => .exc c n d ρ'
    | .bad => .bad)
  | .exc c n d ρ' => .exc c n d ρ'
  | .bad => .bad
theorem eof_opN {r : RN} {f : Env → List Op → R Op} {ms : Env → R (List Op)} {Q : VK} (hf : OpN g r f) (h : EOf g W (mOpN f ms) σ H Q) : AOf g W ms σ H fun vs H1 => r W σ vs H1 Q := by
  obtain ⟨F, ρ, fp, st, h⟩ := h
  refine ⟨F, ρ, fp, st, ?_⟩
  unfold mOpN at h
  cases hm : ms ρ with
  | bad => rw [hm] at h; exact h
  | exc c n d ρ' => rw [hm] at h; exact h
  | ok os ρ1 p =>
    rw [hm] at h
    dsimp only at h
    intro vs F1 H1 fq fp1 s1 n1 o1 st1 op1 pu1
    refine hf W σ F1 H1 ρ1 fp1 fq os vs Q st1 op1 n1 o1 ?_
    cases hf' : f ρ1 os with
    | bad => rw [hf'] at h; exact h
    | exc c n d ρ' =>
      rw [hf'] at h
      exact fun d' F2 H2 fp2 s2 st2 ex => h d' F2 H2 fp2 (s1.trans0 s2) st2 ex
    | ok o ρ2 q =>
      rw [hf'] at h
      intro v F2 H2 fq2 fp2 s2 n2 o2 st2 op2 pu2
      refine h v F2 H2 fq2 fp2 (s1.trans0 s2) n2 o2 st2 op2 fun z => ?_
      rw [Bool.and_eq_true] at z
      exact (pu1 z.1).trans (pu2 z.2)
def r2N (r : R2) : RN := fun _ _ vs H Q => match vs with
  | [x, y] => r x y H Q
  | _ => False
def r1N (r : V → Hp → VK → Prop) : RN := fun _ _ vs H Q => match vs with
  | [x] => r x H Q
  | _ => False
def rBN (r : List V → Hp → VK → Prop) : RN := fun _ _ vs H Q => r vs H Q
def m2 (f : Env → List Op → R Op) (m n : M) : M := mOpN f (mCons m (mCons n mNil))
def m1 (f : Env → List Op → R Op) (m : M) : M := mOpN f (mCons m mNil)
theorem aof1 {m : M} {P : V → Hp → Prop} {Q : List V → Hp → Prop} (h : AOf g W (mCons m mNil) σ H Q) (k : ∀ x H', Q [x] H' → P x H') : EOf g W m σ H P := by
  have h := aof_cons h
  obtain ⟨F, ρ, fp, st, h⟩ := h
  refine ⟨F, ρ, fp, st, ?_⟩
  cases hm : m ρ with
  | bad => rw [hm] at h; exact h
  | exc c n d ρ' => rw [hm] at h; exact h
  | ok o ρ1 p =>
    rw [hm] at h
    exact fun v F1 H1 fq fp1 s1 n1 o1 st1 op1 pu1 => k _ _ (aof_nil (h v F1 H1 fq fp1 s1 n1 o1 st1 op1 pu1))
theorem eof_mono {m : M} {P Q : VK} (h : EOf g W m σ H P) (k : ∀ x H', P x H' → Q x H') : EOf g W m σ H Q := by
  obtain ⟨F, ρ, fp, st, h⟩ := h
  refine ⟨F, ρ, fp, st, ?_⟩
  cases hm : m ρ with
  | bad => rw [hm] at h; exact h
  | exc c n d ρ' => rw [hm] at h; exact h
  | ok o ρ1 p =>
    rw [hm] at h
    exact fun v F1 H1 fq fp1 s1 n1 o1 st1 op1 pu1 => k _ _ (h v F1 H1 fq fp1 s1 n1 o1 st1 op1 pu1)
theorem eof2 {m n : M} {r : R2} {f : Env → List Op → R Op} {Q : VK} (hf : OpN g (r2N r) f) (h : EOf g W (m2 f m n) σ H Q) : tOp r (EOf g W m) (EOf g W n) σ H Q :=
  eof_mono (aof_cons (eof_opN hf h)) fun x H1 h => aof1 h fun y H2 h => h
theorem eof1 {m : M} {r : V → Hp → VK → Prop} {f : Env → List Op → R Op} {Q : VK} (hf : OpN g (r1N r) f) (h : EOf g W (m1 f m) σ H Q) : tUn r (EOf g W m) σ H Q :=
  aof1 (eof_opN hf h) fun y H2 h => h
theorem de_bin {a b : Expr} {op : Operator} {pos : Pos} {r : R2} {m n : M} {f : Env → List Op → R Op} (ho : OpR X (binaryOp op) r) (hf : OpN g (r2N r) f) (ha : DE X g a m) (hb : DE X g b n) : DE X g (.BinOp a op b pos) (m2 f m n) :=
  fun W tk => pe_imp (pe_op ho (ha W tk) (hb W tk)) fun _ _ _ h => eof2 hf h
theorem de_un {a : Expr} {op : UnaryOp} {pos : Pos} {r : V → Hp → VK → Prop} {m : M} {f : Env → List Op → R Op} (ho : UnR X (unaryOp op) r) (hf : OpN g (r1N r) f) (ha : DE X g a m) : DE X g (.UnaryOp op a pos) (m1 f m) :=
  fun W tk => pe_imp (pe_un ho (ha W tk)) fun _ _ _ h => eof1 hf h
theorem de_cmp {a b : Expr} {op : CmpOp} {pos : Pos} {r : R2} {m n : M} {f : Env → List Op → R Op} (ho : OpR X (compareOp op) r) (hf : OpN g (r2N r) f) (ha : DE X g a m) (hb : DE X g b n) (hm : behindInMarks op b = false := by first | exact nomark _ | with_unfolding_all rfl) : DE X g (.Compare a [op] [b] pos) (m2 f m n) :=
  fun W tk => pe_imp (pe_cmpR ho (ha W tk) (hb W tk) hm) fun _ _ _ h => eof2 hf h
theorem de_ix {a b : Expr} {pos : Pos} {r : R2} {m n : M} {f : Env → List Op → R Op} (hr : IxR X r) (hf : OpN g (r2N r) f) (ha : DE X g a m) (hb : DE X g b n) (hs : PlainIx b := by exact fun _ _ => rfl) : DE X g (.Subscript a b pos) (m2 f m n) :=
  fun W tk => pe_imp (pe_ix hr (ha W tk) (hb W tk) hs) fun _ _ _ h => eof2 hf h
theorem de_callB {x : Str} {id : String} {e : Expr} {es : List Expr} {p pos : Pos} {r : List V → Hp → VK → Prop} {f : Env → List Op → R Op} {ms : Env → R (List Op)} (hc : CallR X (.builtin id) r) (hf : OpN g (rBN r) f) (hm : X.mg x = none) (hv : bootBuiltins x = some (.builtin id)) (ha : DA X g (e :: es) ms)
    (hg : Gl X x := by rfl) (hn : x ≠ "__name__" := by decide) (hdb : (x == ("__debug__" : Str)) = false := by decide)
    (he : starEach (e :: es) X.env = (false, eval e X.env) :: starEach es X.env := by rfl) (hpl : (backTo pos (starEach es X.env)).any (·.1) = false := by rfl) : DE X g (.Call (.Name x p) (e :: es) [] pos) (mOpN f ms) :=
  fun W tk => pe_imp (pe_callB hc hg hm hv (ha W tk) hn hdb he hpl) fun _ _ _ h => eof_opN hf h
theorem de_callTy {x : Str} {T : String} {e : Expr} {es : List Expr} {p pos : Pos} {r : List V → Hp → VK → Prop} {f : Env → List Op → R Op} {ms : Env → R (List Op)} (hc : CallR X (.type T) r) (hf : OpN g (rBN r) f) (hm : X.mg x = none) (hv : bootBuiltins x = some (.type T)) (ha : DA X g (e :: es) ms)
    (hg : Gl X x := by rfl) (hn : x ≠ "__name__" := by decide) (hdb : (x == ("__debug__" : Str)) = false := by decide)
    (he : starEach (e :: es) X.env = (false, eval e X.env) :: starEach es X.env := by rfl) (hpl : (backTo pos (starEach es X.env)).any (·.1) = false := by rfl) : DE X g (.Call (.Name x p) (e :: es) [] pos) (mOpN f ms) :=
  fun W tk => pe_imp (pe_callTy hc hg hm hv (ha W tk) hn hdb he hpl) fun _ _ _ h => eof_opN hf h
/-! ### what an operand is -/
theorem pick_own {α : Type} [DecidableEq α] {g : G} {F H : Hp} : ∀ {ks : List α} {vs : List V} {ts : List T} {fp : List Addr} {k : α} {t : T}, OwnL g F H vs ts fp → pick ks ts k = some t →
    ∃ v f, pick ks vs k = some v ∧ Own g F H v t f ∧ ∀ a ∈ f, a ∈ fp
  | [], _, _, _, _, _, _, e => by simp [pick] at e
  | _ :: _, _, _, _, _, _, .nil, e => by simp [pick] at e
  | k' :: ks, _, _, _, k, t, .cons (fp := fp) (fq := fq) h q, e => by
    unfold pick at e ⊢
    by_cases hk : k' = k
    · rw [if_pos hk] at e ⊢
      have e := Option.some.inj e
      subst e
      exact ⟨_, fp, rfl, h, fun a ha => List.mem_append_left _ ha⟩
    · rw [if_neg hk] at e ⊢
      obtain ⟨v, f, h1, h2, h3⟩ := pick_own q e
      exact ⟨v, f, h1, h2, fun a ha => List.mem_append_right _ (h3 a ha)⟩
theorem OwnL.get : ∀ {vs : List V} {ts : List T} {fp : List Addr} {i : Nat} {t : T}, OwnL g F H vs ts fp → ts[i]? = some t → ∃ v f, vs[i]? = some v ∧ Own g F H v t f ∧ ∀ a ∈ f, a ∈ fp
  | _, _, _, _, _, .nil, e => by simp at e
  | _, _, _, 0, _, .cons (fp := fp) h _, e => by
    simp at e
    subst e
    exact ⟨_, fp, rfl, h, fun a ha => List.mem_append_left _ ha⟩
  | _, _, _, i + 1, t, .cons h q, e => by
    obtain ⟨v, f, h1, h2, h3⟩ := OwnL.get (i := i) q (by simpa using e)
    exact ⟨v, f, by simpa using h1, h2, fun a ha => List.mem_append_right _ (h3 a ha)⟩
/-- the tree at the end of a way -/
theorem Way.own : ∀ {p : List Sel} {t0 t : T} {v0 v : V} {f0 as : List Addr}, Way H v0 p as v → Own g F H v0 t0 f0 → T.at t0 p = some t → ∃ f, Own g F H v t f ∧ ∀ a ∈ f, a ∈ f0
  | [], t0, t, _, _, f0, _, .nil, o, e => by
    have e := Option.some.inj (show some t0 = some t from e)
    subst e
    exact ⟨f0, o, fun _ z => z⟩
  | s :: p, t0, t, _, v, f0, _, w, o, e => by
    obtain ⟨y, hy, e2⟩ := Option.bind_eq_some_iff.mp (show (T.sub t0 s).bind (fun y => T.at y p) = some t from e)
    clear e
    cases w with
    | lst h hx w =>
      cases o with
      | l h' q =>
        rw [h] at h'
        cases h'
        obtain ⟨v1, f1, h1, h2, h3⟩ := q.get (show _ = some y from hy)
        rw [hx] at h1
        cases h1
        obtain ⟨f, h4, h5⟩ := w.own h2 e2
        exact ⟨f, h4, fun a ha => List.mem_cons_of_mem _ (h3 a (h5 a ha))⟩
      | t h' q => rw [h] at h'; cases h'
      | k h' _ q => rw [h] at h'; cases h'
      | o h' _ q => rw [h] at h'; cases h'
      | d _ => cases hy
      | v => cases hy
      | h => cases hy
      | scr => cases hy
    | tup h hx w =>
      cases o with
      | t h' q =>
        rw [h] at h'
        cases h'
        obtain ⟨v1, f1, h1, h2, h3⟩ := q.get (show _ = some y from hy)
        rw [hx] at h1
        cases h1
        obtain ⟨f, h4, h5⟩ := w.own h2 e2
        exact ⟨f, h4, fun a ha => List.mem_cons_of_mem _ (h3 a (h5 a ha))⟩
      | l h' q => rw [h] at h'; cases h'
      | k h' _ q => rw [h] at h'; cases h'
      | o h' _ q => rw [h] at h'; cases h'
      | d _ => cases hy
      | v => cases hy
      | h => cases hy
      | scr => cases hy
    | @key a kvs k x _ _ as h hx w =>
      cases o with
      | k h' z q =>
        rw [h] at h'
        cases h'
        subst z
        obtain ⟨v1, f1, h1, h2, h3⟩ := pick_own q (show _ = some y from hy)
        rw [hx] at h1
        cases h1
        obtain ⟨f, h4, h5⟩ := w.own h2 e2
        exact ⟨f, h4, fun a ha => List.mem_cons_of_mem _ (h3 a (h5 a ha))⟩
      | l h' q => rw [h] at h'; cases h'
      | t h' q => rw [h] at h'; cases h'
      | o h' _ q => rw [h] at h'; cases h'
      | d _ => cases hy
      | v => cases hy
      | h => cases hy
      | scr => cases hy
    | @fld a C dx fs k x _ _ as h hx w =>
      cases o with
      | o h' z q =>
        rw [h] at h'
        cases h'
        subst z
        obtain ⟨v1, f1, h1, h2, h3⟩ := pick_own q (show _ = some y from hy)
        rw [hx] at h1
        cases h1
        obtain ⟨f, h4, h5⟩ := w.own h2 e2
        exact ⟨f, h4, fun a ha => List.mem_cons_of_mem _ (h3 a (h5 a ha))⟩
      | l h' q => rw [h] at h'; cases h'
      | t h' q => rw [h] at h'; cases h'
      | k h' _ q => rw [h] at h'; cases h'
      | d _ => cases hy
      | v => cases hy
      | h => cases hy
      | scr => cases hy
theorem Opn.own {o : Op} {v : V} {t : T} (st : Sta g F H σ ρ fp) (h : Opn g F H σ fp o v fq) (e : look ρ o = some t) : ∃ f, Own g F H v t f ∧ ∀ a ∈ f, a ∈ fq ++ fp := by
  cases o with
  | tm t' =>
    have e := Option.some.inj (show some t' = some t from e)
    subst e
    exact ⟨fq, h, fun a ha => List.mem_append_left _ ha⟩
  | pl i p =>
    obtain ⟨rfl, v0, as, h1, h2, h3⟩ := h
    unfold look at e
    dsimp only at e
    split at e
    · rename_i t0 e0
      obtain ⟨v', f0, f1, f2, k1, k2, rfl, _⟩ := st.own.get e0
      rw [h1] at k1
      cases k1
      obtain ⟨f, h4, h5⟩ := h2.own k2 e
      exact ⟨f, h4, fun a ha => by simp [h5 a ha]⟩
    · cases e
def vw (ρ : Env) (o : Op) : Option PyData := (look ρ o).bind T.fz
def vws (ρ : Env) : List Op → Option (List PyData)
  | [] => some []
  | o :: os => match vw ρ o, vws ρ os with
    | some x, some xs => some (x :: xs)
    | _, _ => none
theorem Opn.is {o : Op} {v : V} {x : PyData} (st : Sta g F H σ ρ fp) (h : Opn g F H σ fp o v fq) (e : vw ρ o = some x) : Is g.K H v x := by
  obtain ⟨t, h1, h2⟩ := Option.bind_eq_some_iff.mp e
  obtain ⟨f, h3, _⟩ := h.own st h1
  exact h3.view st.le h2
theorem OpnL.is (st : Sta g F H σ ρ fp) : ∀ {os : List Op} {vs : List V} {fq : List Addr} {xs : List PyData}, OpnL g F H σ fp os vs fq → vws ρ os = some xs → IsAll g.K H vs xs
  | _, _, _, _, .nil, e => by
    have e := Option.some.inj (show some [] = some _ from e)
    subst e
    exact .nil
  | _, _, _, xs, .cons (o := o) (os := os) h q, e => by
    have e : (match vw ρ o, vws ρ os with | some x, some xs => some (x :: xs) | _, _ => none) = some xs := e
    split at e
    · rename_i y ys e1 e2
      have e := Option.some.inj e
      subst e
      exact .cons (h.is st e1) (OpnL.is st q e2)
    · cases e
/-- an operation over data that gives a value without a heap -/
def fD (h : List PyData → Option PyData) : Env → List Op → R Op := fun ρ os => match vws ρ os with
  | some xs => (match h xs with
    | some x => .ok (.tm (.d x)) ρ true
    | none => .bad)
  | none => .bad
theorem opN_fD {r : RN} {h : List PyData → Option PyData} (k : ∀ W σ H vs xs x Q, IsAll g.K H vs xs → h xs = some x → (∀ v, (∀ F, Is g.K F v x) → Q v H) → r W σ vs H Q) : OpN g r (fD h) := by
  intro W σ F H ρ fp fq os vs Q st op nd ho q
  unfold fD at q
  split at q
  · rename_i xs e
    split at q
    · rename_i x e2
      exact k W σ H vs xs x Q (op.is st e) e2 fun v hv => q.val st (fun a ha => List.mem_append_right _ ha) (.d (hv F))
    · exact q.elim
  · exact q.elim
end
end MV
/-! MvD: a tree changed at a way, sharing (freezing), tests, small statements. -/
namespace MV
open PySem L2
def T.putS : T → Sel → T → Option T
  | .l xs, .ix j, y => if j < xs.length then some (.l (xs.set j y)) else none
  | .t xs, .ix j, y => if j < xs.length then some (.t (xs.set j y)) else none
  | .k ks xs, .key a, y => (ks.findIdx? (fun k => decide (k = a))).map fun j => .k ks (xs.set j y)
  | .o c fs xs, .fld f, y => (fs.findIdx? (fun k => decide (k = f))).map fun j => .o c fs (xs.set j y)
  | _, _, _ => none
def T.put : T → List Sel → T → Option T
  | _, [], y => some y
  | x, s :: p, y => (T.sub x s).bind fun z => (T.put z p y).bind fun z' => T.putS x s z'
section
variable {g : G} {F F' F1 F2 H H' H1 H2 : Hp} {σ : St} {ρ ρ1 : Env} {fp fq fs fp1 fp2 fq1 fq2 : List Addr} {W : WX} {X : Cx}
theorem OwnL.split : ∀ {vs : List V} {ts : List T} {fp : List Addr} {i : Nat} {t : T}, OwnL g F H vs ts fp → ts[i]? = some t → ∃ v f0 f1 f2, vs[i]? = some v ∧ Own g F H v t f1 ∧ fp = f0 ++ f1 ++ f2 ∧
    ∀ (F' H' : Hp) (v' : V) (t' : T) (f' : List Addr), Le F F' → (∀ a ∈ f0 ++ f2, ∀ o, H a = some o → H' a = some o) → Own g F' H' v' t' f' → OwnL g F' H' (vs.set i v') (ts.set i t') (f0 ++ f' ++ f2)
  | _, _, _, _, _, .nil, e => by simp at e
  | _, _, _, 0, _, .cons (fp := fp) (fq := fq) h q, e => by
    simp at e
    subst e
    refine ⟨_, [], fp, fq, rfl, h, by simp, fun F' H' v' t' f' l k hu => ?_⟩
    simp only [List.set_cons_zero, List.nil_append]
    exact .cons hu (q.keep l fun a ha => k a (by simpa using ha))
  | _, _, _, i + 1, t, .cons (fp := fp) (fq := fq) h q, e => by
    obtain ⟨v, f0, f1, f2, h1, h2, h3, h4⟩ := OwnL.split (i := i) q (by simpa using e)
    refine ⟨v, fp ++ f0, f1, f2, by simpa using h1, h2, by simp [h3], fun F' H' v' t' f' l k hu => ?_⟩
    simp only [List.set_cons_succ]
    have q4 := h4 F' H' v' t' f' l (fun a ha => k a (by simp only [List.mem_append] at ha ⊢; rcases ha with ha | ha; exact .inl (.inr ha); exact .inr ha)) hu
    have h' : Own g F' H' _ _ fp := h.keep l fun a ha => k a (by simp [ha])
    rw [List.append_assoc, List.append_assoc, ← List.append_assoc f0]
    exact .cons h' q4
theorem pick_at {α : Type} [DecidableEq α] : ∀ {ks : List α} {ts : List T} {k : α} {t : T}, pick ks ts k = some t → ∃ j, ks.findIdx? (fun x => decide (x = k)) = some j ∧ ts[j]? = some t ∧ ∀ {β : Type} (vs : List β), vs.length = ts.length → pick ks vs k = vs[j]?
  | [], _, _, _, e => by simp [pick] at e
  | _ :: _, [], _, _, e => by simp [pick] at e
  | k' :: ks, t' :: ts, k, t, e => by
    unfold pick at e
    by_cases hk : k' = k
    · rw [if_pos hk] at e
      have e := Option.some.inj e
      subst e
      refine ⟨0, by simp [List.findIdx?_cons, hk], rfl, fun vs hl => ?_⟩
      cases vs with
      | nil => simp at hl
      | cons v vs => simp [pick, hk]
    · rw [if_neg hk] at e
      obtain ⟨j, h1, h2, h3⟩ := pick_at e
      refine ⟨j + 1, by simp [List.findIdx?_cons, hk, h1], by simpa using h2, fun vs hl => ?_⟩
      cases vs with
      | nil => simp at hl
      | cons v vs =>
        have := h3 vs (by simpa using hl)
        simp [pick, hk, this]
/-- the tree at the end of a way is changed, its value stays -/
theorem Way.put : ∀ {p : List Sel} {t0 t : T} {v0 v : V} {f0 as : List Addr}, Way H v0 p as v → Own g F H v0 t0 f0 → T.at t0 p = some t → ∃ f1 fm f2, f0 = f1 ++ fm ++ f2 ∧ Own g F H v t fm ∧
    ∀ (F' H' : Hp) (t' : T) (fm' : List Addr), Le F F' → (∀ a ∈ f1 ++ f2, ∀ o, H a = some o → H' a = some o) → Own g F' H' v t' fm' → ∃ t0', T.put t0 p t' = some t0' ∧ Own g F' H' v0 t0' (f1 ++ fm' ++ f2)
  | [], t0, t, _, _, f0, _, .nil, o, e => by
    have e := Option.some.inj (show some t0 = some t from e)
    subst e
    exact ⟨[], f0, [], by simp, o, fun F' H' t' fm' l k h => ⟨t', rfl, by simpa using h⟩⟩
  | s :: p, t0, t, _, v, f0, _, w, o, e => by
    obtain ⟨y, hy, e2⟩ := Option.bind_eq_some_iff.mp (show (T.sub t0 s).bind (fun y => T.at y p) = some t from e)
    clear e
    have bnd : ∀ {t' y' z : T}, T.put y p t' = some y' → T.putS t0 s y' = some z → T.put t0 (s :: p) t' = some z := fun {t' y' z} h1 h2 => by
      show ((T.sub t0 s).bind fun z => (T.put z p t').bind fun z' => T.putS t0 s z') = some z
      rw [hy]
      show ((T.put y p t').bind fun z' => T.putS t0 s z') = some z
      rw [h1]
      exact h2
    cases w with
    | @lst a xs j x _ _ as h hx w =>
      cases o with
      | @l _ vs ts fp h' q =>
        rw [h] at h'
        cases h'
        have hy' : ts[j]? = some y := hy
        obtain ⟨v1, g0, g1, g2, h1, h2, rfl, h4⟩ := q.split hy'
        rw [hx] at h1
        cases h1
        obtain ⟨f1, fm, f2, rfl, h6, h7⟩ := w.put h2 e2
        refine ⟨a :: (g0 ++ f1), fm, f2 ++ g2, by simp, h6, fun F' H' t' fm' l k hu => ?_⟩
        obtain ⟨y', h8, h9⟩ := h7 F' H' t' fm' l (fun b hb => k b (by simp only [List.mem_append, List.mem_cons] at hb ⊢; rcases hb with hb | hb <;> simp [hb])) hu
        refine ⟨_, bnd h8 (if_pos (List.getElem?_eq_some_iff.mp hy').1), ?_⟩
        have q' := h4 F' H' x y' _ l (fun b hb => k b (by simp only [List.mem_append, List.mem_cons] at hb ⊢; rcases hb with hb | hb <;> simp [hb])) h9
        have ex : xs.set j x = xs := List.ext_getElem? fun i => by
          by_cases hi : j = i
          · subst hi
            have hl : j < xs.length := (List.getElem?_eq_some_iff.mp hx).1
            rw [List.getElem?_set_self hl, hx]
          · rw [List.getElem?_set_ne hi]
        rw [ex] at q'
        have := Own.l (k a (by simp) _ h) q'
        simpa [List.append_assoc] using this
      | t h' q => rw [h] at h'; cases h'
      | k h' _ q => rw [h] at h'; cases h'
      | o h' _ q => rw [h] at h'; cases h'
      | d _ => cases hy
      | v => cases hy
      | h => cases hy
      | scr => cases hy
    | @tup a xs j x _ _ as h hx w =>
      cases o with
      | @t _ vs ts fp h' q =>
        rw [h] at h'
        cases h'
        have hy' : ts[j]? = some y := hy
        obtain ⟨v1, g0, g1, g2, h1, h2, rfl, h4⟩ := q.split hy'
        rw [hx] at h1
        cases h1
        obtain ⟨f1, fm, f2, rfl, h6, h7⟩ := w.put h2 e2
        refine ⟨a :: (g0 ++ f1), fm, f2 ++ g2, by simp, h6, fun F' H' t' fm' l k hu => ?_⟩
        obtain ⟨y', h8, h9⟩ := h7 F' H' t' fm' l (fun b hb => k b (by simp only [List.mem_append, List.mem_cons] at hb ⊢; rcases hb with hb | hb <;> simp [hb])) hu
        refine ⟨_, bnd h8 (if_pos (List.getElem?_eq_some_iff.mp hy').1), ?_⟩
        have q' := h4 F' H' x y' _ l (fun b hb => k b (by simp only [List.mem_append, List.mem_cons] at hb ⊢; rcases hb with hb | hb <;> simp [hb])) h9
        have ex : xs.set j x = xs := List.ext_getElem? fun i => by
          by_cases hi : j = i
          · subst hi
            have hl : j < xs.length := (List.getElem?_eq_some_iff.mp hx).1
            rw [List.getElem?_set_self hl, hx]
          · rw [List.getElem?_set_ne hi]
        rw [ex] at q'
        have := Own.t (k a (by simp) _ h) q'
        simpa [List.append_assoc] using this
      | l h' q => rw [h] at h'; cases h'
      | k h' _ q => rw [h] at h'; cases h'
      | o h' _ q => rw [h] at h'; cases h'
      | d _ => cases hy
      | v => cases hy
      | h => cases hy
      | scr => cases hy
    | @key a kvs kk x _ _ as h hx w =>
      cases o with
      | @k _ kvs' ks ts fp h' z q =>
        rw [h] at h'
        cases h'
        subst z
        have hy' : pick (kvs.map (·.1)) ts kk = some y := hy
        obtain ⟨j, p1, p2, p3⟩ := pick_at hy'
        have hxj : (kvs.map (·.2))[j]? = some x := (p3 (kvs.map (·.2)) q.length).symm.trans hx
        obtain ⟨v1, g0, g1, g2, h1, h2, rfl, h4⟩ := q.split p2
        rw [hxj] at h1
        cases h1
        obtain ⟨f1, fm, f2, rfl, h6, h7⟩ := w.put h2 e2
        refine ⟨a :: (g0 ++ f1), fm, f2 ++ g2, by simp, h6, fun F' H' t' fm' l k hu => ?_⟩
        obtain ⟨y', h8, h9⟩ := h7 F' H' t' fm' l (fun b hb => k b (by simp only [List.mem_append, List.mem_cons] at hb ⊢; rcases hb with hb | hb <;> simp [hb])) hu
        refine ⟨.k (kvs.map (·.1)) (ts.set j y'), bnd h8 (by show (List.findIdx? _ _).map _ = _; rw [p1]; rfl), ?_⟩
        have q' := h4 F' H' x y' _ l (fun b hb => k b (by simp only [List.mem_append, List.mem_cons] at hb ⊢; rcases hb with hb | hb <;> simp [hb])) h9
        have ex : (kvs.map (·.2)).set j x = kvs.map (·.2) := List.ext_getElem? fun i => by
          by_cases hi : j = i
          · subst hi
            have hl : j < (kvs.map (·.2)).length := (List.getElem?_eq_some_iff.mp hxj).1
            rw [List.getElem?_set_self hl, hxj]
          · rw [List.getElem?_set_ne hi]
        rw [ex] at q'
        have := Own.k (k a (by simp) _ h) rfl q'
        simpa [List.append_assoc] using this
      | l h' q => rw [h] at h'; cases h'
      | t h' q => rw [h] at h'; cases h'
      | o h' _ q => rw [h] at h'; cases h'
      | d _ => cases hy
      | v => cases hy
      | h => cases hy
      | scr => cases hy
    | @fld a C dx fs kk x _ _ as h hx w =>
      cases o with
      | @o _ dx' c fs' ks ts fp h' z q =>
        rw [h] at h'
        cases h'
        subst z
        have hy' : pick (fs.map (·.1)) ts kk = some y := hy
        obtain ⟨j, p1, p2, p3⟩ := pick_at hy'
        have hxj : (fs.map (·.2))[j]? = some x := (p3 (fs.map (·.2)) q.length).symm.trans hx
        obtain ⟨v1, g0, g1, g2, h1, h2, rfl, h4⟩ := q.split p2
        rw [hxj] at h1
        cases h1
        obtain ⟨f1, fm, f2, rfl, h6, h7⟩ := w.put h2 e2
        refine ⟨a :: (g0 ++ f1), fm, f2 ++ g2, by simp, h6, fun F' H' t' fm' l k hu => ?_⟩
        obtain ⟨y', h8, h9⟩ := h7 F' H' t' fm' l (fun b hb => k b (by simp only [List.mem_append, List.mem_cons] at hb ⊢; rcases hb with hb | hb <;> simp [hb])) hu
        refine ⟨.o c (fs.map (·.1)) (ts.set j y'), bnd h8 (by show (List.findIdx? _ _).map _ = _; rw [p1]; rfl), ?_⟩
        have q' := h4 F' H' x y' _ l (fun b hb => k b (by simp only [List.mem_append, List.mem_cons] at hb ⊢; rcases hb with hb | hb <;> simp [hb])) h9
        have ex : (fs.map (·.2)).set j x = fs.map (·.2) := List.ext_getElem? fun i => by
          by_cases hi : j = i
          · subst hi
            have hl : j < (fs.map (·.2)).length := (List.getElem?_eq_some_iff.mp hxj).1
            rw [List.getElem?_set_self hl, hxj]
          · rw [List.getElem?_set_ne hi]
        rw [ex] at q'
        have := Own.o (k a (by simp) _ h) rfl q'
        simpa [List.append_assoc] using this
      | l h' q => rw [h] at h'; cases h'
      | t h' q => rw [h] at h'; cases h'
      | k h' _ q => rw [h] at h'; cases h'
      | d _ => cases hy
      | v => cases hy
      | h => cases hy
      | scr => cases hy
/-- a place: its slot, its tree, and the state with another tree there -/
theorem Sta.place (st : Sta g F H σ ρ fp) {i : Nat} {p : List Sel} {v0 v : V} {as : List Addr} {t0 t : T} (hv : σ[i]? = some (some v0)) (w : Way H v0 p as v) (e0 : ρ[i]? = some (some t0)) (e : T.at t0 p = some t) :
    ∃ f1 fm f2, fp = f1 ++ fm ++ f2 ∧ Own g F H v t fm ∧ ∀ (F' H' : Hp) (t' : T) (fm' : List Addr), Le F F' → (∀ a ∈ f1 ++ f2, ∀ o, H a = some o → H' a = some o) → Own g F' H' v t' fm' →
      ∃ t0', T.put t0 p t' = some t0' ∧ OwnS g F' H' σ (ρ.set i (some t0')) (f1 ++ fm' ++ f2) := by
  obtain ⟨v', f0, f1, f2, k1, k2, rfl, k4⟩ := st.own.get e0
  rw [hv] at k1
  cases k1
  obtain ⟨g1, gm, g2, rfl, h2, h3⟩ := w.put k2 e
  refine ⟨f0 ++ g1, gm, g2 ++ f2, by simp, h2, fun F' H' t' fm' l k hu => ?_⟩
  obtain ⟨t0', h4, h5⟩ := h3 F' H' t' fm' l (fun a ha => k a (by simp only [List.mem_append] at ha ⊢; rcases ha with ha | ha <;> simp [ha])) hu
  refine ⟨t0', h4, ?_⟩
  have q := k4 F' H' v0 (some t0') (g1 ++ fm' ++ g2) l (fun a ha => k a (by simp only [List.mem_append] at ha ⊢; rcases ha with ha | ha <;> simp [ha])) (fun u hu => by cases hu; exact h5) (fun z => by cases z)
  have es : σ.set i (some v0) = σ := List.ext_getElem? fun j => by
    by_cases hi : i = j
    · subst hi
      have hl : i < σ.length := (List.getElem?_eq_some_iff.mp hv).1
      rw [List.getElem?_set_self hl, hv]
    · rw [List.getElem?_set_ne hi]
  rw [es] at q
  simpa [List.append_assoc] using q
/-! ### sharing -/
/-- the frozen part, with what stands at fm -/
def frz (F H : Hp) (fm : List Addr) : Hp := fun a => if a ∈ fm then H a else F a
theorem frz_le {fm : List Addr} (ho : ∀ a ∈ fm, F a = none) : Le F (frz F H fm) := fun a o e => by
  unfold frz
  by_cases h : a ∈ fm
  · rw [ho a h] at e; cases e
  · rw [if_neg h]; exact e
theorem frz_leH {fm : List Addr} (le : Le F H) : Le (frz F H fm) H := fun a o e => by
  unfold frz at e
  by_cases h : a ∈ fm
  · rw [if_pos h] at e; exact e
  · rw [if_neg h] at e; exact le a o e
theorem Own.frz {v : V} {t : T} {fm : List Addr} {x : PyData} (ho : ∀ a ∈ fm, F a = none) (h : Own g F H v t fm) (e : T.fz t = some x) : Is g.K (frz F H fm) v x := h.is (frz_le ho) e fun a ha o q => by
  unfold MV.frz
  rw [if_pos ha]
  exact q
theorem stp_frz {fm : List Addr} (ho : ∀ a ∈ fm, F a = none) (hs : ∀ a ∈ fm, a ∈ fs) (h : ∀ a ∈ fq, a ∈ fs) : Stp F H fs (frz F H fm) H fq :=
  ⟨frz_le ho, fun _ _ e _ => e, fun _ e => e, fun a ha => .inl (h a ha), fun a o e => by
    by_cases ha : a ∈ fm
    · exact .inr (.inl (hs a ha))
    · unfold frz at e
      rw [if_neg ha] at e
      exact .inl ⟨o, e⟩⟩
theorem frz_out {fm : List Addr} (ho : ∀ a ∈ fq, F a = none) (dj : ∀ a ∈ fq, a ∉ fm) : ∀ a ∈ fq, frz F H fm a = none := fun a ha => by
  unfold frz
  rw [if_neg (dj a ha)]
  exact ho a ha
/-- what is made of an operand when it is handed on: shared (b: also what is in hand) -/
def share (b : Bool) (ρ : Env) : Op → R Op
  | .tm t => if b = true then (match T.fz t with
    | some x => .ok (.tm (.d x)) ρ true
    | none => .ok (.tm t) ρ true) else .ok (.tm t) ρ true
  | .pl i p => match ρ[i]? with
    | some (some t0) => (match T.at t0 p with
      | some (.d x) => .ok (.tm (.d x)) ρ true
      | some (.v x) => .ok (.tm (.v x)) ρ true
      | some t => (match T.fz t, (T.fz t).bind fun x => T.put t0 p (.d x) with
        | some x, some t0' => .ok (.tm (.d x)) (ρ.set i (some t0')) false
        | _, _ => .bad)
      | none => .bad)
    | _ => .bad
theorem share_ok {b : Bool} {o : Op} {v : V} {Q : VK} (st : Sta g F H σ ρ fp) (h : Opn g F H σ fp o v fq) (nd : (fq ++ fp).Nodup) (ho : ∀ a ∈ fq, F a = none) (q : Out g W σ F H (fq ++ fp) fp ρ (share b ρ o) Q) : Q v H := by
  cases o with
  | tm t =>
    have keep : Out g W σ F H (fq ++ fp) fp ρ (.ok (.tm t) ρ true) Q → Q v H := fun q => q v F H fq fp (Stp.refl fun a ha => ha) nd ho st h fun _ => pure_refl
    unfold share at q
    cases b with
    | false => exact keep q
    | true =>
      dsimp only at q
      rw [if_pos rfl] at q
      cases e : T.fz t with
      | none => rw [e] at q; exact keep q
      | some x =>
        rw [e] at q
        have h : Own g F H v t fq := h
        have dj : ∀ a ∈ fp, a ∉ fq := fun a ha hb => (List.nodup_append.mp nd).2.2 a hb a ha rfl
        have st' : Sta g (frz F H fq) H σ ρ fp := ⟨frz_leH st.le, st.own.keep (frz_le ho) fun _ _ _ z => z, st.nd, frz_out st.out dj⟩
        exact q v (frz F H fq) H [] fp (stp_frz ho (fun a ha => List.mem_append_left _ ha) fun a ha => List.mem_append_right _ (by simpa using ha)) (by simpa using st.nd) (fun _ z => nomatch z) st' (.d (h.frz ho e)) fun _ => pure_refl
  | pl i p =>
    obtain ⟨rfl, v0, as, h1, h2, h3⟩ := h
    unfold share at q
    dsimp only at q
    cases e0 : ρ[i]? with
    | none => rw [e0] at q; exact q.elim
    | some o0 =>
      cases o0 with
      | none => rw [e0] at q; exact q.elim
      | some t0 =>
        rw [e0] at q
        dsimp only at q
        cases e : T.at t0 p with
        | none => rw [e] at q; exact q.elim
        | some t =>
          rw [e] at q
          obtain ⟨f1, fm, f2, rfl, h4, h5⟩ := st.place h1 h2 e0 e
          have hm : ∀ a ∈ fm, F a = none := fun a ha => st.out a (by simp [ha])
          have main : (match T.fz t, (T.fz t).bind fun x => T.put t0 p (.d x) with | some x, some t0' => Out g W σ F H ([] ++ (f1 ++ fm ++ f2)) (f1 ++ fm ++ f2) ρ (R.ok (Op.tm (.d x)) (ρ.set i (some t0')) false) Q | _, _ => False) → Q v H := fun q => by
            cases ex : T.fz t with
            | none => rw [ex] at q; exact q.elim
            | some x =>
              rw [ex] at q
              have is := h4.frz hm ex
              obtain ⟨t0', h6, h7⟩ := h5 (frz F H fm) H (.d x) [] (frz_le hm) (fun _ _ _ z => z) (.d is)
              dsimp only [Option.bind_some] at q
              rw [h6] at q
              have nd' := st.nd
              rw [List.append_assoc] at nd'
              have n1 := List.nodup_append.mp nd'
              have n2 := List.nodup_append.mp n1.2.1
              have st' : Sta g (frz F H fm) H σ (ρ.set i (some t0')) (f1 ++ [] ++ f2) := ⟨frz_leH st.le, h7, by
                simp only [List.append_nil]
                exact List.nodup_append.mpr ⟨n1.1, n2.2.1, fun a ha b hb => n1.2.2 a ha b (List.mem_append_right _ hb)⟩, frz_out (fun a ha => st.out a (by simp at ha ⊢; rcases ha with ha | ha <;> simp [ha])) fun a ha hb => by
                simp only [List.append_nil, List.mem_append] at ha
                rcases ha with ha | ha
                · exact n1.2.2 a ha a (List.mem_append_left _ hb) rfl
                · exact n2.2.2 a hb a ha rfl⟩
              exact q v (frz F H fm) H [] (f1 ++ [] ++ f2) (stp_frz hm (fun a ha => by simp [ha]) fun a ha => by simp at ha ⊢; rcases ha with ha | ha <;> simp [ha]) (by simpa using st'.nd) (fun _ z => nomatch z) st' (.d is) fun z => by cases z
          cases t with
          | d x =>
            cases h4 with
            | d is => exact q.val st (fun a ha => by simpa using ha) (.d is)
          | v x =>
            cases h4 with
            | v => exact q.val st (fun a ha => by simpa using ha) .v
          | h => exact q.elim
          | scr _ => exact q.elim
          | l xs => exact main (by
              revert q
              dsimp only
              cases T.fz (.l xs) with
              | none => exact id
              | some x => cases (some x).bind fun x => T.put t0 p (.d x) <;> exact id)
          | t xs => exact main (by
              revert q
              dsimp only
              cases T.fz (.t xs) with
              | none => exact id
              | some x => cases (some x).bind fun x => T.put t0 p (.d x) <;> exact id)
          | k ks xs => exact main (by
              revert q
              dsimp only
              cases T.fz (.k ks xs) with
              | none => exact id
              | some x => cases (some x).bind fun x => T.put t0 p (.d x) <;> exact id)
          | o c fs xs => exact main (by
              revert q
              dsimp only
              cases T.fz (.o c fs xs) with
              | none => exact id
              | some x => cases (some x).bind fun x => T.put t0 p (.d x) <;> exact id)
def mSh (b : Bool) (m : M) : M := fun ρ => match m ρ with
  | .ok o ρ1 p => (match share b ρ1 o with
    | .ok o' ρ2 q => .ok o' ρ2 (p && q)
    | .exc c n d ρ' => .exc c n d ρ'
    | .bad => .bad)
  | .exc c n d ρ' => .exc c n d ρ'
  | .bad => .bad
theorem de_sh {e : Expr} {m : M} (b : Bool) (h : DE X g e m) : DE X g e (mSh b m) := fun W tk => pe_imp (h W tk) fun σ H Q h => by
  obtain ⟨F, ρ, fp, st, h⟩ := h
  refine ⟨F, ρ, fp, st, ?_⟩
  unfold mSh at h
  cases hm : m ρ with
  | bad => rw [hm] at h; exact h
  | exc c n d ρ' => rw [hm] at h; exact h
  | ok o ρ1 p =>
    rw [hm] at h
    dsimp only at h
    intro v F1 H1 fq fp1 s1 n1 o1 st1 op1 pu1
    refine share_ok (W := W) (b := b) st1 op1 n1 o1 ?_
    cases hs : share b ρ1 o with
    | bad => rw [hs] at h; exact h
    | exc c n d ρ' =>
      rw [hs] at h
      exact fun d' F2 H2 fp2 s2 st2 ex => h d' F2 H2 fp2 (s1.trans0 s2) st2 ex
    | ok o' ρ2 q =>
      rw [hs] at h
      intro v F2 H2 fq2 fp2 s2 n2 o2 st2 op2 pu2
      refine h v F2 H2 fq2 fp2 (s1.trans0 s2) n2 o2 st2 op2 fun z => ?_
      rw [Bool.and_eq_true] at z
      exact (pu1 z.1).trans (pu2 z.2)
end
end MV
/-! MvE: tests, and the statements that do not loop. -/
namespace MV
open PySem L2
section
variable {g : G} {F F' F1 F2 H H' H1 H2 : Hp} {σ : St} {ρ ρ1 : Env} {fp fq fs fp1 fp2 fq1 fq2 : List Addr} {W : WX} {X : Cx} {P : List Nat}
abbrev MB := Env → R Bool
abbrev MS := Env → R Fl
def tru : T → Option Bool
  | .d .none => some false
  | .d (.bool b) => some b
  | .d (.int i) => some (i != 0)
  | .d (.str x) => if x.length ≤ sizeLine then some ((x.length : Int) != 0) else none
  | .d (.list xs) => some (!xs.isEmpty)
  | .d (.tuple xs) => some (!xs.isEmpty)
  | .l xs => some (!xs.isEmpty)
  | .t xs => some (!xs.isEmpty)
  | .k ks xs => some (!ks.isEmpty)
  | _ => none
theorem isEmpty_of_length {α β : Type} {xs : List α} {ys : List β} (h : xs.length = ys.length) : xs.isEmpty = ys.isEmpty := by
  cases xs <;> cases ys <;> simp at h ⊢
theorem tru_ok {t : T} {v : V} {b : Bool} (le : Le F H) (o : Own g F H v t fq) (e : tru t = some b) : TruV g.K v H b := by
  cases o with
  | d h =>
    cases h with
    | non => have e : some false = some b := e; cases e; exact rfl
    | bl k => have e : some k = some b := e; cases e; exact rfl
    | int i => have e : some (i != 0) = some b := e; cases e; exact rfl
    | str x =>
      have e : (if x.length ≤ sizeLine then some ((x.length : Int) != 0) else none) = some b := e
      split at e
      · rename_i hl
        cases e
        exact ⟨hl, rfl⟩
      · cases e
    | @lst a xs ds h q =>
      have e : some (!ds.isEmpty) = some b := e
      cases e
      exact .inl ⟨xs, SqL.of (le _ _ h), by rw [isEmpty_of_length q.length]⟩
    | @tup a xs ds h q =>
      have e : some (!ds.isEmpty) = some b := e
      cases e
      exact .inr (.inl ⟨xs, sqT_mono le h, by rw [isEmpty_of_length q.length]⟩)
    | dct h q => cases e
  | v => cases e
  | h => cases e
  | scr => cases e
  | @l a vs ts fp h q =>
    have e : some (!ts.isEmpty) = some b := e
    cases e
    exact .inl ⟨vs, SqL.of h, by rw [isEmpty_of_length q.length]⟩
  | @t a vs ts fp h q =>
    have e : some (!ts.isEmpty) = some b := e
    cases e
    exact .inr (.inl ⟨vs, SqT.of h, by rw [isEmpty_of_length q.length]⟩)
  | @k a kvs ks ts fp h z q =>
    have e : some (!ks.isEmpty) = some b := e
    cases e
    exact .inr (.inr ⟨kvs, h, by rw [← z]; simp⟩)
  | o h z q => cases e
/-- an expression as a test, by truth -/
def mTst (m : M) : MB := fun ρ => match m ρ with
  | .ok o ρ1 p => (match (look ρ1 o).bind tru with
    | some b => .ok b ρ1 p
    | none => .bad)
  | .exc c n d ρ' => .exc c n d ρ'
  | .bad => .bad
/-- .. that gives True or False -/
def mTb (m : M) : MB := fun ρ => match m ρ with
  | .ok o ρ1 p => (match look ρ1 o with
    | some (.d (.bool b)) => .ok b ρ1 p
    | _ => .bad)
  | .exc c n d ρ' => .exc c n d ρ'
  | .bad => .bad
theorem bof_tst {m : M} {Q : Bool → Hp → Prop} (h : BOf g W (mTst m) σ H Q) : EOf g W m σ H fun x H' => ∃ k, TruV g.K x H' k ∧ Q k H' := by
  obtain ⟨F, ρ, fp, st, h⟩ := h
  refine ⟨F, ρ, fp, st, ?_⟩
  unfold mTst at h
  cases hm : m ρ with
  | bad => rw [hm] at h; exact h
  | exc c n d ρ' => rw [hm] at h; exact h
  | ok o ρ1 p =>
    rw [hm] at h
    intro v F1 H1 fq fp1 s1 n1 o1 st1 op1 pu1
    dsimp only at h
    cases hl : (look ρ1 o).bind tru with
    | none => rw [hl] at h; exact h.elim
    | some b =>
      rw [hl] at h
      obtain ⟨t, h1, h2⟩ := Option.bind_eq_some_iff.mp hl
      obtain ⟨f, h3, _⟩ := op1.own st1 h1
      exact ⟨b, tru_ok st1.le h3 h2, h F1 H1 fp1 (s1.wid (fun _ z => z) fun a ha => .inl (List.mem_append_right _ ha)) st1 pu1⟩
theorem bof_tb {m : M} {Q : Bool → Hp → Prop} (h : BOf g W (mTb m) σ H Q) : EOf g W m σ H fun x H' => ∃ k, x = .bl k ∧ Q k H' := by
  obtain ⟨F, ρ, fp, st, h⟩ := h
  refine ⟨F, ρ, fp, st, ?_⟩
  unfold mTb at h
  cases hm : m ρ with
  | bad => rw [hm] at h; exact h
  | exc c n d ρ' => rw [hm] at h; exact h
  | ok o ρ1 p =>
    rw [hm] at h
    intro v F1 H1 fq fp1 s1 n1 o1 st1 op1 pu1
    dsimp only at h
    split at h
    · rename_i b hl
      obtain ⟨f, h3, _⟩ := op1.own st1 hl
      cases h3 with
      | d z =>
        cases z
        exact ⟨b, rfl, h F1 H1 fp1 (s1.wid (fun _ z => z) fun a ha => .inl (List.mem_append_right _ ha)) st1 pu1⟩
    · exact h.elim
theorem dt_val {e : Expr} {m : M} (h : DE X g e m) (hK : X.K = g.K := by rfl) (he : ∀ whole, isTrue e X.env whole = (do let v ← whole; standAt e.pos; holding [v] (truthy v)) := by intro _; rfl) : DT X g e (mTst m) :=
  fun W tk => pt_imp (pt_truth (h W tk) he) fun σ H Q q => by rw [hK]; exact bof_tst q
theorem dt_cmp {a b : Expr} {op : CmpOp} {pos : Pos} {r : R2} {m n : M} {f : Env → List Op → R Op} (ho : OpR X (compareOp op) r) (hf : OpN g (r2N r) f) (ha : DE X g a m) (hb : DE X g b n) (hm : behindInMarks op b = false := by first | exact nomark _ | with_unfolding_all rfl) : DT X g (.Compare a [op] [b] pos) (mTb (m2 f m n)) :=
  fun W tk => pt_imp (pt_cmpR ho (ha W tk) (hb W tk) hm) fun _ _ _ h => eof2 hf (bof_tb h)
/-! ### a op b op c -/
def mChain (f f' : Env → List Op → R Op) (a b c : M) : M := fun ρ => match mCons a (mCons b mNil) ρ with
  | .ok os ρ1 p => (match f ρ1 os with
    | .ok (.tm (.d (.bool true))) ρ2 q => (match os with
      | [_, o] => (match mCons c mNil ρ2 with
        | .ok [o'] ρ3 q' => if (o.deep || !q || !q') = true then .bad else (match f' ρ3 [o, o'] with
          | .ok o2 ρ4 q4 => .ok o2 ρ4 (p && q && q' && q4)
          | .exc c n d ρ' => .exc c n d ρ'
          | .bad => .bad)
        | _ => .bad)
      | _ => .bad)
    | .ok (.tm (.d (.bool false))) ρ2 q => .ok (.tm (.d (.bool false))) ρ2 (p && q)
    | _ => .bad)
  | .exc c n d ρ' => .exc c n d ρ'
  | .bad => .bad
/-! ### and, or, not -/
def mAndB (m n : MB) : MB := fun ρ => match m ρ with
  | .ok true ρ1 p => (match n ρ1 with
    | .ok b ρ2 q => .ok b ρ2 (p && q)
    | .exc c n d ρ' => .exc c n d ρ'
    | .bad => .bad)
  | r => r
def mOrB (m n : MB) : MB := fun ρ => match m ρ with
  | .ok false ρ1 p => (match n ρ1 with
    | .ok b ρ2 q => .ok b ρ2 (p && q)
    | .exc c n d ρ' => .exc c n d ρ'
    | .bad => .bad)
  | r => r
def mNotB (m : MB) : MB := fun ρ => match m ρ with
  | .ok b ρ1 p => .ok (!b) ρ1 p
  | r => r
/-- a further outcome behind a step -/
theorem OutB.behind {r : R Bool} {p : Bool} {Q : Bool → Hp → Prop} (s1 : Stp F H fs F1 H1 fp1) (pu : p = true → Pure ρ ρ1 fp fp1 H H1) (h : OutB g W σ F H fs fp ρ (match r with | .ok b ρ2 q => .ok b ρ2 (p && q) | .exc c n d ρ' => .exc c n d ρ' | .bad => .bad) Q) : OutB g W σ F1 H1 fp1 fp1 ρ1 r Q := by
  cases r with
  | bad => exact h
  | exc c n d ρ' => exact fun d' F2 H2 fp2 s2 st2 ex => h d' F2 H2 fp2 (s1.trans0 s2) st2 ex
  | ok b ρ2 q =>
    refine fun F2 H2 fp2 s2 st2 pu2 => h F2 H2 fp2 (s1.trans0 s2) st2 fun z => ?_
    rw [Bool.and_eq_true] at z
    exact (pu z.1).trans (pu2 z.2)
theorem Out.behind {r : R Op} {p : Bool} {Q : VK} (s1 : Stp F H fs F1 H1 fp1) (pu : p = true → Pure ρ ρ1 fp fp1 H H1) (h : Out g W σ F H fs fp ρ (match r with | .ok b ρ2 q => .ok b ρ2 (p && q) | .exc c n d ρ' => .exc c n d ρ' | .bad => .bad) Q) : Out g W σ F1 H1 fp1 fp1 ρ1 r Q := by
  cases r with
  | bad => exact h
  | exc c n d ρ' => exact fun d' F2 H2 fp2 s2 st2 ex => h d' F2 H2 fp2 (s1.trans0 s2) st2 ex
  | ok b ρ2 q =>
    refine fun v F2 H2 fq fp2 s2 nd ho st2 op pu2 => h v F2 H2 fq fp2 (s1.trans0 s2) nd ho st2 op fun z => ?_
    rw [Bool.and_eq_true] at z
    exact (pu z.1).trans (pu2 z.2)
theorem bof_and {m n : MB} {Q : Bool → Hp → Prop} (h : BOf g W (mAndB m n) σ H Q) : tAnd (BOf g W m) (BOf g W n) σ H Q := by
  obtain ⟨F, ρ, fp, st, h⟩ := h
  refine ⟨F, ρ, fp, st, ?_⟩
  unfold mAndB at h
  cases hm : m ρ with
  | bad => rw [hm] at h; exact h
  | exc c n d ρ' => rw [hm] at h; exact h
  | ok b ρ1 p =>
    rw [hm] at h
    intro F1 H1 fp1 s1 st1 pu1
    cases b with
    | true => exact ⟨F1, ρ1, fp1, st1, OutB.behind s1 pu1 h⟩
    | false => exact h F1 H1 fp1 s1 st1 pu1
theorem bof_or {m n : MB} {Q : Bool → Hp → Prop} (h : BOf g W (mOrB m n) σ H Q) : tOr (BOf g W m) (BOf g W n) σ H Q := by
  obtain ⟨F, ρ, fp, st, h⟩ := h
  refine ⟨F, ρ, fp, st, ?_⟩
  unfold mOrB at h
  cases hm : m ρ with
  | bad => rw [hm] at h; exact h
  | exc c n d ρ' => rw [hm] at h; exact h
  | ok b ρ1 p =>
    rw [hm] at h
    intro F1 H1 fp1 s1 st1 pu1
    cases b with
    | false => exact ⟨F1, ρ1, fp1, st1, OutB.behind s1 pu1 h⟩
    | true => exact h F1 H1 fp1 s1 st1 pu1
theorem bof_not {m : MB} {Q : Bool → Hp → Prop} (h : BOf g W (mNotB m) σ H Q) : tNot (BOf g W m) σ H Q := by
  obtain ⟨F, ρ, fp, st, h⟩ := h
  refine ⟨F, ρ, fp, st, ?_⟩
  unfold mNotB at h
  cases hm : m ρ with
  | bad => rw [hm] at h; exact h
  | exc c n d ρ' => rw [hm] at h; exact h
  | ok b ρ1 p =>
    rw [hm] at h
    exact fun F1 H1 fp1 s1 st1 pu1 => h F1 H1 fp1 s1 st1 pu1
def DW (X : Cx) (g : G) (e : Expr) (m : MB) : Prop := ∀ W, Takes X W → PW X e (BOf g W m)
theorem pw_imp {e : Expr} {t t' : TT} (h : PW X e t) (k : ∀ σ H Q, t' σ H Q → t σ H Q) : PW X e t' := ⟨fun wh pins s σ H Q I q => h.run wh pins s σ H Q I (k σ H Q q)⟩
theorem dw_and1 {a : Expr} {m : MB} {pos : Pos} (h : DT X g a m) : DW X g (.BoolOp .And [a] pos) m := fun W tk => pw_and1 (h W tk)
theorem dw_or1 {a : Expr} {m : MB} {pos : Pos} (h : DT X g a m) : DW X g (.BoolOp .Or [a] pos) m := fun W tk => pw_or1 (h W tk)
theorem dw_and {a b : Expr} {r : List Expr} {m n : MB} {pos : Pos} (h : DT X g a m) (k : DW X g (.BoolOp .And (b :: r) pos) n) : DW X g (.BoolOp .And (a :: b :: r) pos) (mAndB m n) := fun W tk => pw_imp (pw_and (h W tk) (k W tk)) fun _ _ _ q => bof_and q
theorem dw_or {a b : Expr} {r : List Expr} {m n : MB} {pos : Pos} (h : DT X g a m) (k : DW X g (.BoolOp .Or (b :: r) pos) n) : DW X g (.BoolOp .Or (a :: b :: r) pos) (mOrB m n) := fun W tk => pw_imp (pw_or (h W tk) (k W tk)) fun _ _ _ q => bof_or q
theorem dt_w {a : Expr} {m : MB} (h : DW X g a m) : DT X g a m := fun W tk => (h W tk).pt
theorem dt_not {a : Expr} {m : MB} {pos : Pos} (h : DT X g a m) : DT X g (.UnaryOp .Not a pos) (mNotB m) := fun W tk => pt_imp (pt_not (h W tk)) fun _ _ _ q => bof_not q
/-- .. as values, of True and False -/
def mAndV (m n : M) : M := fun ρ => match m ρ with
  | .ok o ρ1 p => (match look ρ1 o with
    | some (.d (.bool true)) => (match n ρ1 with
      | .ok b ρ2 q => .ok b ρ2 (p && q)
      | .exc c n d ρ' => .exc c n d ρ'
      | .bad => .bad)
    | some (.d (.bool false)) => .ok (.tm (.d (.bool false))) ρ1 p
    | _ => .bad)
  | r => r
def mOrV (m n : M) : M := fun ρ => match m ρ with
  | .ok o ρ1 p => (match look ρ1 o with
    | some (.d (.bool false)) => (match n ρ1 with
      | .ok b ρ2 q => .ok b ρ2 (p && q)
      | .exc c n d ρ' => .exc c n d ρ'
      | .bad => .bad)
    | some (.d (.bool true)) => .ok (.tm (.d (.bool true))) ρ1 p
    | _ => .bad)
  | r => r
theorem eof_andV {m n : M} {Q : VK} (h : EOf g W (mAndV m n) σ H Q) : tAndV (EOf g W m) (EOf g W n) σ H Q := by
  obtain ⟨F, ρ, fp, st, h⟩ := h
  refine ⟨F, ρ, fp, st, ?_⟩
  unfold mAndV at h
  cases hm : m ρ with
  | bad => rw [hm] at h; exact h
  | exc c n d ρ' => rw [hm] at h; exact h
  | ok o ρ1 p =>
    rw [hm] at h
    intro v F1 H1 fq fp1 s1 n1 o1 st1 op1 pu1
    have s1' := s1.wid (fq1 := fp1) (fun _ z => z) fun a ha => .inl (List.mem_append_right _ ha)
    dsimp only at h
    split at h
    · rename_i hl
      obtain ⟨f, h3, _⟩ := op1.own st1 hl
      cases h3 with
      | d z =>
        cases z
        exact ⟨true, rfl, ⟨F1, ρ1, fp1, st1, Out.behind s1' pu1 h⟩⟩
    · rename_i hl
      obtain ⟨f, h3, _⟩ := op1.own st1 hl
      cases h3 with
      | d z =>
        cases z
        exact ⟨false, rfl, h (.bl false) F1 H1 [] fp1 s1' st1.nd (fun _ z => nomatch z) st1 (.d (.bl false)) pu1⟩
    · exact h.elim
theorem eof_orV {m n : M} {Q : VK} (h : EOf g W (mOrV m n) σ H Q) : tOrV (EOf g W m) (EOf g W n) σ H Q := by
  obtain ⟨F, ρ, fp, st, h⟩ := h
  refine ⟨F, ρ, fp, st, ?_⟩
  unfold mOrV at h
  cases hm : m ρ with
  | bad => rw [hm] at h; exact h
  | exc c n d ρ' => rw [hm] at h; exact h
  | ok o ρ1 p =>
    rw [hm] at h
    intro v F1 H1 fq fp1 s1 n1 o1 st1 op1 pu1
    have s1' := s1.wid (fq1 := fp1) (fun _ z => z) fun a ha => .inl (List.mem_append_right _ ha)
    dsimp only at h
    split at h
    · rename_i hl
      obtain ⟨f, h3, _⟩ := op1.own st1 hl
      cases h3 with
      | d z =>
        cases z
        exact ⟨false, rfl, ⟨F1, ρ1, fp1, st1, Out.behind s1' pu1 h⟩⟩
    · rename_i hl
      obtain ⟨f, h3, _⟩ := op1.own st1 hl
      cases h3 with
      | d z =>
        cases z
        exact ⟨true, rfl, h (.bl true) F1 H1 [] fp1 s1' st1.nd (fun _ z => nomatch z) st1 (.d (.bl true)) pu1⟩
    · exact h.elim
def mNotV (m : MB) : M := fun ρ => match m ρ with
  | .ok b ρ1 p => .ok (.tm (.d (.bool (!b)))) ρ1 p
  | .exc c n d ρ' => .exc c n d ρ'
  | .bad => .bad
theorem eof_notV {m : M} {Q : VK} (h : EOf g W (mNotV (mTb m)) σ H Q) : tNotV (EOf g W m) σ H Q := by
  refine bof_tb (g := g) ?_
  obtain ⟨F, ρ, fp, st, h⟩ := h
  refine ⟨F, ρ, fp, st, ?_⟩
  unfold mNotV at h
  cases hm : mTb m ρ with
  | bad => rw [hm] at h; exact h
  | exc c n d ρ' => rw [hm] at h; exact h
  | ok b ρ1 p =>
    rw [hm] at h
    exact fun F1 H1 fp1 s1 st1 pu1 => h (.bl (!b)) F1 H1 [] fp1 s1 st1.nd (fun _ z => nomatch z) st1 (.d (.bl _)) pu1
theorem de_and1 {a : Expr} {m : M} {op : BoolOp} {pos : Pos} (h : DE X g a m) : DE X g (.BoolOp op [a] pos) m := fun W tk => pe_one (h W tk)
theorem de_and {a b : Expr} {r : List Expr} {m n : M} {pos : Pos} (h : DE X g a m) (k : DE X g (.BoolOp .And (b :: r) pos) n) : DE X g (.BoolOp .And (a :: b :: r) pos) (mAndV m n) := fun W tk => pe_imp (pe_and (h W tk) (k W tk)) fun _ _ _ q => eof_andV q
theorem de_or {a b : Expr} {r : List Expr} {m n : M} {pos : Pos} (h : DE X g a m) (k : DE X g (.BoolOp .Or (b :: r) pos) n) : DE X g (.BoolOp .Or (a :: b :: r) pos) (mOrV m n) := fun W tk => pe_imp (pe_or (h W tk) (k W tk)) fun _ _ _ q => eof_orV q
theorem de_not {a : Expr} {m : M} {pos : Pos} (h : DE X g a m) : DE X g (.UnaryOp .Not a pos) (mNotV (mTb m)) := fun W tk => pe_imp (pe_not (h W tk)) fun _ _ _ q => eof_notV q
/-! ### a if c else b -/
def mIfE (c : MB) (m n : M) : M := fun ρ => match c ρ with
  | .ok b ρ1 p => (match (if b = true then m ρ1 else n ρ1) with
    | .ok o ρ2 q => .ok o ρ2 (p && q)
    | .exc c n d ρ' => .exc c n d ρ'
    | .bad => .bad)
  | .exc c n d ρ' => .exc c n d ρ'
  | .bad => .bad
theorem eof_if {c : MB} {m n : M} {Q : VK} (h : EOf g W (mIfE c m n) σ H Q) : tIf (BOf g W c) (EOf g W m) (EOf g W n) σ H Q := by
  obtain ⟨F, ρ, fp, st, h⟩ := h
  refine ⟨F, ρ, fp, st, ?_⟩
  unfold mIfE at h
  cases hm : c ρ with
  | bad => rw [hm] at h; exact h
  | exc c n d ρ' => rw [hm] at h; exact h
  | ok b ρ1 p =>
    rw [hm] at h
    intro F1 H1 fp1 s1 st1 pu1
    cases b with
    | true => exact ⟨F1, ρ1, fp1, st1, Out.behind s1 pu1 h⟩
    | false => exact ⟨F1, ρ1, fp1, st1, Out.behind s1 pu1 h⟩
theorem de_if {c a b : Expr} {mc : MB} {m n : M} {pos : Pos} (hc : DT X g c mc) (ha : DE X g a m) (hb : DE X g b n) : DE X g (.IfExp c a b pos) (mIfE mc m n) := fun W tk => pe_imp (pe_ifExp (hc W tk) (ha W tk) (hb W tk)) fun _ _ _ q => eof_if q
/-! ### statements -/
def mSkip : MS := fun ρ => .ok .nx ρ true
def mBrk : MS := fun ρ => .ok .bk ρ true
def mCnt : MS := fun ρ => .ok .ct ρ true
def mSeq (a b : MS) : MS := fun ρ => match a ρ with
  | .ok .nx ρ1 _ => b ρ1
  | r => r
def mIf (c : MB) (a b : MS) : MS := fun ρ => match c ρ with
  | .ok k ρ1 _ => if k = true then a ρ1 else b ρ1
  | .exc c n d ρ' => .exc c n d ρ'
  | .bad => .bad
def mExpr (m : M) : MS := fun ρ => match m ρ with
  | .ok _ ρ1 _ => .ok .nx ρ1 true
  | .exc c n d ρ' => .exc c n d ρ'
  | .bad => .bad
/-- what is returned leaves its slot -/
def mRet (m : M) : MS := fun ρ => match m ρ with
  | .ok (.tm t) ρ1 _ => .ok (.rt t) ρ1 true
  | .ok (.pl i []) ρ1 _ => (match ρ1[i]? with
    | some (some t) => .ok (.rt t) (ρ1.set i none) true
    | _ => .bad)
  | .ok (.pl _ (_ :: _)) _ _ => .bad
  | .exc c n d ρ' => .exc c n d ρ'
  | .bad => .bad
def mRetN : MS := fun ρ => .ok (.rt (.d .none)) ρ true
/-- name = e, e in hand; P: the slots that are not stored anew -/
def mAsg (P : List Nat) (i : Nat) (m : M) : MS := fun ρ => match m ρ with
  | .ok (.tm t) ρ1 _ => if (!P.contains i && decide (i < ρ1.length)) = true then .ok .nx (ρ1.set i (some t)) true else .bad
  | .ok (.pl _ _) _ _ => .bad
  | .exc c n d ρ' => .exc c n d ρ'
  | .bad => .bad
theorem OutS.behind {r : R Fl} {D : Ends} {σ' : St} (ag : Agree P σ σ') (s1 : Stp F H fs F1 H1 fp1) (h : OutS g W P σ F H fs r D) : OutS g W P σ' F1 H1 fp1 r D := by
  cases r with
  | bad => exact h
  | exc c n d ρ' => exact fun d' σ2 F2 H2 fp2 s2 st2 ex a2 => h d' σ2 F2 H2 fp2 (s1.trans0 s2) st2 ex (ag.trans a2)
  | ok f ρ2 q =>
    cases f with
    | nx => exact fun σ2 F2 H2 fp2 s2 st2 a2 => h σ2 F2 H2 fp2 (s1.trans0 s2) st2 (ag.trans a2)
    | bk => exact fun σ2 F2 H2 fp2 s2 st2 a2 => h σ2 F2 H2 fp2 (s1.trans0 s2) st2 (ag.trans a2)
    | ct => exact fun σ2 F2 H2 fp2 s2 st2 a2 => h σ2 F2 H2 fp2 (s1.trans0 s2) st2 (ag.trans a2)
    | rt t => exact fun v σ2 F2 H2 fq fp2 s2 nd ho st2 op a2 => h v σ2 F2 H2 fq fp2 (s1.trans0 s2) nd ho st2 op (ag.trans a2)
/-- other ways out are the same -/
theorem OutS.same {r : R Fl} {D D' : Ends} (h : OutS g W P σ F H fs r D) (hn : ∀ ρ q, r ≠ .ok .nx ρ q) (hr : D.rt = D'.rt) (hb : D.bk = D'.bk) (hc : D.ct = D'.ct) : OutS g W P σ F H fs r D' := by
  cases r with
  | bad => exact h
  | exc c n d ρ' => exact h
  | ok f ρ2 q =>
    cases f with
    | nx => exact absurd rfl (hn ρ2 q)
    | bk => exact fun σ2 F2 H2 fp2 s2 st2 a2 => hb ▸ h σ2 F2 H2 fp2 s2 st2 a2
    | ct => exact fun σ2 F2 H2 fp2 s2 st2 a2 => hc ▸ h σ2 F2 H2 fp2 s2 st2 a2
    | rt t => exact fun v σ2 F2 H2 fq fp2 s2 nd ho st2 op a2 => hr ▸ h v σ2 F2 H2 fq fp2 s2 nd ho st2 op a2
theorem sof_skip {D : Ends} (h : SOf g W P mSkip D σ H) : D.nx σ H := by
  obtain ⟨F, ρ, fp, st, h⟩ := h
  exact h σ F H fp (Stp.refl fun _ z => z) st (Agree.refl P σ)
theorem sof_seq {a b : MS} {D : Ends} (h : SOf g W P (mSeq a b) D σ H) : tSeq (SOf g W P a) (SOf g W P b) D σ H := by
  obtain ⟨F, ρ, fp, st, h⟩ := h
  refine ⟨F, ρ, fp, st, ?_⟩
  unfold mSeq at h
  cases hm : a ρ with
  | bad => rw [hm] at h; exact h
  | exc c n d ρ' => rw [hm] at h; exact h
  | ok f ρ1 p =>
    rw [hm] at h
    cases f with
    | nx => exact fun σ1 F1 H1 fp1 s1 st1 a1 => ⟨F1, ρ1, fp1, st1, OutS.behind a1 s1 h⟩
    | bk => exact h
    | ct => exact h
    | rt t => exact h
theorem sof_if {c : MB} {a b : MS} {D : Ends} (h : SOf g W P (mIf c a b) D σ H) : tIfS (BOf g W c) (SOf g W P a) (SOf g W P b) D σ H := by
  obtain ⟨F, ρ, fp, st, h⟩ := h
  refine ⟨F, ρ, fp, st, ?_⟩
  unfold mIf at h
  cases hm : c ρ with
  | bad => rw [hm] at h; exact h
  | exc c n d ρ' =>
    rw [hm] at h
    exact fun d' F2 H2 fp2 s2 st2 ex => h d' σ F2 H2 fp2 s2 st2 ex (Agree.refl P σ)
  | ok k ρ1 p =>
    rw [hm] at h
    intro F1 H1 fp1 s1 st1 pu1
    cases k with
    | true => exact ⟨F1, ρ1, fp1, st1, OutS.behind (Agree.refl P σ) s1 h⟩
    | false => exact ⟨F1, ρ1, fp1, st1, OutS.behind (Agree.refl P σ) s1 h⟩
theorem sof_expr {m : M} {D : Ends} (h : SOf g W P (mExpr m) D σ H) : tDrop (EOf g W m) D σ H := by
  obtain ⟨F, ρ, fp, st, h⟩ := h
  refine ⟨F, ρ, fp, st, ?_⟩
  unfold mExpr at h
  cases hm : m ρ with
  | bad => rw [hm] at h; exact h
  | exc c n d ρ' =>
    rw [hm] at h
    exact fun d' F2 H2 fp2 s2 st2 ex => h d' σ F2 H2 fp2 s2 st2 ex (Agree.refl P σ)
  | ok o ρ1 p =>
    rw [hm] at h
    exact fun v F1 H1 fq fp1 s1 nd ho st1 op pu => h σ F1 H1 fp1 (s1.wid (fun _ z => z) fun a ha => .inl (List.mem_append_right _ ha)) st1 (Agree.refl P σ)
theorem sof_ret {m : M} {D : Ends} (h : SOf g W P (mRet m) D σ H) : tRet (EOf g W m) D σ H := by
  obtain ⟨F, ρ, fp, st, h⟩ := h
  refine ⟨F, ρ, fp, st, ?_⟩
  unfold mRet at h
  cases hm : m ρ with
  | bad => rw [hm] at h; exact h
  | exc c n d ρ' =>
    rw [hm] at h
    exact fun d' F2 H2 fp2 s2 st2 ex => h d' σ F2 H2 fp2 s2 st2 ex (Agree.refl P σ)
  | ok o ρ1 p =>
    rw [hm] at h
    intro v F1 H1 fq fp1 s1 nd ho st1 op pu
    cases o with
    | tm t => exact h v σ F1 H1 fq fp1 s1 nd ho st1 op (Agree.refl P σ)
    | pl i w =>
      cases w with
      | cons s w => exact h.elim
      | nil =>
        obtain ⟨rfl, v0, as, h1, h2, h3⟩ := op
        cases h2
        dsimp only at h
        split at h
        · rename_i t e
          obtain ⟨v', f0, f1, f2, k1, k2, rfl, k4⟩ := st1.own.get e
          rw [h1] at k1
          cases k1
          have es : σ.set i (some v) = σ := List.ext_getElem? fun j => by
            by_cases hi : i = j
            · subst hi
              have hl : i < σ.length := (List.getElem?_eq_some_iff.mp h1).1
              rw [List.getElem?_set_self hl, h1]
            · rw [List.getElem?_set_ne hi]
          have q := k4 F1 H1 v none [] (Le.refl _) (fun _ _ _ z => z) (fun u z => by cases z) (fun _ => rfl)
          rw [es] at q
          have nd' := st1.nd
          have pm : (f1 ++ (f0 ++ [] ++ f2)).Perm (f0 ++ f1 ++ f2) := by
            simp only [List.append_nil]
            rw [← List.append_assoc]
            exact List.perm_append_comm.append_right f2
          have nd2 : (f1 ++ (f0 ++ [] ++ f2)).Nodup := pm.nodup_iff.mpr nd'
          exact h v σ F1 H1 f1 (f0 ++ [] ++ f2) (s1.wid (fun _ z => z) fun a ha => .inl (by simpa using pm.mem_iff.mp ha)) nd2 (fun a ha => st1.out a (by simp [ha]))
            ⟨st1.le, q, (List.nodup_append.mp nd2).2.1, fun a ha => st1.out a (pm.mem_iff.mp (List.mem_append_right _ ha))⟩ k2 (Agree.refl P σ)
        · exact h.elim
theorem sof_retN {D : Ends} (h : SOf g W P mRetN D σ H) : tRetN D σ H := by
  obtain ⟨F, ρ, fp, st, h⟩ := h
  exact h .non σ F H [] fp (Stp.refl (by simp)) (by simpa using st.nd) (fun _ z => nomatch z) st (.d .non) (Agree.refl P σ)
/-- a slot stored: the state behind it -/
theorem Sta.store (st : Sta g F H σ ρ fp) {i : Nat} {v : V} {t : T} (hi : i < ρ.length) (h : Own g F H v t fq) (nd : (fq ++ fp).Nodup) (ho : ∀ a ∈ fq, F a = none) : ∃ fp', (∀ a ∈ fp', a ∈ fq ++ fp) ∧ Sta g F H (σ.set i (some v)) (ρ.set i (some t)) fp' := by
  obtain ⟨f0, f2, h1, h2, h3⟩ := st.own.set i v t fq (by rw [st.own.length]; exact hi) h
  have hm : ∀ a ∈ f0 ++ fq ++ f2, a ∈ fq ++ fp := fun a ha => by
    simp only [List.mem_append] at ha ⊢
    rcases ha with (ha | ha) | ha
    · exact .inr (h1 a (by simp [ha]))
    · exact .inl ha
    · exact .inr (h1 a (by simp [ha]))
  refine ⟨f0 ++ fq ++ f2, hm, st.le, h3, ?_, fun a ha => ?_⟩
  · have n := List.nodup_append.mp nd
    have pm : (fq ++ (f0 ++ f2)).Perm (f0 ++ fq ++ f2) := by
      rw [← List.append_assoc]
      exact List.perm_append_comm.append_right f2
    exact pm.nodup_iff.mp (List.nodup_append.mpr ⟨n.1, h2 n.2.1, fun a ha b hb => n.2.2 a ha b (h1 b hb)⟩)
  · rcases List.mem_append.mp (hm a ha) with h | h
    · exact ho a h
    · exact st.out a h
theorem sof_asg {i : Nat} {m : M} {D : Ends} (h : SOf g W P (mAsg P i m) D σ H) : tAsg (EOf g W m) (gName i) D σ H := by
  obtain ⟨F, ρ, fp, st, h⟩ := h
  refine ⟨F, ρ, fp, st, ?_⟩
  unfold mAsg at h
  cases hm : m ρ with
  | bad => rw [hm] at h; exact h
  | exc c n d ρ' =>
    rw [hm] at h
    exact fun d' F2 H2 fp2 s2 st2 ex => h d' σ F2 H2 fp2 s2 st2 ex (Agree.refl P σ)
  | ok o ρ1 p =>
    rw [hm] at h
    intro v F1 H1 fq fp1 s1 nd ho st1 op pu
    cases o with
    | pl i w => exact h.elim
    | tm t =>
      dsimp only at h
      split at h
      · rename_i hc
        simp only [Bool.and_eq_true, Bool.not_eq_true', List.contains_eq_mem, decide_eq_false_iff_not, decide_eq_true_eq] at hc
        obtain ⟨fp', k1, k2⟩ := st1.store hc.2 op nd ho
        refine h (σ.set i (some v)) F1 H1 fp' (s1.wid (fun _ z => z) fun a ha => .inl (k1 a ha)) k2 fun j hj => ?_
        have ne : i ≠ j := fun e => hc.1 (by rw [e]; exact hj)
        rw [List.getElem?_set_ne ne]
      · exact h.elim
theorem ds_pass {pos : Pos} : DS X g P (.Pass pos) mSkip := fun W tk pa => ps_imp ps_pass fun _ _ _ h => sof_skip h
theorem ds_doc {x : Str} {j pos pos'} : DS X g P (.Expr (.Constant (.str x) j pos) pos') mSkip := fun W tk pa => ps_imp ps_doc fun _ _ _ h => sof_skip h
theorem ds_brk {pos : Pos} : DS X g P (.Break pos) mBrk := fun W tk pa => ps_imp ps_break fun D σ H h => by
  obtain ⟨F, ρ, fp, st, h⟩ := h
  exact h σ F H fp (Stp.refl fun _ z => z) st (Agree.refl P σ)
theorem ds_cnt {pos : Pos} : DS X g P (.Continue pos) mCnt := fun W tk pa => ps_imp ps_continue fun D σ H h => by
  obtain ⟨F, ρ, fp, st, h⟩ := h
  exact h σ F H fp (Stp.refl fun _ z => z) st (Agree.refl P σ)
theorem dss_nil : DSs X g P [] mSkip := fun W tk pa => pss_imp pss_nil fun _ _ _ h => sof_skip h
theorem dss_cons {s : Stmt} {r : List Stmt} {a b : MS} (h : DS X g P s a) (k : DSs X g P r b) : DSs X g P (s :: r) (mSeq a b) := fun W tk pa => pss_imp (pss_cons (h W tk pa) (k W tk pa)) fun _ _ _ q => sof_seq q
theorem dss_one {s : Stmt} {a : MS} (h : DS X g P s a) : DSs X g P [s] a := fun W tk pa => pss_one (h W tk pa)
theorem ds_if {c : Expr} {a b : List Stmt} {mc : MB} {m n : MS} {pos : Pos} (hc : DT X g c mc) (ha : DSs X g P a m) (hb : DSs X g P b n) : DS X g P (.If c a b pos) (mIf mc m n) := fun W tk pa => ps_imp (ps_if (hc W tk) (ha W tk pa) (hb W tk pa)) fun _ _ _ q => sof_if q
theorem ds_expr {e : Expr} {m : M} {pos : Pos} (h : DE X g e m) (hs : swapsWith e none pos.line X.env = pure false := by rfl) : DS X g P (.Expr e pos) (mExpr m) := fun W tk pa => ps_imp (ps_expr (h W tk) hs) fun _ _ _ q => sof_expr q
theorem ds_ret {e : Expr} {m : M} {pos : Pos} (h : DE X g e m) : DS X g P (.Return (some e) pos) (mRet m) := fun W tk pa => ps_imp (ps_ret (h W tk)) fun _ _ _ q => sof_ret q
theorem ds_retN {pos : Pos} : DS X g P (.Return none pos) mRetN := fun W tk pa => ps_imp ps_retN fun _ _ _ q => sof_retN q
theorem ds_asg {i : Nat} {x : Str} {e : Expr} {m : M} {pos pos' : Pos} (h : DE X g e m) (hN : X.N.Nodup) (hi : X.N[i]? = some x := by rfl) (hx : Loc X.env.scope x := by first | exact Or.inl rfl | exact Or.inr rfl) (hs : swapsWith e (some (.Name x pos')) pos.line X.env = pure false := by rfl)
    (hf : X.fn x = true ∨ X.env.scope.names.lookup x = some .local := by first | exact .inl rfl | exact .inr rfl | assumption) : DS X g P (.Assign [.Name x pos'] e pos) (mAsg P i m) := fun W tk pa => ps_imp (ps_set hN hi hx (h W tk) hs hf) fun _ _ _ q => sof_asg q
end
end MV
/-! MvF: what a def promises by its mirror, its body, its call. -/
namespace MV
open PySem L2
/-- how a parameter is passed: shared data, or a tree that the def may change -/
inductive Md where
  | sh
  | io
  deriving DecidableEq
/-- how a call ends: what it returns or raises, what its changing parameters are then -/
inductive RF where
  | ret (t : T) (os : Env)
  | exc (c : String) (ns : List Str) (ds : List PyData) (os : Env)
  | bad
section
variable (g : G)
def OutF (F H : Hp) (fs : List Addr) (vs : List V) (r : RF) (Q : VK) (E : XK) : Prop := match r with
  | .ret t os => ∀ v F' H' fq fo, Stp F H fs F' H' (fq ++ fo) → Le F' H' → (fq ++ fo).Nodup → (∀ a ∈ fq ++ fo, F' a = none) → Own g F' H' v t fq → OwnS g F' H' (vs.map some) os fo → Q v H'
  | .exc c ns ds os => ∀ d F' H' fo, Stp F H fs F' H' fo → Le F' H' → fo.Nodup → (∀ a ∈ fo, F' a = none) → ExAt g F' H' ns ds d → OwnS g F' H' (vs.map some) os fo → E (.ref (g.adr c)) (some d) H'
  | .bad => False
/-- the promise of a def with n parameters, by its mirror -/
def spM (n : Nat) (m : List T → RF) : Sp := fun vs H Q E => vs.length = n ∧ ∃ F ts fp, Le F H ∧ OwnL g F H vs ts fp ∧ fp.Nodup ∧ (∀ a ∈ fp, F a = none) ∧ OutF g F H fp vs (m ts) Q E
end
/-- a def (as FnOk), in a context where nothing is being shown -/
structure FnG (P : Program) (w : World) (K : PySem.W.Frag) (mg : Str → Option Value) (base : Heap) (k : Nat) (f : Addr) (fd : FuncData) (ps : List Str) (sp : Sp) : Prop where
  len : ∀ vs H Q E, sp vs H Q E → vs.length = ps.length
  run : ∀ (A : Around) (outer : List PySem.Env) (s : Shared) (H : Hp) (args : Args) (us : List Value) (vs : List V) (Q : VK) (E : XK), Room k A → A.guards = some [] → Env0 P w K mg base A outer s H →
    BindsTo s fd args (ps.zip us) → Vals vs us → sp vs H Q E → codeAny (model P w) A (.call (.ref f) args) (CR (L2.CX P w) outer P w H s Q E) s
section
variable {P : Program} {w : World} {K : PySem.W.Frag} {mg : Str → Option Value} {base : Heap} {k : Nat} {f : Addr} {fd : FuncData} {ps : List Str} {sp : Sp}
theorem FnG.mono {j : Nat} (z : FnG P w K mg base j f fd ps sp) (h : j ≤ k) : FnG P w K mg base k f fd ps sp := ⟨z.len, fun A o s H a us vs Q E hr => z.run A o s H a us vs Q E (hr.mono h)⟩
theorem FnG.imp {sp' : Sp} (z : FnG P w K mg base k f fd ps sp) (h : ∀ vs H Q E, sp' vs H Q E → sp vs H Q E) : FnG P w K mg base k f fd ps sp' :=
  ⟨fun vs H Q E q => z.len vs H Q E (h _ _ _ _ q), fun A o s H a us vs Q E hr hg e0 hb r q => z.run A o s H a us vs Q E hr hg e0 hb r (h _ _ _ _ q)⟩
/-- the rule for a def by its body -/
theorem fnG_of {name qual : Str} {params : Arguments} {body : List Stmt} {scope : Scope} {dV kV doc pm cdv ct oc : Value} {an od : Option Addr} {osl : Array (Option Value)} {N : List Str}
    (lk : K.lookup f = some ⟨oc, od, .func (PySem.W.fnOf name qual params body scope dV kV doc pm an cdv ct), osl⟩) (hcd : PySem.W.codeIn K cdv qual = true) (S : FnScope N ps scope) (len : ∀ vs H Q E, sp vs H Q E → vs.length = ps.length)
    (hbody : ∀ (A : Around) (outer : List PySem.Env) (s : Shared) (H : Hp) (vs : List V) (Q : VK) (E : XK), Room k (A.deeper (PyProof.Rows.envOfC qual scope s.heap.objs.size f cdv)) → A.guards = some [] → sp vs H Q E →
      ∃ t, PSs (cxOf (L2.CX P w) P w K mg base N qual scope f cdv A outer s H E) body t ∧ t { nx := fun _ H' => Q .non H', rt := Q } (L2.start N vs) H) :
    FnG P w K mg base (k + 1) f (PySem.W.fnOf name qual params body scope dV kV doc pm an cdv ct) ps sp := by
  refine ⟨len, fun A outer s H args us vs Q E hr hg e0 hb r hsp => ?_⟩
  have z1 := len _ _ _ _ hsp
  have z2 : K.In s.heap := e0.mod.kin.keeps fun b o e => (e0.bs b o e).1
  have z3 : s.heap.NoLimit := e0.mod.nolimit.keeps fun b o e => (e0.bs b o e).1
  have z4 : ∀ y ∈ ps.zip us, scope.names.lookup y.1 = some .local ∨ (scope.names.lookup y.1 = some .cell ∧ ((cellsFrom (s.heap.objs.size + 1) scope.names []).lookup y.1).isSome = true) := by
    rintro ⟨n, v⟩ hy
    rcases S.par n (List.of_mem_zip hy).1 with q | q
    · exact Or.inl q
    · exact Or.inr ⟨q, PySem.W.cellsFrom_some _ _ _ (Or.inl q)⟩
  refine codeAny_call_function hr.depth (z2 _ _ lk) rfl S.co S.gen rfl (PySem.W.codeRec_of z2 hcd) (hb _ _ _ _ ?_)
  refine wpAny_newFunctionEnv_cells S.kind z4 fun env he s1 x => ?_
  subst he
  refine ⟨z3.keeps x.toInCall.keep, codeAny_func ?_⟩
  obtain ⟨t, ht, hq⟩ := hbody A outer s H vs Q E (hr.deeper _) hg hsp
  have z5 : Inv (cxOf (L2.CX P w) P w K mg base N qual scope f cdv A outer s H E) [] (L2.start N vs) H s1 := inv_start S hr.hd e0 z1 r x
  refine wpAny_mono (ht.run [] s1 (L2.start N vs) H _ z5 hq) (fun fl s' hs => ?_) fun _ _ z => z
  cases fl with
  | brk =>
    obtain ⟨_, _, _, q⟩ := hs
    exact q.elim
  | cont =>
    obtain ⟨_, _, _, q⟩ := hs
    exact q.elim
  | ret u =>
    obtain ⟨v, σ', H', J, rv, q⟩ := hs
    exact ⟨v, H', J.os, J.bare, J.base, J.hok, rv, q⟩
  | next =>
    obtain ⟨σ', H', J, q⟩ := hs
    exact ⟨.non, H', J.os, J.bare, J.base, J.hok, rfl, q⟩
end
/-! ### a body's mirror as the def's -/
def outs : List Md → Env → Env
  | [], _ => []
  | .sh :: ms, _ :: ρ => none :: outs ms ρ
  | .io :: ms, t :: ρ => t :: outs ms ρ
  | _ :: ms, [] => none :: outs ms []
def runF (N : Nat) (ms : List Md) (b : Env → R Fl) (ts : List T) : RF := match b (ts.map some ++ List.replicate (N - ts.length) none) with
  | .ok .nx ρ _ => .ret (.d .none) (outs ms ρ)
  | .ok (.rt t) ρ _ => .ret t (outs ms ρ)
  | .exc c ns ds ρ => .exc c ns ds (outs ms ρ)
  | _ => .bad
def pins : Nat → List Md → List Nat
  | _, [] => []
  | i, .sh :: ms => pins (i + 1) ms
  | i, .io :: ms => i :: pins (i + 1) ms
section
variable {g : G} {F F' F1 F2 H H' H1 H2 : Hp} {σ : St} {ρ ρ1 : Env} {fp fq fs fp1 fp2 fq1 fq2 : List Addr} {W : WX} {X : Cx} {P : List Nat}
theorem own_start : ∀ {vs : List V} {ts : List T} {fp : List Addr}, OwnL g F H vs ts fp → OwnS g F H (vs.map some) (ts.map some) fp
  | _, _, _, .nil => .nil
  | _, _, _, .cons h q => .yes h (own_start q)
theorem own_nones : ∀ n : Nat, OwnS g F H (List.replicate n none) (List.replicate n none) []
  | 0 => .nil
  | n + 1 => .no (own_nones n)
theorem OwnS.append : ∀ {σ σ' : St} {ρ ρ' : Env} {fp fq : List Addr}, OwnS g F H σ ρ fp → OwnS g F H σ' ρ' fq → OwnS g F H (σ ++ σ') (ρ ++ ρ') (fp ++ fq)
  | _, _, _, _, _, _, .nil, s => s
  | _, _, _, _, _, _, .no q, s => .no (OwnS.append q s)
  | _, _, _, _, _, _, .yes h q, s => by rw [List.append_assoc]; exact .yes h (OwnS.append q s)
theorem own_outs : ∀ {ms : List Md} {i : Nat} {vs : List V} {σ : St} {ρ : Env} {fp : List Addr}, OwnS g F H σ ρ fp → vs.length = ms.length → (∀ j, i + j ∈ pins i ms → σ[j]? = (vs.map some)[j]?) → ∃ fo, fo.Sublist fp ∧ OwnS g F H (vs.map some) (outs ms ρ) fo
  | [], _, vs, σ, ρ, fp, h, hl, _ => by
    cases vs with
    | nil => exact ⟨[], List.nil_sublist _, .nil⟩
    | cons v vs => simp at hl
  | m :: ms, i, vs, σ, ρ, fp, h, hl, k => by
    cases vs with
    | nil => simp at hl
    | cons v vs =>
      have hl' : vs.length = ms.length := by simpa using hl
      cases h with
      | nil =>
        have ih := own_outs (i := i + 1) (ms := ms) (vs := vs) (OwnS.nil (g := g) (F := F) (H := H)) hl' fun j hj => by
          have hj' : i + (j + 1) ∈ pins i (m :: ms) := by
            cases m with
            | sh => show i + (j + 1) ∈ pins (i + 1) ms; rw [show i + (j + 1) = i + 1 + j by omega]; exact hj
            | io => exact List.mem_cons_of_mem _ (by rw [show i + (j + 1) = i + 1 + j by omega]; exact hj)
          have := k (j + 1) hj'
          simpa using this
        obtain ⟨fo, h1, h2⟩ := ih
        refine ⟨fo, h1, ?_⟩
        cases m with
        | sh => exact .no h2
        | io => exact .no h2
      | @no u σ ρ fp q =>
        have ih := own_outs (i := i + 1) (ms := ms) (vs := vs) q hl' fun j hj => by
          have hj' : i + (j + 1) ∈ pins i (m :: ms) := by
            cases m with
            | sh => show i + (j + 1) ∈ pins (i + 1) ms; rw [show i + (j + 1) = i + 1 + j by omega]; exact hj
            | io => exact List.mem_cons_of_mem _ (by rw [show i + (j + 1) = i + 1 + j by omega]; exact hj)
          have := k (j + 1) hj'
          simpa using this
        obtain ⟨fo, h1, h2⟩ := ih
        refine ⟨fo, h1, ?_⟩
        cases m with
        | sh => exact .no h2
        | io => exact .no h2
      | @yes u t σ ρ f0 fq h q =>
        have ih := own_outs (i := i + 1) (ms := ms) (vs := vs) q hl' fun j hj => by
          have hj' : i + (j + 1) ∈ pins i (m :: ms) := by
            cases m with
            | sh => show i + (j + 1) ∈ pins (i + 1) ms; rw [show i + (j + 1) = i + 1 + j by omega]; exact hj
            | io => exact List.mem_cons_of_mem _ (by rw [show i + (j + 1) = i + 1 + j by omega]; exact hj)
          have := k (j + 1) hj'
          simpa using this
        obtain ⟨fo, h1, h2⟩ := ih
        cases m with
        | sh => exact ⟨fo, h1.trans (List.sublist_append_right _ _), .no h2⟩
        | io =>
          have e := k 0 (by show i + 0 ∈ i :: pins (i + 1) ms; simp)
          have e : some (some u) = some (some v) := by simpa using e
          cases e
          exact ⟨f0 ++ fo, (List.Sublist.refl _).append h1, .yes h h2⟩
/-- a body that keeps its mirror makes a def that keeps the mirror's promise -/
theorem spM_body {N : List Str} {ms : List Md} {b : Env → R Fl} {vs : List V} {Q : VK} {E : XK} (hl : ms.length ≤ N.length) (h : spM g ms.length (runF N.length ms b) vs H Q E) :
    SOf g (fun cls d _ H => E cls d H) (pins 0 ms) b { nx := fun _ H' => Q .non H', rt := Q } (L2.start N vs) H := by
  obtain ⟨hn, F, ts, fp, le, o, nd, ho, q⟩ := h
  have hlt : vs.length = ts.length := o.length
  have st : Sta g F H (L2.start N vs) (ts.map some ++ List.replicate (N.length - ts.length) none) fp := by
    refine ⟨le, ?_, nd, ho⟩
    have := (own_start o).append (own_nones (g := g) (F := F) (H := H) (N.length - ts.length))
    unfold L2.start
    rw [hlt]
    simpa using this
  have pin : ∀ {σ' : St}, Agree (pins 0 ms) (L2.start N vs) σ' → ∀ j, 0 + j ∈ pins 0 ms → σ'[j]? = (vs.map some)[j]? := fun {σ'} ag j hj => by
    rw [Nat.zero_add] at hj
    rw [ag j hj]
    have hj' : ∀ (i : Nat) (ms : List Md) (j : Nat), j ∈ pins i ms → j < i + ms.length := by
      intro i ms
      induction ms generalizing i with
      | nil => intro j h; cases h
      | cons m ms ih =>
        intro j h
        cases m with
        | sh =>
          have := ih (i + 1) j h
          simp only [List.length_cons]
          omega
        | io =>
          rcases List.mem_cons.mp h with h | h
          · simp only [List.length_cons]
            omega
          · have := ih (i + 1) j h
            simp only [List.length_cons]
            omega
    have := hj' 0 ms j hj
    unfold L2.start
    rw [List.getElem?_append_left (by simp; omega)]
  refine ⟨F, _, fp, st, ?_⟩
  unfold runF at q
  cases hb : b (ts.map some ++ List.replicate (N.length - ts.length) none) with
  | bad => rw [hb] at q; exact q
  | exc c n d ρ' =>
    rw [hb] at q
    intro d' σ' F' H' fp' s1 st1 ex ag
    obtain ⟨fo, h1, h2⟩ := own_outs st1.own hn (pin ag)
    exact q d' F' H' fo (s1.wid (fun _ z => z) fun a ha => .inl (h1.subset ha)) st1.le (st1.nd.sublist h1) (fun a ha => st1.out a (h1.subset ha)) ex h2
  | ok fl ρ' p =>
    rw [hb] at q
    cases fl with
    | bk => exact q.elim
    | ct => exact q.elim
    | nx =>
      intro σ' F' H' fp' s1 st1 ag
      obtain ⟨fo, h1, h2⟩ := own_outs st1.own hn (pin ag)
      exact q .non F' H' [] fo (s1.wid (fun _ z => z) fun a ha => .inl (h1.subset (by simpa using ha))) st1.le (by simpa using st1.nd.sublist h1) (fun a ha => st1.out a (h1.subset (by simpa using ha))) (.d .non) h2
    | rt t =>
      intro v σ' F' H' fq fp' s1 nd1 ho1 st1 op ag
      obtain ⟨fo, h1, h2⟩ := own_outs st1.own hn (pin ag)
      refine q v F' H' fq fo (s1.wid (fun _ z => z) fun a ha => .inl ?_) st1.le (nd1.sublist ((List.Sublist.refl _).append h1)) (fun a ha => ?_) op h2
      · rcases List.mem_append.mp ha with ha | ha
        · exact List.mem_append_left _ ha
        · exact List.mem_append_right _ (h1.subset ha)
      · rcases List.mem_append.mp ha with ha | ha
        · exact ho1 a ha
        · exact st1.out a (h1.subset ha)
end
section
variable {P : Program} {w : World} {K : PySem.W.Frag} {mg : Str → Option Value} {base : Heap} {g : G}
/-- a def of the text by the mirror of its body -/
theorem def_ok {name qual : Str} {params : Arguments} {body : List Stmt} {scope : Scope} {f : Addr} {N ps : List Str} {k : Nat} {ms : List Md} {b : Env → R Fl} {oc dV kV doc pm cdv ct : Value} {od an : Option Addr} {osl : Array (Option Value)}
    (lk : K.lookup f = some ⟨oc, od, .func (PySem.W.fnOf name qual params body scope dV kV doc pm an cdv ct), osl⟩) (hcd : PySem.W.codeIn K cdv qual = true) (S : FnScope N ps scope) (hp : ps.length = ms.length)
    (h : ∀ (A : Around) (outer : List PySem.Env) (s : Shared) (H : Hp) (E : XK), Room k (A.deeper (PyProof.Rows.envOfC qual scope s.heap.objs.size f cdv)) → A.guards = some [] →
      DSs (cxOf (L2.CX P w) P w K mg base N qual scope f cdv A outer s H E) g (pins 0 ms) body b) :
    FnG P w K mg base (k + 1) f (PySem.W.fnOf name qual params body scope dV kV doc pm an cdv ct) ps (spM g ms.length (runF N.length ms b)) := by
  have hl : ps.length ≤ N.length := by
    have := congrArg List.length S.pre
    rw [List.length_take] at this
    omega
  refine fnG_of lk hcd S (fun vs H Q E q => by rw [hp]; exact q.1) fun A outer s H vs Q E hr hg hsp => ?_
  exact ⟨_, h A outer s H E hr hg _ (takes_of rfl rfl rfl rfl) (passes_of rfl), spM_body (by omega) hsp⟩
end
end MV
/-! MvG: a call of a def by its mirror. -/
namespace MV
open PySem L2
/-- the arguments, taken out of the slots -/
def moveOut : List Md → Env → List Op → Option (List T × Env)
  | [], ρ, [] => some ([], ρ)
  | .sh :: ms, ρ, .tm (.d x) :: os => (moveOut ms ρ os).map fun r => (.d x :: r.1, r.2)
  | .sh :: ms, ρ, .tm (.v x) :: os => (moveOut ms ρ os).map fun r => (.v x :: r.1, r.2)
  | .io :: ms, ρ, .tm t :: os => (moveOut ms ρ os).map fun r => (t :: r.1, r.2)
  | .io :: ms, ρ, .pl i p :: os => match ρ[i]? with
    | some (some t0) => (match T.at t0 p, T.put t0 p .h with
      | some t, some t1 => (moveOut ms (ρ.set i (some t1)) os).map fun r => (t :: r.1, r.2)
      | _, _ => none)
    | _ => none
  | _, _, _ => none
/-- .. and what has become of them, put back -/
def putBack : Env → List Op → Env → Option Env
  | ρ, .pl i p :: os, some t :: us => match ρ[i]? with
    | some (some t0) => (match T.at t0 p, T.put t0 p t with
      | some .h, some t1 => putBack (ρ.set i (some t1)) os us
      | _, _ => none)
    | _ => none
  | ρ, .tm _ :: os, _ :: us => putBack ρ os us
  | ρ, .pl _ _ :: os, none :: us => none
  | ρ, [], [] => some ρ
  | _, _, _ => none
def noIo (ms : List Md) : Bool := ms.all fun m => match m with
  | .sh => true
  | .io => false
def isH : Option T → Bool
  | some .h => true
  | _ => false
def holes (ρ : Env) (os : List Op) : Bool := os.all fun o => match o with
  | .tm _ => true
  | .pl i p => (match ρ[i]? with
    | some (some t) => isH (T.at t p)
    | _ => false)
def fCall (ms : List Md) (m : List T → RF) : Env → List Op → R Op := fun ρ os => match moveOut ms ρ os with
  | some (ts, ρh) => if holes ρh os = true then (match m ts with
    | .ret t us => (match putBack ρh os us with
      | some ρ' => .ok (.tm t) ρ' (noIo ms)
      | none => .bad)
    | .exc c ns ds us => (match putBack ρh os us with
      | some ρ' => .exc c ns ds ρ'
      | none => .bad)
    | .bad => .bad) else .bad
  | none => .bad
/-- the operands, their ways told apart from what is owned -/
inductive Ways (g : G) (F H : Hp) (σ : St) : List Op → List V → List Addr → Prop
  | nil : Ways g F H σ [] [] []
  | tm {t : T} {v : V} {os : List Op} {vs : List V} {fq fr : List Addr} : Own g F H v t fq → Ways g F H σ os vs fr → Ways g F H σ (.tm t :: os) (v :: vs) (fq ++ fr)
  | pl {i : Nat} {p : List Sel} {v v0 : V} {as : List Addr} {os : List Op} {vs : List V} {fr : List Addr} : σ[i]? = some (some v0) → Way H v0 p as v → Ways g F H σ os vs fr → Ways g F H σ (.pl i p :: os) (v :: vs) fr
/-- the ways of the places alone -/
inductive WaysP (H : Hp) (σ : St) : List Op → List V → Prop
  | nil : WaysP H σ [] []
  | tm {t : T} {v : V} {os : List Op} {vs : List V} : WaysP H σ os vs → WaysP H σ (.tm t :: os) (v :: vs)
  | pl {i : Nat} {p : List Sel} {v v0 : V} {as : List Addr} {os : List Op} {vs : List V} : σ[i]? = some (some v0) → Way H v0 p as v → WaysP H σ os vs → WaysP H σ (.pl i p :: os) (v :: vs)
section
variable {g : G} {F F' F1 F2 H H' H1 H2 : Hp} {σ : St} {ρ ρ1 : Env} {fp fq fs fp1 fp2 fq1 fq2 : List Addr} {W : WX} {X : Cx} {P : List Nat}
theorem perm_mid (a b c : List Addr) : (a ++ b ++ c).Perm (b ++ (a ++ c)) := by
  rw [← List.append_assoc]
  exact List.perm_append_comm.append_right c
theorem Own.h_nil {v : V} (h : Own g F H v .h fp) : fp = [] := by cases h; rfl
theorem Ways.of : ∀ {os : List Op} {vs : List V} {fq : List Addr}, OpnL g F H σ fp os vs fq → Ways g F H σ os vs fq
  | _, _, _, .nil => .nil
  | .tm t :: _, _, _, .cons h q => .tm h (Ways.of q)
  | .pl i p :: _, _, _, .cons h q => by
    obtain ⟨rfl, v0, as, a1, a2, a3⟩ := h
    exact .pl a1 a2 (Ways.of q)
theorem Ways.p : ∀ {os : List Op} {vs : List V} {fq : List Addr}, Ways g F H σ os vs fq → WaysP H σ os vs
  | _, _, _, .nil => .nil
  | _, _, _, .tm _ q => .tm q.p
  | _, _, _, .pl a b q => .pl a b q.p
theorem moveOut_ok : ∀ {ms : List Md} {os : List Op} {ρ : Env} {fp fq : List Addr} {vs : List V} {ts : List T} {ρh : Env}, Sta g F H σ ρ fp → Ways g F H σ os vs fq → (fq ++ fp).Nodup → (∀ a ∈ fq, F a = none) → moveOut ms ρ os = some (ts, ρh) →
    ∃ fa fh, OwnL g F H vs ts fa ∧ Sta g F H σ ρh fh ∧ (fa ++ fh).Perm (fq ++ fp) ∧ ts.length = ms.length ∧ (noIo ms = true → fa = [] ∧ ρh = ρ ∧ fh = fp ∧ ∀ r us, putBack ρ os us = some r → r = ρ)
  | [], [], ρ, fp, fq, vs, ts, ρh, st, op, nd, ho, e => by
    have e := Option.some.inj (show some ([], ρ) = some (ts, ρh) from e)
    cases e
    cases op
    refine ⟨[], fp, .nil, st, by simp, rfl, fun _ => ⟨rfl, rfl, rfl, fun r us h => ?_⟩⟩
    cases us with
    | nil => exact (Option.some.inj (show some ρ = some r from h)).symm
    | cons u us => cases h
  | [], _ :: _, ρ, fp, fq, vs, ts, ρh, st, op, nd, ho, e => by cases e
  | .sh :: ms, [], ρ, fp, fq, vs, ts, ρh, st, op, nd, ho, e => by cases e
  | .io :: ms, [], ρ, fp, fq, vs, ts, ρh, st, op, nd, ho, e => by cases e
  | .sh :: ms, .pl _ _ :: os, ρ, fp, fq, vs, ts, ρh, st, op, nd, ho, e => by cases e
  | .sh :: ms, .tm t :: os, ρ, fp, fq, vs, ts, ρh, st, op, nd, ho, e => by
    cases op with
    | @tm _ v _ vs f0 fr h q =>
      have nd2 : (fr ++ fp).Nodup := by
        rw [List.append_assoc] at nd
        exact (List.nodup_append.mp nd).2.1
      have go : ∀ {u : T}, Own g F H v u [] → f0 = [] → (moveOut ms ρ os).map (fun r => (u :: r.1, r.2)) = some (ts, ρh) →
          ∃ fa fh, OwnL g F H (v :: vs) ts fa ∧ Sta g F H σ ρh fh ∧ (fa ++ fh).Perm (f0 ++ fr ++ fp) ∧ ts.length = (Md.sh :: ms).length ∧ (noIo (.sh :: ms) = true → fa = [] ∧ ρh = ρ ∧ fh = fp ∧ ∀ r us, putBack ρ (.tm t :: os) us = some r → r = ρ) := fun {u} ou e0 e => by
        obtain ⟨⟨ts', ρ'⟩, h1, h2⟩ := Option.map_eq_some_iff.mp e
        cases h2
        obtain ⟨fa, fh, k1, k2, k3, k5, k6⟩ := moveOut_ok st q nd2 (fun a ha => ho a (List.mem_append_right _ ha)) h1
        subst e0
        refine ⟨fa, fh, OwnL.cons (fp := []) ou k1, k2, by simpa using k3, by simp [k5], fun z => ?_⟩
        obtain ⟨a, b, c, d⟩ := k6 (by simpa [noIo] using z)
        refine ⟨a, b, c, fun r us h => ?_⟩
        cases us with
        | nil => cases h
        | cons u us => exact d r us h
      cases t with
      | d x =>
        cases h with
        | d is => exact go (.d is) rfl e
      | v x =>
        cases h with
        | v => exact go .v rfl e
      | l _ => cases e
      | t _ => cases e
      | k _ _ => cases e
      | o _ _ _ => cases e
      | h => cases e
      | scr _ => cases e
  | .io :: ms, .tm t :: os, ρ, fp, fq, vs, ts, ρh, st, op, nd, ho, e => by
    cases op with
    | @tm _ v _ vs f0 fr h q =>
      have nd' := nd
      rw [List.append_assoc] at nd'
      have n1 := List.nodup_append.mp nd'
      obtain ⟨⟨ts', ρ'⟩, h1, h2⟩ := Option.map_eq_some_iff.mp (show (moveOut ms ρ os).map (fun r => (t :: r.1, r.2)) = some (ts, ρh) from e)
      cases h2
      obtain ⟨fa, fh, k1, k2, k3, k5, k6⟩ := moveOut_ok st q n1.2.1 (fun a ha => ho a (List.mem_append_right _ ha)) h1
      refine ⟨f0 ++ fa, fh, .cons h k1, k2, ?_, by simp [k5], fun z => by simp [noIo] at z⟩
      rw [List.append_assoc, List.append_assoc]
      exact k3.append_left f0
  | .io :: ms, .pl i p :: os, ρ, fp, fq, vs, ts, ρh, st, op, nd, ho, e => by
    cases op with
    | @pl _ _ v v0 as _ vs _ a1 a2 q =>
      have e : (match ρ[i]? with
        | some (some t0) => (match T.at t0 p, T.put t0 p .h with
          | some t, some t1 => (moveOut ms (ρ.set i (some t1)) os).map fun r => (t :: r.1, r.2)
          | _, _ => none)
        | _ => none) = some (ts, ρh) := e
      cases e0 : ρ[i]? with
      | none => rw [e0] at e; cases e
      | some o0 =>
        cases o0 with
        | none => rw [e0] at e; cases e
        | some t0 =>
          rw [e0] at e
          dsimp only at e
          cases e1 : T.at t0 p with
          | none => rw [e1] at e; cases e
          | some t =>
            obtain ⟨g1, gm, g2, rfl, b1, b2⟩ := st.place a1 a2 e0 e1
            obtain ⟨t1, b3, b4⟩ := b2 F H .h [] (Le.refl _) (fun _ _ _ z => z) .h
            rw [e1, b3] at e
            dsimp only at e
            obtain ⟨⟨ts', ρ'⟩, h1, h2⟩ := Option.map_eq_some_iff.mp e
            cases h2
            have pm : (g1 ++ gm ++ g2).Perm (gm ++ (g1 ++ [] ++ g2)) := by
              simp only [List.append_nil]
              exact perm_mid g1 gm g2
            have n2 := List.nodup_append.mp (pm.nodup_iff.mp st.nd)
            have st' : Sta g F H σ (ρ.set i (some t1)) (g1 ++ [] ++ g2) := ⟨st.le, b4, n2.2.1, fun a ha => st.out a (pm.mem_iff.mpr (List.mem_append_right _ ha))⟩
            have n3 := List.nodup_append.mp nd
            have nd' : (fq ++ (g1 ++ [] ++ g2)).Nodup := List.nodup_append.mpr ⟨n3.1, n2.2.1, fun a ha b hb => n3.2.2 a ha b (pm.mem_iff.mpr (List.mem_append_right _ hb))⟩
            obtain ⟨fa, fh, k1, k2, k3, k5, k6⟩ := moveOut_ok st' q nd' ho h1
            refine ⟨gm ++ fa, fh, .cons b1 k1, k2, ?_, by simp [k5], fun z => by simp [noIo] at z⟩
            rw [List.append_assoc]
            refine (k3.append_left gm).trans ?_
            exact (List.perm_append_comm_assoc gm fq _).trans (pm.symm.append_left fq)
theorem Way.addr : ∀ {p : List Sel} {t0 t : T} {v0 v : V} {f0 as : List Addr}, Way H v0 p as v → Own g F H v0 t0 f0 → T.at t0 p = some t → ∀ a ∈ as, a ∈ f0
  | [], t0, t, _, _, f0, _, .nil, o, e => fun _ z => nomatch z
  | s :: p, t0, t, _, v, f0, _, w, o, e => by
    obtain ⟨y, hy, e2⟩ := Option.bind_eq_some_iff.mp (show (T.sub t0 s).bind (fun y => T.at y p) = some t from e)
    clear e
    have fin : ∀ {a : Addr} {as f fp : List Addr}, (∀ b ∈ as, b ∈ f) → (∀ b ∈ f, b ∈ fp) → ∀ b ∈ a :: as, b ∈ a :: fp := fun h k b hb => by
      rcases List.mem_cons.mp hb with hb | hb
      · rw [hb]; exact List.mem_cons_self ..
      · exact List.mem_cons_of_mem _ (k b (h b hb))
    cases w with
    | lst h hx w =>
      cases o with
      | l h' q =>
        rw [h] at h'
        cases h'
        obtain ⟨v1, f1, h1, h2, h3⟩ := q.get (show _ = some y from hy)
        rw [hx] at h1
        cases h1
        exact fin (w.addr h2 e2) h3
      | t h' q => rw [h] at h'; cases h'
      | k h' _ q => rw [h] at h'; cases h'
      | o h' _ q => rw [h] at h'; cases h'
      | d _ => cases hy
      | v => cases hy
      | h => cases hy
      | scr => cases hy
    | tup h hx w =>
      cases o with
      | t h' q =>
        rw [h] at h'
        cases h'
        obtain ⟨v1, f1, h1, h2, h3⟩ := q.get (show _ = some y from hy)
        rw [hx] at h1
        cases h1
        exact fin (w.addr h2 e2) h3
      | l h' q => rw [h] at h'; cases h'
      | k h' _ q => rw [h] at h'; cases h'
      | o h' _ q => rw [h] at h'; cases h'
      | d _ => cases hy
      | v => cases hy
      | h => cases hy
      | scr => cases hy
    | @key a kvs k x _ _ as h hx w =>
      cases o with
      | k h' z q =>
        rw [h] at h'
        cases h'
        subst z
        obtain ⟨v1, f1, h1, h2, h3⟩ := pick_own q (show _ = some y from hy)
        rw [hx] at h1
        cases h1
        exact fin (w.addr h2 e2) h3
      | l h' q => rw [h] at h'; cases h'
      | t h' q => rw [h] at h'; cases h'
      | o h' _ q => rw [h] at h'; cases h'
      | d _ => cases hy
      | v => cases hy
      | h => cases hy
      | scr => cases hy
    | @fld a C dx fs k x _ _ as h hx w =>
      cases o with
      | o h' z q =>
        rw [h] at h'
        cases h'
        subst z
        obtain ⟨v1, f1, h1, h2, h3⟩ := pick_own q (show _ = some y from hy)
        rw [hx] at h1
        cases h1
        exact fin (w.addr h2 e2) h3
      | l h' q => rw [h] at h'; cases h'
      | t h' q => rw [h] at h'; cases h'
      | k h' _ q => rw [h] at h'; cases h'
      | d _ => cases hy
      | v => cases hy
      | h => cases hy
      | scr => cases hy
/-- the ways stay over what changes only what was moved out -/
theorem ways_stay (st : Sta g F H σ ρ fp) (k : ∀ a ∈ fp, ∀ o, H a = some o → H' a = some o) : ∀ {os : List Op} {vs : List V}, WaysP H σ os vs → holes ρ os = true → WaysP H' σ os vs
  | _, _, .nil, _ => .nil
  | _, _, .tm q, e => .tm (ways_stay st k q (by simpa [holes] using e))
  | _, _, .pl (i := i) (p := p) a1 a2 q, e => by
    unfold holes at e
    rw [List.all_cons, Bool.and_eq_true] at e
    refine .pl a1 (a2.keep fun a ha => k a ?_) (ways_stay st k q e.2)
    have e1 := e.1
    dsimp only at e1
    split at e1
    · rename_i t0 e0
      have e2 : ∃ t, T.at t0 p = some t := by
        cases z : T.at t0 p with
        | none => rw [z] at e1; cases e1
        | some t => exact ⟨t, rfl⟩
      obtain ⟨t, e2⟩ := e2
      obtain ⟨v', f0, f1, f2, k1, k2, rfl, _⟩ := st.own.get e0
      rw [a1] at k1
      cases k1
      have := a2.addr k2 e2 a ha
      simp [this]
    · cases e1
theorem putBack_ok : ∀ {os : List Op} {us : Env} {ρ : Env} {fp fo : List Addr} {vs : List V} {ρ' : Env}, Sta g F H σ ρ fp → WaysP H σ os vs → OwnS g F H (vs.map some) us fo → (fo ++ fp).Nodup → (∀ a ∈ fo, F a = none) → putBack ρ os us = some ρ' →
    ∃ fp', Sta g F H σ ρ' fp' ∧ ∀ a ∈ fp', a ∈ fo ++ fp
  | [], [], ρ, fp, fo, vs, ρ', st, w, o, nd, ho, e => by
    have e := Option.some.inj (show some ρ = some ρ' from e)
    subst e
    exact ⟨fp, st, fun a ha => List.mem_append_right _ ha⟩
  | [], _ :: _, ρ, fp, fo, vs, ρ', st, w, o, nd, ho, e => by cases e
  | .tm _ :: _, [], ρ, fp, fo, vs, ρ', st, w, o, nd, ho, e => by cases e
  | .pl _ _ :: _, [], ρ, fp, fo, vs, ρ', st, w, o, nd, ho, e => by cases e
  | .pl _ _ :: _, none :: _, ρ, fp, fo, vs, ρ', st, w, o, nd, ho, e => by cases e
  | .tm t :: os, u :: us, ρ, fp, fo, vs, ρ', st, w, o, nd, ho, e => by
    cases w with
    | tm w =>
      cases o with
      | no o => exact putBack_ok st w o nd ho e
      | @yes _ _ _ _ f1 f2 h o =>
        have nd' := nd
        rw [List.append_assoc] at nd'
        obtain ⟨fp', k1, k2⟩ := putBack_ok st w o (List.nodup_append.mp nd').2.1 (fun a ha => ho a (List.mem_append_right _ ha)) e
        exact ⟨fp', k1, fun a ha => by
          have := k2 a ha
          simp only [List.mem_append] at this ⊢
          rcases this with this | this <;> simp [this]⟩
  | .pl i p :: os, some t :: us, ρ, fp, fo, vs, ρ', st, w, o, nd, ho, e => by
    cases w with
    | @pl _ _ v v0 as _ vs a1 a2 w =>
      cases o with
      | @yes _ _ _ _ f1 f2 h o =>
        have e : (match ρ[i]? with
          | some (some t0) => (match T.at t0 p, T.put t0 p t with
            | some .h, some t1 => putBack (ρ.set i (some t1)) os us
            | _, _ => none)
          | _ => none) = some ρ' := e
        cases e0 : ρ[i]? with
        | none => rw [e0] at e; cases e
        | some o0 =>
          cases o0 with
          | none => rw [e0] at e; cases e
          | some t0 =>
            rw [e0] at e
            dsimp only at e
            cases e1 : T.at t0 p with
            | none => rw [e1] at e; cases e
            | some th =>
              rw [e1] at e
              obtain ⟨g1, gm, g2, rfl, b1, b2⟩ := st.place a1 a2 e0 e1
              obtain ⟨t1, b3, b4⟩ := b2 F H t f1 (Le.refl _) (fun _ _ _ z => z) h
              rw [b3] at e
              cases th with
              | h =>
                dsimp only at e
                have := b1.h_nil
                subst this
                have pm : (f1 ++ f2 ++ (g1 ++ [] ++ g2)).Perm (f2 ++ (g1 ++ f1 ++ g2)) := by
                  simp only [List.append_nil]
                  rw [List.append_assoc, List.append_assoc]
                  refine List.perm_append_comm.trans ?_
                  rw [List.append_assoc]
                  refine List.Perm.append_left f2 ?_
                  rw [List.append_assoc]
                  exact List.Perm.append_left g1 List.perm_append_comm
                have n1 := List.nodup_append.mp (pm.nodup_iff.mp nd)
                have out1 : ∀ a ∈ f2 ++ (g1 ++ f1 ++ g2), F a = none := fun a ha => by
                  rcases List.mem_append.mp (pm.mem_iff.mpr ha) with ha | ha
                  · exact ho a ha
                  · exact st.out a ha
                have st' : Sta g F H σ (ρ.set i (some t1)) (g1 ++ f1 ++ g2) := ⟨st.le, b4, n1.2.1, fun a ha => out1 a (List.mem_append_right _ ha)⟩
                obtain ⟨fp', k1, k2⟩ := putBack_ok st' w o (pm.nodup_iff.mp nd) (fun a ha => ho a (List.mem_append_right _ ha)) e
                exact ⟨fp', k1, fun a ha => pm.mem_iff.mpr (k2 a ha)⟩
              | d _ => cases e
              | v _ => cases e
              | l _ => cases e
              | t _ => cases e
              | k _ _ => cases e
              | o _ _ _ => cases e
              | scr _ => cases e
/-- what a call by the mirror's promise gives -/
def rCall (sp : Sp) : RN := fun W σ vs H Q => sp vs H Q fun cls d H' => W cls d σ H'
theorem opN_call {ms : List Md} {m : List T → RF} : OpN g (rCall (spM g ms.length m)) (fCall ms m) := by
  intro W σ F H ρ fp fq os vs Q st op nd ho q
  unfold fCall at q
  split at q
  · rename_i ts ρh e
    split at q
    · rename_i hh
      have w := Ways.of op
      obtain ⟨fa, fh, k1, k2, k3, k5, k6⟩ := moveOut_ok st w nd ho e
      have n1 := k3.nodup_iff.mpr nd
      have n2 := List.nodup_append.mp n1
      have outa : ∀ a ∈ fa, F a = none := fun a ha => by
        rcases List.mem_append.mp (k3.mem_iff.mp (List.mem_append_left _ ha)) with ha | ha
        · exact ho a ha
        · exact st.out a ha
      refine ⟨by rw [k1.length, k5], F, ts, fa, st.le, k1, n2.1, outa, ?_⟩
      -- the rest of the slots over the call
      have rest : ∀ {F' H' : Hp} {fx : List Addr}, Stp F H fa F' H' fx → Le F' H' → Sta g F' H' σ ρh fh ∧ (∀ a ∈ fh, a ∉ fx) ∧ WaysP H' σ os vs ∧ ∀ a ∈ fh, ∀ o, H a = some o → H' a = some o := fun {F' H' fx} s le => by
        obtain ⟨c1, c2, c3⟩ := s.carry k2.own.dom k2.out fun a ha hb => n2.2.2 a hb a ha rfl
        exact ⟨⟨le, k2.own.keep s.le c1, k2.nd, c2⟩, c3, ways_stay k2 c1 w.p hh, c1⟩
      have inOld : ∀ a, a ∈ fa ++ fh → a ∈ fq ++ fp := fun a ha => k3.mem_iff.mp ha
      cases hm : m ts with
      | bad => rw [hm] at q; exact q
      | exc c ns ds us =>
        rw [hm] at q
        dsimp only at q
        split at q
        · rename_i ρ' e2
          intro d' F' H' fo s1 le nd1 out1 ex o1
          obtain ⟨r1, r2, r3, r4⟩ := rest s1 le
          obtain ⟨fp', p1, p2⟩ := putBack_ok r1 r3 o1 (List.nodup_append.mpr ⟨nd1, k2.nd, fun a ha b hb e => r2 b hb (e ▸ ha)⟩) out1 e2
          exact q d' F' H' fp' (s1.wid (fun a ha => inOld a (List.mem_append_left _ ha)) fun a ha => by
            rcases List.mem_append.mp (p2 a ha) with ha | ha
            · exact .inl ha
            · exact .inr (inOld a (List.mem_append_right _ ha))) p1 ex
        · exact q.elim
      | ret t us =>
        rw [hm] at q
        dsimp only at q
        split at q
        · rename_i ρ' e2
          intro v F' H' fr fo s1 le nd1 out1 o o1
          obtain ⟨r1, r2, r3, r4⟩ := rest s1 le
          have nd3 := List.nodup_append.mp nd1
          cases hn : noIo ms with
          | true =>
            obtain ⟨e3, e4, e5, e6⟩ := k6 hn
            subst e3
            subst e4
            subst e5
            have e7 := e6 _ _ e2
            subst e7
            have fo0 : ∀ a ∈ fr ++ fh, a ∈ fr ++ fo ∨ a ∈ fq ++ fh := fun a ha => by
              rcases List.mem_append.mp ha with ha | ha
              · exact .inl (List.mem_append_left _ ha)
              · exact .inr (List.mem_append_right _ ha)
            exact q v F' H' fr fh (s1.wid (fun a ha => inOld a (List.mem_append_left _ ha)) fo0) (List.nodup_append.mpr ⟨nd3.1, r1.nd, fun a ha b hb e => r2 b hb (e ▸ List.mem_append_left _ ha)⟩) (fun a ha => out1 a (List.mem_append_left _ ha)) r1 o fun _ => ⟨rfl, rfl, r4⟩
          | false =>
            obtain ⟨fp', p1, p2⟩ := putBack_ok r1 r3 o1 (List.nodup_append.mpr ⟨nd3.2.1, k2.nd, fun a ha b hb e => r2 b hb (e ▸ List.mem_append_right _ ha)⟩) (fun a ha => out1 a (List.mem_append_right _ ha)) e2
            rw [hn] at q
            refine q v F' H' fr fp' (s1.wid (fun a ha => inOld a (List.mem_append_left _ ha)) fun a ha => ?_) (List.nodup_append.mpr ⟨nd3.1, p1.nd, fun a ha b hb e => ?_⟩) (fun a ha => out1 a (List.mem_append_left _ ha)) p1 o fun z => by cases z
            · rcases List.mem_append.mp ha with ha | ha
              · exact .inl (List.mem_append_left _ ha)
              · rcases List.mem_append.mp (p2 a ha) with ha | ha
                · exact .inl (List.mem_append_right _ ha)
                · exact .inr (inOld a (List.mem_append_right _ ha))
            · subst e
              rcases List.mem_append.mp (p2 a hb) with h | h
              · exact nd3.2.2 a ha a h rfl
              · exact r2 a h (List.mem_append_left _ ha)
        · exact q.elim
    · exact q.elim
  · exact q.elim
end
end MV
/-! MvH: the call of a def in a text: positional, by keywords, with defaults. -/
namespace MV
open PySem L2
/-- scalar data as a value -/
def toV : PyData → V
  | .none => .non
  | .bool b => .bl b
  | .int i => .int i
  | .str x => .str x
  | _ => .non
def scalD : PyData → Bool
  | .none | .bool _ | .int _ | .str _ => true
  | _ => false
theorem is_toV {K : PySem.W.Frag} {F : Hp} : ∀ {x : PyData}, scalD x = true → Is K F (toV x) x
  | .none, _ => .non
  | .bool b, _ => .bl b
  | .int i, _ => .int i
  | .str x, _ => .str x
  | .list _, h => by cases h
  | .tuple _, h => by cases h
  | .dict _, h => by cases h
/-- how written arguments come to parameters: the i-th written one, or a default -/
abbrev Arr := List (Sum Nat PyData)
def arrG {α β : Type} (dv : β → α) (all : List α) (nil : α) (arr : List (Sum Nat β)) : List α := arr.map fun a => match a with
  | .inl i => all.getD i nil
  | .inr x => dv x
def arrV (arr : Arr) (all : List V) : List V := arrG toV all .non arr
def arrT (arr : Arr) (all : List T) : List T := arrG T.d all .h arr
/-- a call binds: n positional values, keywords ks -/
structure Bn (K : PySem.W.Frag) (fd : FuncData) (ps : List Str) (n : Nat) (ks : List Str) (arr : Arr) : Prop where
  ex : ∃ au : List (Sum Nat Value), Paired (fun (a : Sum Nat PyData) (b : Sum Nat Value) => (∃ i, a = .inl i ∧ b = .inl i ∧ i < n + ks.length) ∨ ∃ x u, a = .inr x ∧ b = .inr u ∧ scalD x = true ∧ RelV (toV x) u) arr au ∧
    ∀ (s : Shared) (us ws : List Value), K.In s.heap → us.length = n → ws.length = ks.length → BindsTo s fd ⟨us, ks.zip ws⟩ (ps.zip (arrG id (us ++ ws) .none au))
theorem arr_vals {n : Nat} : ∀ {arr : Arr} {au : List (Sum Nat Value)} {all : List V} {us : List Value}, Vals all us → all.length = n → Paired (fun (a : Sum Nat PyData) (b : Sum Nat Value) => (∃ i, a = .inl i ∧ b = .inl i ∧ i < n) ∨ ∃ x u, a = .inr x ∧ b = .inr u ∧ scalD x = true ∧ RelV (toV x) u) arr au →
    Vals (arrV arr all) (arrG id us .none au)
  | _, _, _, _, _, _, .nil => .nil
  | _, _, all, us, r, hl, .cons h q => by
    refine .cons ?_ (arr_vals r hl q)
    rcases h with ⟨i, rfl, rfl, hi⟩ | ⟨x, u, rfl, rfl, hs, ru⟩
    · have e : all[i]? = some (all.getD i .non) := by
        rw [List.getD_eq_getElem?_getD]
        have : i < all.length := by omega
        simp [List.getElem?_eq_getElem this]
      obtain ⟨u, hu, ru⟩ := r.get e
      show RelV (all.getD i .non) (us.getD i .none)
      rw [List.getD_eq_getElem?_getD (l := us), hu]
      exact ru
    · exact ru
section
variable {g : G} {F F' F1 F2 H H' H1 H2 : Hp} {σ : St} {ρ ρ1 : Env} {fp fq fs fp1 fp2 fq1 fq2 : List Addr} {W : WX} {X : Cx} {P : List Nat}
variable {k n : Nat} {f : Addr} {fd : FuncData} {ps ks : List Str} {sp : Sp} {x : Str} {p pos : Pos} {e : Expr} {es : List Expr} {kws : List Keyword} {arr : Arr} {t tk : TA}
theorem run_fnG {pins : List (Addr × Obj)} {s : Shared} {Q : VK} {us ws : List Value} {vs zs : List V} (z : FnG X.prog X.w X.K X.mg X.base k f fd ps sp) (hr : Room k X.A) (hg : X.A.guards = some []) (hb : Bn X.K fd ps n ks arr) (tk : Takes X W)
    (I : Inv X pins σ H s) (r : Vals vs us) (rz : Vals zs ws) (l1 : vs.length = n) (l2 : zs.length = ks.length) (h : sp (arrV arr (vs ++ zs)) H Q fun cls d H' => W cls d σ H') : wpAny (model X.prog X.w) X.A (call (.ref f) us (ks.zip ws)) (EP X pins σ Q) X.xe s := by
  obtain ⟨au, h1, h2⟩ := hb.ex
  have hl : (vs ++ zs).length = n + ks.length := by rw [List.length_append, l1, l2]
  have r2 := arr_vals (r.append rz) hl h1
  refine wpAny_call (codeAny_mono (z.run X.A X.stack s H ⟨us, ks.zip ws⟩ (arrG id (us ++ ws) .none au) _ Q _ hr hg I.env0 (h2 s us ws I.kIn (r.length.symm.trans l1) (rz.length.symm.trans l2)) r2 h) fun r s' hq => ?_)
  cases r with
  | error er => exact passAt tk σ pins H s er s' I hq
  | ok fl =>
    cases fl with
    | ret u => exact I.after hq
    | next => exact hq.elim
    | brk => exact hq.elim
    | cont => exact hq.elim
def tCG (n m : Nat) (sp : Sp) (arr : Arr) (W : WX) (t tk : TA) : TE := fun σ H Q => t σ H fun vs H1 => tk σ H1 fun zs H2 => vs.length = n ∧ zs.length = m ∧ sp (arrV arr (vs ++ zs)) H2 Q fun cls d H' => W cls d σ H'
variable (z : FnG X.prog X.w X.K X.mg X.base k f fd ps sp) (hr : Room k X.A) (hg : X.A.guards = some []) (hm : X.mg x = some (.ref f)) (hk : PySem.W.keepIn X.K (.ref f) = true)
include z hr hg hm hk
theorem pe_cG (hb : Bn X.K fd ps n [] arr) (tx : Takes X W) (ha : PA X (e :: es) t) (hgl : Gl X x) (hdb : (x == ("__debug__" : Str)) = false)
    (he : starEach (e :: es) X.env = (false, eval e X.env) :: starEach es X.env) (hpl : (backTo pos (starEach es X.env)).any (·.1) = false) :
    PE X (.Call (.Name x p) (e :: es) [] pos) (tCG n 0 sp arr W t tNil) := by
  refine ⟨fun pins s σ H Q I h => ?_⟩
  refine wpAny_Call_Name_kw (ld_glob I hgl hm ?_ hdb)
  refine PySem.W.callWith_K (h₀ := X.base) I.ok.mod.kin hk (thn (ha.run pos pins s σ H _ I h) fun us s1 ⟨vs, H1, I1, r, l1, _, q⟩ => ⟨I1.kIn, ?_⟩) he hpl
  exact run_fnG (zs := []) (ws := []) z hr hg hb tx I1 r .nil l1 rfl q
theorem pe_cG0 (hb : Bn X.K fd ps 0 [] arr) (tx : Takes X W) (hgl : Gl X x) (hdb : (x == ("__debug__" : Str)) = false) :
    PE X (.Call (.Name x p) [] [] pos) (tCG 0 0 sp arr W tNil tNil) := by
  refine ⟨fun pins s σ H Q I h => ?_⟩
  refine wpAny_Call_Name_kw (ld_glob I hgl hm ?_ hdb)
  exact PySem.W.callWith_K0 I.kIn hk (run_fnG (us := []) (vs := []) (zs := []) (ws := []) z hr hg hb tx I .nil .nil rfl rfl h.2.2)
theorem pe_cGK (hb : Bn X.K fd ps n ks arr) (tx : Takes X W) (ha : PA X (e :: es) t) (hkw : PK X kws tk) (hgl : Gl X x) (hdb : (x == ("__debug__" : Str)) = false)
    (hall : (backToKw pos (keywordEach kws X.env)).all (·.1.isSome) = true) (hks : (backToKw pos (keywordEach kws X.env)).filterMap (·.1) = ks) (he : starEach (e :: es) X.env = (false, eval e X.env) :: starEach es X.env)
    (hpl : ((backTo pos (starEach (e :: es) X.env)).any (·.1) || (backToKw pos (keywordEach kws X.env)).any (·.1.isNone)) = false) :
    PE X (.Call (.Name x p) (e :: es) kws pos) (tCG n ks.length sp arr W t tk) := by
  refine ⟨fun pins s σ H Q I h => ?_⟩
  refine wpAny_Call_Name_kw (ld_glob I hgl hm ?_ hdb)
  refine PySem.W.callWith_KW (h₀ := X.base) I.ok.mod.kin hk hall (thn (ha.run pos pins s σ H _ I h) fun us s1 ⟨vs, H1, I1, r, q⟩ => ?_) hpl he
  refine thn (hkw.run pos pins s1 σ H1 _ I1 q) fun ws s2 ⟨zs, H2, I2, rz, l1, l2, q2⟩ => ⟨I2.kIn, ?_⟩
  rw [hks]
  exact run_fnG z hr hg hb tx I2 r rz l1 l2 q2
theorem pe_cGK0 (hb : Bn X.K fd ps 0 ks arr) (tx : Takes X W) (hkw : PK X kws tk) (hgl : Gl X x) (hdb : (x == ("__debug__" : Str)) = false)
    (hall : (backToKw pos (keywordEach kws X.env)).all (·.1.isSome) = true) (hks : (backToKw pos (keywordEach kws X.env)).filterMap (·.1) = ks)
    (hpl : ((backTo pos (starEach [] X.env)).any (·.1) || (backToKw pos (keywordEach kws X.env)).any (·.1.isNone)) = false) :
    PE X (.Call (.Name x p) [] kws pos) (tCG 0 ks.length sp arr W tNil tk) := by
  refine ⟨fun pins s σ H Q I h => ?_⟩
  refine wpAny_Call_Name_kw (ld_glob I hgl hm ?_ hdb)
  refine PySem.W.callWith_KW0 (h₀ := X.base) I.ok.mod.kin hk hall (thn (hkw.run pos pins s σ H _ I h) fun ws s2 ⟨zs, H2, I2, rz, l1, l2, q2⟩ => ⟨I2.kIn, ?_⟩) hpl
  rw [hks]
  exact run_fnG (us := []) (vs := []) z hr hg hb tx I2 .nil rz rfl l2 q2
end
section
variable {g : G} {F F' F1 F2 H H' H1 H2 : Hp} {σ : St} {ρ ρ1 : Env} {fp fq fs fp1 fp2 fq1 fq2 : List Addr} {W : WX} {X : Cx} {P : List Nat}
variable {k n : Nat} {f : Addr} {fd : FuncData} {ps ks : List Str} {sp : Sp} {x : Str} {p pos : Pos} {e : Expr} {es : List Expr} {kws : List Keyword} {arr : Arr}
/-! ### the mirror of the written arguments: positional ones, then keywords -/
def DK (X : Cx) (g : G) (kws : List Keyword) (m : Env → R (List Op)) : Prop := ∀ W, Takes X W → PK X kws (AOf g W m)
theorem pk_imp {t t' : TA} (h : PK X kws t) (k : ∀ σ H Q, t' σ H Q → t σ H Q) : PK X kws t' := ⟨fun pos pins s σ H Q I q => h.run pos pins s σ H Q I (k σ H Q q)⟩
theorem dk_nil : DK X g [] mNil := fun W tk => pk_imp pk_nil fun _ _ _ h => aof_nil h
theorem dk_cons {nm : Option Str} {kpos : Pos} {m : M} {ms : Env → R (List Op)} (ha : DE X g e m) (hr : DK X g kws ms) : DK X g (⟨nm, e, kpos⟩ :: kws) (mCons m ms) :=
  fun W tk => pk_imp (pk_cons (ha W tk) (hr W tk)) fun _ _ _ h => aof_cons h
def mApp (ms mk : Env → R (List Op)) : Env → R (List Op) := fun ρ => match ms ρ with
  | .ok os ρ1 p => (match mk ρ1 with
    | .ok us ρ2 q => if (os.any Op.deep && !q) = true then .bad else .ok (os ++ us) ρ2 (p && q)
    | .exc c n d ρ' => .exc c n d ρ'
    | .bad => .bad)
  | .exc c n d ρ' => .exc c n d ρ'
  | .bad => .bad
theorem OpnL.carry : ∀ {os : List Op} {vs : List V} {fs : List Addr}, OpnL g F1 H1 σ fp1 os vs fs → Stp F1 H1 fp1 F2 H2 fq → (∀ a ∈ fs, F1 a = none) → (∀ a ∈ fs, a ∉ fp1) →
    (os.any Op.deep = true → fp2 = fp1 ∧ ∀ a ∈ fp1, ∀ o, H1 a = some o → H2 a = some o) → OpnL g F2 H2 σ fp2 os vs fs
  | _, _, _, .nil, _, _, _, _ => .nil
  | _, _, _, .cons h q, s, ho, dj, hd => .cons (h.carry s (fun a ha => ho a (List.mem_append_left _ ha)) (fun a ha => dj a (List.mem_append_left _ ha)) fun z => hd (by simp [z]))
      (q.carry s (fun a ha => ho a (List.mem_append_right _ ha)) (fun a ha => dj a (List.mem_append_right _ ha)) fun z => hd (by simp only [List.any_cons, z, Bool.or_true]))
theorem OpnL.append : ∀ {os us : List Op} {vs zs : List V} {fs fr : List Addr}, OpnL g F H σ fp os vs fs → OpnL g F H σ fp us zs fr → OpnL g F H σ fp (os ++ us) (vs ++ zs) (fs ++ fr)
  | _, _, _, _, _, _, .nil, s => s
  | _, _, _, _, _, _, .cons h q, s => by rw [List.append_assoc]; exact .cons h (OpnL.append q s)
theorem OpnL.length : ∀ {os : List Op} {vs : List V} {fs : List Addr}, OpnL g F H σ fp os vs fs → vs.length = os.length
  | _, _, _, .nil => rfl
  | _, _, _, .cons h q => by simp [OpnL.length q]
theorem aof_app {ms mk : Env → R (List Op)} {Q : List V → Hp → Prop} (h : AOf g W (mApp ms mk) σ H Q) : AOf g W ms σ H fun vs H1 => AOf g W mk σ H1 fun zs H2 => Q (vs ++ zs) H2 := by
  obtain ⟨F, ρ, fp, st, h⟩ := h
  refine ⟨F, ρ, fp, st, ?_⟩
  unfold mApp at h
  cases hm : ms ρ with
  | bad => rw [hm] at h; exact h
  | exc c n d ρ' => rw [hm] at h; exact h
  | ok os ρ1 p =>
    rw [hm] at h
    intro vs F1 H1 fs fp1 s1 n1 o1 st1 op1 pu1
    refine ⟨F1, ρ1, fp1, st1, ?_⟩
    dsimp only at h
    cases hms : mk ρ1 with
    | bad => rw [hms] at h; exact h
    | exc c n d ρ' =>
      rw [hms] at h
      exact fun d' F2 H2 fp2 s2 st2 ex => h d' F2 H2 fp2 ((Stp.trans s1 s2).wid (fun _ z => z) fun a ha => .inl (List.mem_append_right _ ha)) st2 ex
    | ok us ρ2 q =>
      rw [hms] at h
      dsimp only at h
      split at h
      · exact h.elim
      · rename_i hdq
        intro zs F2 H2 fq fp2 s2 n2 o2 st2 op2 pu2
        have dj : ∀ a ∈ fs, a ∉ fp1 := fun a ha z => (List.nodup_append.mp n1).2.2 a ha a z rfl
        obtain ⟨k1, k2, k3⟩ := s2.carry op1.dom o1 dj
        refine h (vs ++ zs) F2 H2 (fs ++ fq) fp2 (by rw [List.append_assoc]; exact Stp.trans s1 s2) (nodup_carry n1 n2 k3) (fun a ha => (List.mem_append.mp ha).elim (k2 a) (o2 a)) st2
          ((op1.carry s2 o1 dj fun z => ?_).append op2) fun z => ?_
        · have hq : q = true := by
            cases q with
            | true => rfl
            | false => rw [z] at hdq; exact absurd rfl hdq
          obtain ⟨_, e, k⟩ := pu2 hq
          exact ⟨e, k⟩
        · rw [Bool.and_eq_true] at z
          exact (pu1 z.1).trans (pu2 z.2)
theorem aof_mono {m : Env → R (List Op)} {A B : List V → Hp → Prop} (h : AOf g W m σ H A) (k : ∀ x H', A x H' → B x H') : AOf g W m σ H B := by
  obtain ⟨F, ρ, fp, st, h⟩ := h
  refine ⟨F, ρ, fp, st, ?_⟩
  cases hm : m ρ with
  | bad => rw [hm] at h; exact h
  | exc c n d ρ' => rw [hm] at h; exact h
  | ok o ρ1 p =>
    rw [hm] at h
    exact fun v F1 H1 fq fp1 s1 n1 o1 st1 op1 pu1 => k _ _ (h v F1 H1 fq fp1 s1 n1 o1 st1 op1 pu1)
/-- the written arguments are as many as they are -/
def Len (m : Env → R (List Op)) (n : Nat) : Prop := ∀ ρ os ρ' p, m ρ = .ok os ρ' p → os.length = n
theorem len_nil : Len mNil 0 := fun ρ os ρ' p e => by
  have e : R.ok [] ρ true = R.ok os ρ' p := e
  cases e
  rfl
theorem len_cons {m : M} {ms : Env → R (List Op)} (h : Len ms n) : Len (mCons m ms) (n + 1) := fun ρ os ρ' p e => by
  unfold mCons at e
  split at e
  · split at e
    · rename_i e2
      split at e
      · cases e
      · cases e
        simp [h _ _ _ _ e2]
    · cases e
    · cases e
  · cases e
  · cases e
theorem aof_len {m : Env → R (List Op)} {A : List V → Hp → Prop} (hl : Len m n) (h : AOf g W m σ H A) : AOf g W m σ H fun vs H' => vs.length = n ∧ A vs H' := by
  obtain ⟨F, ρ, fp, st, h⟩ := h
  refine ⟨F, ρ, fp, st, ?_⟩
  cases hm : m ρ with
  | bad => rw [hm] at h; exact h
  | exc c n d ρ' => rw [hm] at h; exact h
  | ok o ρ1 p =>
    rw [hm] at h
    exact fun v F1 H1 fq fp1 s1 n1 o1 st1 op1 pu1 => ⟨op1.length.trans (hl _ _ _ _ hm), h v F1 H1 fq fp1 s1 n1 o1 st1 op1 pu1⟩
/-- every parameter is a written argument, in order -/
def idArr (n : Nat) : Arr := (List.range n).map Sum.inl
theorem arrV_id (all : List V) : arrV (idArr all.length) all = all := by
  unfold arrV arrG idArr
  rw [List.map_map]
  apply List.ext_getElem?
  intro i
  by_cases hi : i < all.length
  · simp [hi, List.getD_eq_getElem?_getD]
  · simp [hi]
/-- a call of a def whose parameters share -/
def fCallK (n : Nat) (arr : Arr) (m : List T → RF) : Env → List Op → R Op := fun ρ os => match moveOut (List.replicate n .sh) ρ os with
  | some (ts, _) => (match m (arrT arr ts) with
    | .ret t _ => .ok (.tm t) ρ true
    | .exc c ns ds _ => .exc c ns ds ρ
    | .bad => .bad)
  | none => .bad
def rCallK (arr : Arr) (sp : Sp) : RN := fun W σ all H Q => sp (arrV arr all) H Q fun cls d H' => W cls d σ H'
theorem own_arr {all : List V} {ts : List T} (o : OwnL g F H all ts []) : ∀ {arr : Arr}, (∀ a ∈ arr, (∃ i, a = .inl i ∧ i < all.length) ∨ ∃ x, a = .inr x ∧ scalD x = true) → OwnL g F H (arrV arr all) (arrT arr ts) []
  | [], _ => .nil
  | a :: arr, h => by
    have ih := own_arr o (arr := arr) fun b hb => h b (List.mem_cons_of_mem _ hb)
    refine OwnL.cons (fp := []) (fq := []) ?_ ih
    rcases h a (List.mem_cons_self ..) with ⟨i, rfl, hi⟩ | ⟨x, rfl, hx⟩
    · have hl := o.length
      have e : ts[i]? = some (ts.getD i .h) := by
        rw [List.getD_eq_getElem?_getD]
        simp [List.getElem?_eq_getElem (show i < ts.length by omega)]
      obtain ⟨v, f, h1, h2, h3⟩ := o.get e
      have hf : f = [] := by
        cases f with
        | nil => rfl
        | cons b f => exact absurd (h3 b (List.mem_cons_self ..)) (by simp)
      subst hf
      show Own g F H (all.getD i .non) (ts.getD i .h) []
      rw [List.getD_eq_getElem?_getD (l := all), h1]
      exact h2
    · exact .d (is_toV hx)
theorem opN_callK {m : List T → RF} (ha : ∀ a ∈ arr, (∃ i, a = .inl i ∧ i < n) ∨ ∃ x, a = .inr x ∧ scalD x = true) : OpN g (rCallK arr (spM g arr.length m)) (fCallK n arr m) := by
  intro W σ F H ρ fp fq os vs Q st op nd ho q
  unfold fCallK at q
  split at q
  · rename_i ts ρh e
    obtain ⟨fa, fh, k1, k2, k3, k5, k6⟩ := moveOut_ok st (Ways.of op) nd ho e
    have hn : noIo (List.replicate n Md.sh) = true := by
      unfold noIo
      simp
    obtain ⟨e3, e4, e5, e6⟩ := k6 hn
    subst e3
    subst e4
    subst e5
    have hl : vs.length = n := by rw [k1.length, k5]; simp
    refine ⟨by unfold arrV arrG; simp, F, arrT arr ts, [], st.le, own_arr k1 (fun a h => by rw [hl]; exact ha a h), List.nodup_nil, (fun _ z => nomatch z), ?_⟩
    have sub : ∀ a ∈ fh, a ∈ fq ++ fh := fun a ha => List.mem_append_right _ ha
    cases hm : m (arrT arr ts) with
    | bad => rw [hm] at q; exact q
    | exc c ns ds us =>
      rw [hm] at q
      intro d' F' H' fo s1 le nd1 out1 ex o1
      obtain ⟨c1, c2, c3⟩ := s1.carry st.own.dom st.out (fun a _ z => nomatch z)
      exact q d' F' H' fh (s1.wid (fun _ z => nomatch z) fun a ha => .inr (sub a ha)) ⟨le, st.own.keep s1.le c1, st.nd, c2⟩ ex
    | ret t us =>
      rw [hm] at q
      intro v F' H' fr fo s1 le nd1 out1 o o1
      obtain ⟨c1, c2, c3⟩ := s1.carry st.own.dom st.out (fun a _ z => nomatch z)
      refine q v F' H' fr fh (s1.wid (fun _ z => nomatch z) fun a ha => ?_) (List.nodup_append.mpr ⟨(List.nodup_append.mp nd1).1, st.nd, fun a ha b hb e => c3 b hb (e ▸ List.mem_append_left _ ha)⟩) (fun a ha => out1 a (List.mem_append_left _ ha)) ⟨le, st.own.keep s1.le c1, st.nd, c2⟩ o fun _ => ⟨rfl, rfl, c1⟩
      rcases List.mem_append.mp ha with ha | ha
      · exact .inl (List.mem_append_left _ ha)
      · exact .inr (sub a ha)
  · exact q.elim
/-! ### the rules -/
theorem tcg_pos {r : RN} {fx : Env → List Op → R Op} {ms : Env → R (List Op)} {Q : VK} (hl : Len ms n) (hf : OpN g r fx) (hr : ∀ vs H Q, vs.length = n → r W σ vs H Q → sp (arrV arr vs) H Q fun cls d H' => W cls d σ H') (h : EOf g W (mOpN fx ms) σ H Q) : tCG n 0 sp arr W (AOf g W ms) tNil σ H Q :=
  aof_mono (aof_len hl (eof_opN hf h)) fun vs H1 h => ⟨h.1, rfl, by rw [List.append_nil]; exact hr _ _ _ h.1 h.2⟩
theorem tcg_all {r : RN} {fx : Env → List Op → R Op} {ms mk : Env → R (List Op)} {m : Nat} {Q : VK} (hl : Len ms n) (hl2 : Len mk m) (hf : OpN g r fx) (hr : ∀ vs H Q, r W σ vs H Q → sp (arrV arr vs) H Q fun cls d H' => W cls d σ H') (h : EOf g W (mOpN fx (mApp ms mk)) σ H Q) :
    tCG n m sp arr W (AOf g W ms) (AOf g W mk) σ H Q :=
  aof_mono (aof_len hl (aof_app (eof_opN hf h))) fun vs H1 h => aof_mono (aof_len hl2 h.2) fun zs H2 h2 => ⟨h.1, h2.1, hr _ _ _ h2.2⟩
theorem tcg_kw {r : RN} {fx : Env → List Op → R Op} {mk : Env → R (List Op)} {m : Nat} {Q : VK} (hl2 : Len mk m) (hf : OpN g r fx) (hr : ∀ vs H Q, r W σ vs H Q → sp (arrV arr vs) H Q fun cls d H' => W cls d σ H') (h : EOf g W (mOpN fx mk) σ H Q) :
    tCG 0 m sp arr W tNil (AOf g W mk) σ H Q :=
  aof_mono (aof_len hl2 (eof_opN hf h)) fun zs H2 h2 => ⟨rfl, h2.1, hr _ _ _ h2.2⟩
/-- f(e, ..): every parameter is written -/
theorem de_call {ms : List Md} {m : List T → RF} {as : Env → R (List Op)} (z : FnG X.prog X.w X.K X.mg X.base k f fd ps (spM g ms.length m)) (hr : Room k X.A) (hg : X.A.guards = some []) (hm : X.mg x = some (.ref f)) (hk : PySem.W.keepIn X.K (.ref f) = true) (hb : Bn X.K fd ps ms.length [] (idArr ms.length))
    (ha : DA X g (e :: es) as) (hl : Len as ms.length) (hgl : Gl X x := by rfl) (hdb : (x == ("__debug__" : Str)) = false := by decide) (he : starEach (e :: es) X.env = (false, eval e X.env) :: starEach es X.env := by rfl)
    (hpl : (backTo pos (starEach es X.env)).any (·.1) = false := by rfl) : DE X g (.Call (.Name x p) (e :: es) [] pos) (mOpN (fCall ms m) as) := fun W tk =>
  pe_imp (pe_cG z hr hg hm hk hb tk (ha W tk) hgl hdb he hpl) fun σ H Q h => tcg_pos hl opN_call (fun vs H Q hl h => by have e := arrV_id vs; rw [hl] at e; rw [e]; exact h) h
/-- f(e, .., k = v, ..), parameters that share, defaults -/
theorem de_callK {m : List T → RF} {as ak : Env → R (List Op)} (z : FnG X.prog X.w X.K X.mg X.base k f fd ps (spM g arr.length m)) (hr : Room k X.A) (hg : X.A.guards = some []) (hm : X.mg x = some (.ref f)) (hk : PySem.W.keepIn X.K (.ref f) = true) (hb : Bn X.K fd ps n ks arr)
    (har : ∀ a ∈ arr, (∃ i, a = .inl i ∧ i < n + ks.length) ∨ ∃ x, a = .inr x ∧ scalD x = true) (ha : DA X g (e :: es) as) (hl : Len as n) (hkw : DK X g kws ak) (hl2 : Len ak ks.length) (hgl : Gl X x := by rfl) (hdb : (x == ("__debug__" : Str)) = false := by decide)
    (hall : (backToKw pos (keywordEach kws X.env)).all (·.1.isSome) = true := by rfl) (hks : (backToKw pos (keywordEach kws X.env)).filterMap (·.1) = ks := by rfl) (he : starEach (e :: es) X.env = (false, eval e X.env) :: starEach es X.env := by rfl)
    (hpl : ((backTo pos (starEach (e :: es) X.env)).any (·.1) || (backToKw pos (keywordEach kws X.env)).any (·.1.isNone)) = false := by rfl) : DE X g (.Call (.Name x p) (e :: es) kws pos) (mOpN (fCallK (n + ks.length) arr m) (mApp as ak)) := fun W tk =>
  pe_imp (pe_cGK z hr hg hm hk hb tk (ha W tk) (hkw W tk) hgl hdb hall hks he hpl) fun σ H Q h => tcg_all hl hl2 (opN_callK har) (fun vs H Q h => h) h
theorem de_callP {m : List T → RF} {as : Env → R (List Op)} (z : FnG X.prog X.w X.K X.mg X.base k f fd ps (spM g arr.length m)) (hr : Room k X.A) (hg : X.A.guards = some []) (hm : X.mg x = some (.ref f)) (hk : PySem.W.keepIn X.K (.ref f) = true) (hb : Bn X.K fd ps n [] arr)
    (har : ∀ a ∈ arr, (∃ i, a = .inl i ∧ i < n) ∨ ∃ x, a = .inr x ∧ scalD x = true) (ha : DA X g (e :: es) as) (hl : Len as n) (hgl : Gl X x := by rfl) (hdb : (x == ("__debug__" : Str)) = false := by decide)
    (he : starEach (e :: es) X.env = (false, eval e X.env) :: starEach es X.env := by rfl) (hpl : (backTo pos (starEach es X.env)).any (·.1) = false := by rfl) : DE X g (.Call (.Name x p) (e :: es) [] pos) (mOpN (fCallK n arr m) as) := fun W tk =>
  pe_imp (pe_cG z hr hg hm hk hb tk (ha W tk) hgl hdb he hpl) fun σ H Q h => tcg_pos hl (opN_callK har) (fun vs H Q _ h => h) h
theorem de_callW {m : List T → RF} {ak : Env → R (List Op)} (z : FnG X.prog X.w X.K X.mg X.base k f fd ps (spM g arr.length m)) (hr : Room k X.A) (hg : X.A.guards = some []) (hm : X.mg x = some (.ref f)) (hk : PySem.W.keepIn X.K (.ref f) = true) (hb : Bn X.K fd ps 0 ks arr)
    (har : ∀ a ∈ arr, (∃ i, a = .inl i ∧ i < ks.length) ∨ ∃ x, a = .inr x ∧ scalD x = true) (hkw : DK X g kws ak) (hl2 : Len ak ks.length) (hgl : Gl X x := by rfl) (hdb : (x == ("__debug__" : Str)) = false := by decide)
    (hall : (backToKw pos (keywordEach kws X.env)).all (·.1.isSome) = true := by rfl) (hks : (backToKw pos (keywordEach kws X.env)).filterMap (·.1) = ks := by rfl)
    (hpl : ((backTo pos (starEach [] X.env)).any (·.1) || (backToKw pos (keywordEach kws X.env)).any (·.1.isNone)) = false := by rfl) : DE X g (.Call (.Name x p) [] kws pos) (mOpN (fCallK ks.length arr m) ak) := fun W tk =>
  pe_imp (pe_cGK0 z hr hg hm hk hb tk (hkw W tk) hgl hdb hall hks hpl) fun σ H Q h => tcg_kw hl2 (opN_callK har) (fun vs H Q h => h) h
end
end MV
/-! MvI: shared data read and shown by the machine (repr, ==). -/
namespace MV
open PySem L2
section
variable {X : Cx} {ps : List (Addr × Obj)} {σ : St} {H : Hp} {s : Shared}
/-- what stands at a, read as d, with all that its repr asks -/
def Rep (X : Cx) (h : Heap) (u : Value) (d : PyData) : Prop :=
  (∃ as, Reads h u d as) ∧ (d.showable = true → d.shown.length ≤ sizeLine → ∃ bs, ReadAtMost h d.depth bs ∧ ReprK X.prog X.w bs h d.depth u d.shown)
def RepA (X : Cx) (h : Heap) (us : List Value) (ds : List PyData) : Prop :=
  (∃ as, ReadsAll h us ds as) ∧ (PyData.showableAll ds = true → (∀ t ∈ PyData.shownAll ds, t.length ≤ sizeLine) → ∃ bs, ReadAtMost h (PyData.depthAll ds) bs ∧ ReprAllK X.prog X.w bs h (PyData.depthAll ds) us (PyData.shownAll ds))
theorem rep_scal {u : Value} {d : PyData} (r : Reads s.heap u d []) (k : d.showable = true → d.shown.length ≤ sizeLine → ReprIs X.prog X.w u d.shown) : Rep X s.heap u d :=
  ⟨⟨_, r⟩, fun hs hz => ⟨[], (fun _ h => nomatch h), .of_is (k hs hz) _ _ _⟩⟩
theorem repA_nil : RepA X s.heap [] [] := ⟨⟨_, ReadsAll.nil⟩, fun _ _ => ⟨[], (fun _ h => nomatch h), .nil⟩⟩
theorem repA_cons {u : Value} {us : List Value} {d : PyData} {ds : List PyData} (h : Rep X s.heap u d) (q : RepA X s.heap us ds) : RepA X s.heap (u :: us) (d :: ds) := by
  obtain ⟨⟨as, r⟩, k⟩ := h
  obtain ⟨⟨bs, r2⟩, k2⟩ := q
  refine ⟨⟨_, ReadsAll.cons r r2⟩, fun hs hz => ?_⟩
  have hs : d.showable = true ∧ PyData.showableAll ds = true := by simpa [PyData.showableAll] using hs
  have hz : d.shown.length ≤ sizeLine ∧ ∀ t ∈ PyData.shownAll ds, t.length ≤ sizeLine := by simpa [PyData.shownAll] using hz
  obtain ⟨b1, m1, k1⟩ := k hs.1 hz.1
  obtain ⟨b2, m2, k2⟩ := k2 hs.2 hz.2
  refine ⟨b1 ++ b2, ?_, ?_⟩
  · have e : PyData.depthAll (d :: ds) = max d.depth (PyData.depthAll ds) := by simp only [PyData.depthAll]
    rw [e]
    exact (m1.mono (Nat.le_max_left _ _)).append (m2.mono (Nat.le_max_right _ _))
  · simp only [PyData.depthAll, PyData.shownAll]
    exact .cons ((k1.more fun b hb => List.mem_append_left _ hb).level_le (Nat.le_max_left _ _)) (k2.more_le (fun b hb => List.mem_append_right _ hb) (Nat.le_max_right _ _))
theorem rep_list {a : Addr} {o : Obj} {its : List Value} {n : Nat} {ds : List PyData} (h1 : s.heap.get? a = some o) (h2 : o.cls = .type "list") (h3 : o.data = .seq its.toArray n) (q : RepA X s.heap its ds) : Rep X s.heap (.ref a) (.list ds) := by
  obtain ⟨⟨as, r⟩, k⟩ := q
  refine ⟨⟨_, Reads.list h1 h2 h3 r⟩, fun hs hz => ?_⟩
  have hz' : (listText (PyData.shownAll ds)).length ≤ sizeLine := by simpa only [PyData.shown] using hz
  obtain ⟨bs, m, k⟩ := k (by simpa [PyData.showable] using hs) fun t ht => Nat.le_trans (listText_mem_le ht) hz'
  have rr : Reads s.heap (.ref a) (.list ds) _ := Reads.list h1 h2 h3 r
  have hna : a ∉ bs := not_mem_of_deeper rr (by simp only [PyData.depth]; omega) m
  refine ⟨a :: bs, ReadAtMost.cons rr (by simp only [PyData.depth]; omega) m, ?_⟩
  simp only [PyData.depth, PyData.shown]
  cases its with
  | nil =>
    cases r
    simp only [PyData.shownAll, listText_nil]
    exact ReprK.listEmpty h1 h2 h3
  | cons x l => exact ReprK.list h1 h2 h3 hna (by simpa using k.length_eq) fun i y e => k.item i y (by simpa using e)
theorem rep_tup {a : Addr} {o : Obj} {its : List Value} {n : Nat} {ds : List PyData} (h1 : s.heap.get? a = some o) (h2 : o.cls = .type "tuple") (h3 : o.data = .seq its.toArray n) (q : RepA X s.heap its ds) : Rep X s.heap (.ref a) (.tuple ds) := by
  obtain ⟨⟨as, r⟩, k⟩ := q
  refine ⟨⟨_, Reads.tuple h1 h2 h3 r⟩, fun hs hz => ?_⟩
  have hz' : (tupleText (PyData.shownAll ds)).length ≤ sizeLine := by simpa only [PyData.shown] using hz
  obtain ⟨bs, m, k⟩ := k (by simpa [PyData.showable] using hs) fun t ht => Nat.le_trans (tupleText_mem_le ht) hz'
  have rr : Reads s.heap (.ref a) (.tuple ds) _ := Reads.tuple h1 h2 h3 r
  have hna : a ∉ bs := not_mem_of_deeper rr (by simp only [PyData.depth]; omega) m
  refine ⟨a :: bs, ReadAtMost.cons rr (by simp only [PyData.depth]; omega) m, ?_⟩
  simp only [PyData.depth, PyData.shown]
  exact ReprK.tuple h1 h2 h3 hna k
theorem rep_dict {a : Addr} {o : Obj} {es : Array DictEntry} {n : Nat} {kvs : List (PyData × PyData)} (h1 : s.heap.get? a = some o) (h2 : o.cls = .type "dict") (h3 : o.data = .dict es n) (hsys : (a == sysModules) = false)
    (q1 : RepA X s.heap (es.toList.map (·.key)) (kvs.map (·.1))) (q2 : RepA X s.heap (es.toList.map (·.val)) (kvs.map (·.2))) : Rep X s.heap (.ref a) (.dict kvs) := by
  obtain ⟨⟨as, r1⟩, k1⟩ := q1
  obtain ⟨⟨bs, r2⟩, k2⟩ := q2
  refine ⟨⟨_, Reads.dict h1 h2 h3 r1 r2⟩, fun hs hz => ?_⟩
  have hz' : (dictText (PyData.shownKv kvs)).length ≤ sizeLine := by simpa only [PyData.shown] using hz
  obtain ⟨hs1, hs2⟩ := PyData.showableKv_split kvs (by simpa [PyData.showable] using hs)
  obtain ⟨b1, m1, k1⟩ := k1 hs1 fun t ht => let ⟨p, hp, hl⟩ := PyData.shownKv_key_le kvs t ht; Nat.le_trans hl (Nat.le_trans (dictText_mem_le hp) hz')
  obtain ⟨b2, m2, k2⟩ := k2 hs2 fun t ht => let ⟨p, hp, hl⟩ := PyData.shownKv_val_le kvs t ht; Nat.le_trans hl (Nat.le_trans (dictText_mem_le hp) hz')
  have rr : Reads s.heap (.ref a) (.dict kvs) _ := Reads.dict h1 h2 h3 r1 r2
  have m : ReadAtMost s.heap (PyData.depthKv kvs) (b1 ++ b2) := (m1.mono (PyData.depthAll_keys_le kvs)).append (m2.mono (PyData.depthAll_vals_le kvs))
  have hna : a ∉ b1 ++ b2 := not_mem_of_deeper rr (by simp only [PyData.depth]; omega) m
  refine ⟨a :: (b1 ++ b2), ReadAtMost.cons rr (by simp only [PyData.depth]; omega) m, ?_⟩
  simp only [PyData.depth, PyData.shown, PyData.shownKv_eq]
  exact ReprK.dict h1 h2 h3 hsys hna (ReprEntriesK.of_two es.toList _ _ (k1.more_le (fun b hb => List.mem_append_left _ hb) (PyData.depthAll_keys_le kvs)) (k2.more_le (fun b hb => List.mem_append_right _ hb) (PyData.depthAll_vals_le kvs)))
theorem rep_keys : ∀ {kvs : List (Key × V)} {ds : List (PyData × PyData)} {vs : List (Key × Value)} {es : List DictEntry}, IsKv X.K H kvs ds → KV kvs vs → Pairs (mixKind X.prog X.w) es vs → (∀ t ∈ PyData.shownAll (ds.map (·.1)), t.length ≤ sizeLine) ∨ True → RepA X s.heap (es.map (·.key)) (ds.map (·.1))
  | _, _, _, _, .nil, .nil, .nil, _ => repA_nil
  | (k, v) :: _, _, _, _, .cons h q, .cons r rs, .cons p1 p2 p3, _ => by
    refine repA_cons ?_ (rep_keys q rs p3 (.inr trivial))
    obtain ⟨e, r⟩ := r
    rw [← e] at p1
    have p1 : keyIs k _ = true := p1
    cases k with
    | inl i =>
      rcases keyIs_shape p1 with ⟨j, t, e1, e2⟩ | ⟨x, t, e1, e2⟩
      · cases e1
        show Rep X s.heap (DictEntry.key _) (PyData.int i)
        rw [e2]
        exact rep_scal (Reads.int i t) fun hs _ => by simp only [PyData.shown]; exact ReprIs.int t (by simpa [PyData.showable] using hs)
      · cases e1
    | inr y =>
      rcases keyIs_shape p1 with ⟨j, t, e1, e2⟩ | ⟨x, t, e1, e2⟩
      · cases e1
      · cases e1
        show Rep X s.heap (DictEntry.key _) (PyData.str y)
        rw [e2]
        exact rep_scal (Reads.str y t) fun _ hz => by simp only [PyData.shown]; exact ReprIs.str y t (by simpa only [PyData.shown] using hz)
mutual
theorem Is.rep (I : Inv X ps σ H s) : ∀ {v : V} {d : PyData} {u : Value}, Is X.K H v d → RelV v u → Rep X s.heap u d
  | _, _, _, .non, r => by cases r; exact rep_scal Reads.none fun _ _ => by simp only [PyData.shown]; exact ReprIs.none
  | _, _, _, .bl b, r => by cases r; exact rep_scal (Reads.bool b) fun _ _ => by simp only [PyData.shown]; exact ReprIs.bool b
  | _, _, _, .int i, r => by
    obtain ⟨t, rfl⟩ := r
    exact rep_scal (Reads.int i t) fun hs _ => by simp only [PyData.shown]; exact ReprIs.int t (by simpa [PyData.showable] using hs)
  | _, _, _, .str x, r => by
    obtain ⟨t, rfl⟩ := r
    exact rep_scal (Reads.str x t) fun _ hz => by simp only [PyData.shown]; exact ReprIs.str x t (by simpa only [PyData.shown] using hz)
  | _, _, _, .lst h q, r => by
    cases r
    obtain ⟨its, rv, ⟨o, n, ho, hc, _, hd⟩, _⟩ := I.list (SqL.of h)
    exact rep_list ho hc hd (IsAll.rep I q rv)
  | _, _, _, .tup h q, r => by
    cases r
    obtain ⟨its, rv, ⟨o, ho, hc, n, hd⟩, _⟩ := I.tuple h
    exact rep_tup ho hc hd (IsAll.rep I q rv)
  | _, _, _, .dct h q, r => by
    cases r
    obtain ⟨_, hsys, vs, rel, o, es, ep, ho, ex, hd, _, pr, _⟩ := I.hok _ _ h
    exact rep_dict ho ex.1 hd hsys (rep_keys q rel pr (.inr trivial)) (IsKv.rep I q rel pr)
theorem IsAll.rep (I : Inv X ps σ H s) : ∀ {vs : List V} {ds : List PyData} {us : List Value}, IsAll X.K H vs ds → Vals vs us → RepA X s.heap us ds
  | _, _, _, .nil, .nil => repA_nil
  | _, _, _, .cons h q, .cons r rs => repA_cons (Is.rep I h r) (IsAll.rep I q rs)
theorem IsKv.rep (I : Inv X ps σ H s) : ∀ {kvs : List (Key × V)} {ds : List (PyData × PyData)} {vs : List (Key × Value)} {es : List DictEntry}, IsKv X.K H kvs ds → KV kvs vs → Pairs (mixKind X.prog X.w) es vs → RepA X s.heap (es.map (·.val)) (ds.map (·.2))
  | _, _, _, _, .nil, .nil, .nil => repA_nil
  | _, _, _, _, .cons h q, .cons r rs, .cons p1 p2 p3 => repA_cons (by show Rep X s.heap (DictEntry.val _) _; rw [p2]; exact Is.rep I h r.2) (IsKv.rep I q rs p3)
end
/-- repr of data -/
def rRepr (K : PySem.W.Frag) : List V → Hp → VK → Prop := fun xs H Q => ∃ v d, xs = [v] ∧ Is K H v d ∧ d.showable = true ∧ d.shown.length ≤ sizeLine ∧ d.depth ≤ 64 ∧ Q (.str d.shown) H
theorem call_repr (hg : X.A.guards = some []) (hu : X.A.units + 100 < cLine) : CallR X (.builtin "repr") (rRepr X.K) := by
  intro pins s σ H xs us Q I r h
  obtain ⟨v, d, rfl, is, hs, hz, hd, q⟩ := h
  obtain ⟨u, rfl, rv⟩ := r.one
  have fin : ∀ (h' : Heap) (tk' : Nat) (tk : Nat), (∀ b o, s.heap.get? b = some o → h'.get? b = some o) → EP X pins σ Q (.str d.shown tk') { s with heap := h', toks := tk } := fun h' tk' tk hk => ⟨.str d.shown, H, I.kept hk, ⟨_, rfl⟩, q⟩
  have hg1 : X.A.in1.guards = some [] := hg
  cases is with
  | non => cases rv; simp only [PyData.shown] at fin; exact P.repr_of_none (fin s.heap s.toks _ fun _ _ e => e)
  | bl b => cases rv; simp only [PyData.shown] at fin; exact P.repr_of_bool (fin s.heap s.toks _ fun _ _ e => e)
  | int i =>
    obtain ⟨t, rfl⟩ := rv
    simp only [PyData.shown] at fin
    exact P.repr_of_int (by simpa [PyData.showable] using hs) (fin s.heap s.toks _ fun _ _ e => e)
  | str x =>
    obtain ⟨t, rfl⟩ := rv
    simp only [PyData.shown] at fin
    exact P.repr_of_str (fin s.heap s.toks _ fun _ _ e => e) (by simpa only [PyData.shown] using hz)
  | @lst a xs ds h qa =>
    cases rv
    obtain ⟨its, rv, ⟨o, n, ho, hc, _, hdt⟩, _⟩ := I.list (SqL.of h)
    obtain ⟨⟨as, rd⟩, k⟩ := qa.rep I rv
    have hz' : (listText (PyData.shownAll ds)).length ≤ sizeLine := by simpa only [PyData.shown] using hz
    obtain ⟨bs, m, k⟩ := k (by simpa [PyData.showable] using hs) fun t ht => Nat.le_trans (listText_mem_le ht) hz'
    have rr : Reads s.heap (.ref a) (.list ds) _ := Reads.list ho hc hdt rd
    have hna : a ∉ bs := not_mem_of_deeper rr (by simp only [PyData.depth]; omega) m
    simp only [PyData.depth] at hd
    simp only [PyData.shown] at fin
    refine call_repr_slot (by omega) ⟨o, ho, hc⟩ F.slot_list_repr.toG ?_
    cases its with
    | nil =>
      cases rd
      simp only [PyData.shownAll, listText_nil] at fin
      exact call_list_repr_empty ⟨o, ho, hc⟩ ho hdt ⟨_, _, rfl, fin s.heap _ _ fun _ _ e => e⟩
    | cons x l =>
      exact call_list_reprK ho hc hdt hna (by simpa using k.length_eq) (fun i y e => k.item i y (by simpa using e)) hg1 (fun b _ => Clear.nil b) (by show X.A.units + 1 + _ < _; omega) (fun _ _ e => e) (fun h' u tk hk => ⟨_, _, rfl, fin h' u tk hk⟩) hz'
  | @tup a xs ds h qa =>
    cases rv
    obtain ⟨its, rv, ⟨o, ho, hc, n, hdt⟩, _⟩ := I.tuple h
    obtain ⟨⟨as, rd⟩, k⟩ := qa.rep I rv
    have hz' : (tupleText (PyData.shownAll ds)).length ≤ sizeLine := by simpa only [PyData.shown] using hz
    obtain ⟨bs, m, k⟩ := k (by simpa [PyData.showable] using hs) fun t ht => Nat.le_trans (tupleText_mem_le ht) hz'
    have rr : Reads s.heap (.ref a) (.tuple ds) _ := Reads.tuple ho hc hdt rd
    have hna : a ∉ bs := not_mem_of_deeper rr (by simp only [PyData.depth]; omega) m
    simp only [PyData.depth] at hd
    simp only [PyData.shown] at fin
    refine call_repr_slot (by omega) ⟨o, ho, hc⟩ F.slot_tuple_repr ?_
    exact call_tuple_reprK ho hc hdt hna k hg1 (fun b _ => Clear.nil b) (by show X.A.units + 1 + _ < _; omega) (fun _ _ e => e) (fun h' u tk hk => ⟨_, _, rfl, fin h' u tk hk⟩) hz'
  | @dct a kvs ds h qa =>
    cases rv
    obtain ⟨_, hsys, vs, rel, o, es, ep, ho, ex, hdt, _, pr, _⟩ := I.hok _ _ h
    obtain ⟨⟨as, r1⟩, k1⟩ := rep_keys qa rel pr (.inr trivial)
    obtain ⟨⟨bs, r2⟩, k2⟩ := qa.rep I rel pr
    have hz' : (dictText (PyData.shownKv ds)).length ≤ sizeLine := by simpa only [PyData.shown] using hz
    obtain ⟨hs1, hs2⟩ := PyData.showableKv_split ds (by simpa [PyData.showable] using hs)
    obtain ⟨b1, m1, k1⟩ := k1 hs1 fun t ht => let ⟨p, hp, hl⟩ := PyData.shownKv_key_le ds t ht; Nat.le_trans hl (Nat.le_trans (dictText_mem_le hp) hz')
    obtain ⟨b2, m2, k2⟩ := k2 hs2 fun t ht => let ⟨p, hp, hl⟩ := PyData.shownKv_val_le ds t ht; Nat.le_trans hl (Nat.le_trans (dictText_mem_le hp) hz')
    have rr : Reads s.heap (.ref a) (.dict ds) _ := Reads.dict ho ex.1 hdt r1 r2
    have m : ReadAtMost s.heap (PyData.depthKv ds) (b1 ++ b2) := (m1.mono (PyData.depthAll_keys_le ds)).append (m2.mono (PyData.depthAll_vals_le ds))
    have hna : a ∉ b1 ++ b2 := not_mem_of_deeper rr (by simp only [PyData.depth]; omega) m
    simp only [PyData.depth] at hd
    simp only [PyData.shown, PyData.shownKv_eq] at fin
    refine call_repr_slot (by omega) ⟨o, ho, ex.1⟩ F.slot_dict_repr ?_
    exact call_dict_reprK ho ex.1 hdt hsys hna (ReprEntriesK.of_two es.toList _ _ (k1.more_le (fun b hb => List.mem_append_left _ hb) (PyData.depthAll_keys_le ds)) (k2.more_le (fun b hb => List.mem_append_right _ hb) (PyData.depthAll_vals_le ds)))
      hg1 (fun b _ => Clear.nil b) (by show X.A.units + 1 + _ < _; omega) (fun _ _ e => e) (fun h' u tk hk => ⟨_, _, rfl, fin h' u tk hk⟩) (by rw [← PyData.shownKv_eq]; exact hz')
end
end MV
/-! MvJ: operators, comparisons, subscripts, new lists and tuples. -/
namespace MV
open PySem L2
section
variable {g : G} {F F' F1 F2 H H' H1 H2 : Hp} {σ : St} {ρ ρ1 : Env} {fp fq fs fp1 fp2 fq1 fq2 : List Addr} {W : WX} {X : Cx} {P : List Nat}
theorem opr_or {f : Value → Value → Sem Value} {r r' : R2} (h : OpR X f r) (h' : OpR X f r') : OpR X f (fun x y H Q => r x y H Q ∨ r' x y H Q) := fun pins s σ H x y v u Q I rx ry q => q.elim (h pins s σ H x y v u Q I rx ry) (h' pins s σ H x y v u Q I rx ry)
theorem unr_or {f : Value → Sem Value} {r r' : V → Hp → VK → Prop} (h : UnR X f r) (h' : UnR X f r') : UnR X f (fun x H Q => r x H Q ∨ r' x H Q) := fun pins s σ H x v Q I rx q => q.elim (h pins s σ H x v Q I rx) (h' pins s σ H x v Q I rx)
/-! ### items that are shared -/
def allD : List T → Option (List PyData)
  | [] => some []
  | .d x :: ts => (allD ts).map (x :: ·)
  | _ => none
theorem allD_eq : ∀ {ts : List T} {ds : List PyData}, allD ts = some ds → ts = ds.map T.d
  | [], ds, e => by
    have e := Option.some.inj (show some [] = some ds from e)
    subst e
    rfl
  | .d x :: ts, ds, e => by
    obtain ⟨y, h1, h2⟩ := Option.map_eq_some_iff.mp (show (allD ts).map (x :: ·) = some ds from e)
    subst h2
    rw [allD_eq h1]
    rfl
  | .v _ :: _, _, e => by cases e
  | .l _ :: _, _, e => by cases e
  | .t _ :: _, _, e => by cases e
  | .k _ _ :: _, _, e => by cases e
  | .o _ _ _ :: _, _, e => by cases e
  | .h :: _, _, e => by cases e
  | .scr _ :: _, _, e => by cases e
theorem allD_map (ds : List PyData) : allD (ds.map T.d) = some ds := by
  induction ds with
  | nil => rfl
  | cons x xs ih =>
    show (allD (xs.map T.d)).map (x :: ·) = _
    rw [ih]
    rfl
def shL : T → Option (List PyData)
  | .d (.list ds) => some ds
  | .l ts => allD ts
  | _ => none
def shT : T → Option (List PyData)
  | .d (.tuple ds) => some ds
  | .t ts => allD ts
  | _ => none
theorem ownL_ds {vs : List V} {ds : List PyData} : ∀ {fp : List Addr}, OwnL g F H vs (ds.map T.d) fp → fp = [] ∧ IsAll g.K F vs ds := by
  induction ds generalizing vs with
  | nil => intro fp h; cases h; exact ⟨rfl, .nil⟩
  | cons x xs ih =>
    intro fp h
    cases h with
    | cons h q =>
      cases h with
      | d h =>
        obtain ⟨e2, q2⟩ := ih q
        subst e2
        exact ⟨rfl, .cons h q2⟩
theorem shL_ok {t : T} {v : V} {f : List Addr} {ds : List PyData} (le : Le F H) (o : Own g F H v t f) (e : shL t = some ds) : ∃ a vs, v = .ref a ∧ H a = some (.lst vs) ∧ IsAll g.K F vs ds := by
  cases o with
  | d h =>
    cases h with
    | lst h q =>
      have e := Option.some.inj (show some _ = some ds from e)
      subst e
      exact ⟨_, _, rfl, le _ _ h, q⟩
    | _ => cases e
  | l h q =>
    have e := allD_eq (show allD _ = some ds from e)
    subst e
    exact ⟨_, _, rfl, h, (ownL_ds q).2⟩
  | _ => cases e
theorem shT_ok {t : T} {v : V} {f : List Addr} {ds : List PyData} (le : Le F H) (o : Own g F H v t f) (e : shT t = some ds) : ∃ a vs, v = .ref a ∧ SqT g.K H a vs ∧ IsAll g.K F vs ds := by
  cases o with
  | d h =>
    cases h with
    | tup h q =>
      have e := Option.some.inj (show some _ = some ds from e)
      subst e
      exact ⟨_, _, rfl, sqT_mono le h, q⟩
    | _ => cases e
  | t h q =>
    have e := allD_eq (show allD _ = some ds from e)
    subst e
    exact ⟨_, _, rfl, SqT.of h, (ownL_ds q).2⟩
  | _ => cases e
/-! ### new objects -/
theorem le_upd {p : Addr} {o : HO} (le : Le F H) (hp : H p = none) : Le F (upd H p o) := fun a u e => by
  rw [upd_ne (ne_of_none (le a u e) hp)]
  exact le a u e
theorem keep_upd {p : Addr} {o : HO} (hp : H p = none) : ∀ a u, H a = some u → upd H p o a = some u := fun a u e => by
  rw [upd_ne (ne_of_none e hp)]
  exact e
theorem free_of (le : Le F H) {p : Addr} (hp : H p = none) : F p = none := by
  cases e : F p with
  | none => rfl
  | some o => rw [le p o e] at hp; cases hp
theorem fresh_notin {p : Addr} (hp : H p = none) (hd : ∀ a ∈ fs, ∃ o, H a = some o) : p ∉ fs := fun h => by
  obtain ⟨o, e⟩ := hd p h
  rw [hp] at e
  cases e
/-- a new object of owned items -/
theorem Out.new {p : Addr} {o : HO} {t : T} {Q : VK} (st : Sta g F H σ ρ fp) (dq : ∀ a ∈ fq, ∃ o, H a = some o) (nd : (fq ++ fp).Nodup) (ho : ∀ a ∈ fq, F a = none) (hp : H p = none) (ow : Own g F (upd H p o) (.ref p) t (p :: fq)) (h : Out g W σ F H (fq ++ fp) fp ρ (.ok (.tm t) ρ true) Q) : Q (.ref p) (upd H p o) := by
  have np : p ∉ fq ++ fp := fresh_notin hp fun a ha => (List.mem_append.mp ha).elim (dq a) (st.own.dom a)
  refine h (.ref p) F (upd H p o) (p :: fq) fp ⟨Le.refl F, fun a u e _ => keep_upd hp a u e, fun a e => ?_, fun a ha => ?_, fun a u e => .inl ⟨u, e⟩⟩ (List.nodup_cons.mpr ⟨np, nd⟩) (fun a ha => ?_) ⟨le_upd st.le hp, st.own.keep (Le.refl F) (fun a _ u e => keep_upd hp a u e), st.nd, st.out⟩ ow fun _ => ⟨rfl, rfl, fun a _ u e => keep_upd hp a u e⟩
  · by_cases ha : a = p
    · rw [ha]; exact hp
    · rw [upd_ne ha] at e; exact e
  · rcases List.mem_cons.mp ha with ha | ha
    · rw [ha]; exact .inr hp
    · exact .inl ha
  · rcases List.mem_cons.mp ha with ha | ha
    · rw [ha]; exact free_of st.le hp
    · exact ho a ha
theorem Out.newL {p : Addr} {vs : List V} {ts : List T} {Q : VK} (st : Sta g F H σ ρ fp) (o : OwnL g F H vs ts fq) (nd : (fq ++ fp).Nodup) (ho : ∀ a ∈ fq, F a = none) (hp : H p = none) (h : Out g W σ F H (fq ++ fp) fp ρ (.ok (.tm (.l ts)) ρ true) Q) : Q (.ref p) (upd H p (.lst vs)) :=
  Out.new st o.dom nd ho hp (.l upd_same (o.keep (Le.refl F) fun a _ u e => keep_upd hp a u e)) h
theorem Out.newT {p : Addr} {vs : List V} {ts : List T} {Q : VK} (st : Sta g F H σ ρ fp) (o : OwnL g F H vs ts fq) (nd : (fq ++ fp).Nodup) (ho : ∀ a ∈ fq, F a = none) (hp : H p = none) (h : Out g W σ F H (fq ++ fp) fp ρ (.ok (.tm (.t ts)) ρ true) Q) : Q (.ref p) (upd H p (.tup vs)) :=
  Out.new st o.dom nd ho hp (.t upd_same (o.keep (Le.refl F) fun a _ u e => keep_upd hp a u e)) h
/-- a new object that is shared at once -/
theorem Out.newD {p : Addr} {o : HO} {x : PyData} {Q : VK} (st : Sta g F H σ ρ fp) (hs : ∀ a ∈ fp, a ∈ fs) (hp : H p = none) (is : Is g.K (upd F p o) (.ref p) x) (h : Out g W σ F H fs fp ρ (.ok (.tm (.d x)) ρ true) Q) : Q (.ref p) (upd H p o) := by
  have np : p ∉ fp := fresh_notin hp st.own.dom
  have fp0 := free_of st.le hp
  have le1 : Le F (upd F p o) := fun a u e => by rw [upd_ne (ne_of_none e fp0)]; exact e
  refine h (.ref p) (upd F p o) (upd H p o) [] fp ⟨le1, fun a u e _ => keep_upd hp a u e, fun a e => ?_, fun a ha => .inl (hs a (by simpa using ha)), fun a u e => ?_⟩ (by simpa using st.nd) (fun _ z => nomatch z) ⟨fun a u e => ?_, st.own.keep le1 (fun a _ u e => keep_upd hp a u e), st.nd, fun a ha => ?_⟩ (.d is) fun _ => ⟨rfl, rfl, fun a _ u e => keep_upd hp a u e⟩
  · by_cases ha : a = p
    · rw [ha]; exact hp
    · rw [upd_ne ha] at e; exact e
  · by_cases ha : a = p
    · rw [ha]; exact .inr (.inr hp)
    · rw [upd_ne ha] at e; exact .inl ⟨u, e⟩
  · by_cases ha : a = p
    · rw [ha, upd_same] at e ⊢; exact e
    · rw [upd_ne ha] at e ⊢; exact st.le a u e
  · have hne : a ≠ p := fun e => np (by rw [← e]; exact ha)
    rw [upd_ne hne]
    exact st.out a ha
/-! ### displays -/
def tms : List Op → Option (List T)
  | [] => some []
  | .tm t :: os => (tms os).map (t :: ·)
  | _ => none
theorem tms_ok : ∀ {os : List Op} {vs : List V} {fq : List Addr} {ts : List T}, OpnL g F H σ fp os vs fq → tms os = some ts → OwnL g F H vs ts fq
  | _, _, _, ts, .nil, e => by
    have e := Option.some.inj (show some [] = some ts from e)
    subst e
    exact .nil
  | _, _, _, ts, .cons (o := .tm t) (os := os) h q, e => by
    obtain ⟨y, h1, h2⟩ := Option.map_eq_some_iff.mp (show (tms os).map (t :: ·) = some ts from e)
    subst h2
    exact .cons h (tms_ok q h1)
  | _, _, _, ts, .cons (o := .pl _ _) h q, e => by cases e
def fLst : Env → List Op → R Op := fun ρ os => match tms os with
  | some ts => if ts.length ≤ 10000 then .ok (.tm (.l ts)) ρ true else .bad
  | none => .bad
def fTup : Env → List Op → R Op := fun ρ os => match tms os with
  | some ts => if ts.length ≤ 10000 then (match allD ts with
    | some ds => .ok (.tm (.d (.tuple ds))) ρ true
    | none => .ok (.tm (.t ts)) ρ true) else .bad
  | none => .bad
theorem le_size {n : Nat} (h : n ≤ 10000) : n ≤ sizeLine := Nat.le_trans h (by decide)
theorem eof_lst {ms : Env → R (List Op)} {Q : VK} (h : EOf g W (mOpN fLst ms) σ H Q) : tLst (AOf g W ms) σ H Q := by
  refine eof_opN (r := fun W σ vs H Q => vs.length ≤ sizeLine ∧ ∀ p, H p = none → Q (.ref p) (upd H p (.lst vs))) (fun W σ F H ρ fp fq os vs Q st op nd ho q => ?_) h
  unfold fLst at q
  split at q
  · rename_i ts e
    split at q
    · rename_i hl
      have o := tms_ok op e
      exact ⟨by rw [o.length]; exact le_size hl, fun p hp => q.newL st o nd ho hp⟩
    · exact q.elim
  · exact q.elim
theorem eof_tup {ms : Env → R (List Op)} {Q : VK} (h : EOf g W (mOpN fTup ms) σ H Q) : tTup (AOf g W ms) σ H Q := by
  refine eof_opN (r := fun W σ vs H Q => vs.length ≤ sizeLine ∧ ∀ p, H p = none → Q (.ref p) (upd H p (.tup vs))) (fun W σ F H ρ fp fq os vs Q st op nd ho q => ?_) h
  unfold fTup at q
  split at q
  · rename_i ts e
    split at q
    · rename_i hl
      have o := tms_ok op e
      refine ⟨by rw [o.length]; exact le_size hl, fun p hp => ?_⟩
      split at q
      · rename_i ds e2
        have e2 := allD_eq e2
        subst e2
        obtain ⟨rfl, is⟩ := ownL_ds o
        exact Out.newD st (fun a ha => List.mem_append_right _ ha) hp (.tup (SqT.of upd_same) (is.mono fun a u e => by rw [upd_ne (ne_of_none e (free_of st.le hp))]; exact e)) q
      · exact q.newT st o nd ho hp
    · exact q.elim
  · exact q.elim
theorem de_lst {es : List Expr} {ms : Env → R (List Op)} {pos : Pos} (h : DA X g es ms) : DE X g (.List es pos) (mOpN fLst ms) := fun W tk => pe_imp (pe_lst (h W tk)) fun _ _ _ q => eof_lst q
theorem de_tup {es : List Expr} {ms : Env → R (List Op)} {pos : Pos} {k : Nat} (h : DA X g es ms) : DE X g (.Tuple es k pos) (mOpN fTup ms) := fun W tk => pe_imp (pe_tup (h W tk)) fun _ _ _ q => eof_tup q
/-! ### arithmetic -/
def bitsOk (i j : Int) : Bool := decide ((Builtin.Int.intBits i : Int) + (Builtin.Int.intBits j : Int) ≤ 134217728)
def divOk (i j : Int) : Bool := decide (j ≠ 0) && !Builtin.divisionGoesByPylong i j
def h2I (c : Int → Int → Bool) (f : Int → Int → Int) : List PyData → Option PyData
  | [.int i, .int j] => if c i j = true then some (.int (f i j)) else none
  | _ => none
theorem op_fdivX : OpR X (binaryOp .FloorDiv) (rI (fun i j => divOk i j = true) fun i j => .int (i.fdiv j)) := opI fun i j _ _ _ _ _ hc q => by
  unfold divOk at hc
  simp only [Bool.and_eq_true, decide_eq_true_eq, Bool.not_eq_true'] at hc
  exact PyProof.Rows.floordiv_int hc.1 q (.inl hc.2)
/-- two operands as data, a value out -/
theorem opN_2 {r : R2} {h : List PyData → Option PyData} (k : ∀ H x y a b c Q, Is g.K H x a → Is g.K H y b → h [a, b] = some c → (∀ v, (∀ F, Is g.K F v c) → Q v H) → r x y H Q) (hn : ∀ l c, h l = some c → l.length = 2) : OpN g (r2N r) (fD h) := opN_fD fun W σ H vs xs x Q is e q => by
  have hl := hn _ _ e
  match xs, hl, is, e with
  | [a, b], _, .cons i1 (.cons i2 .nil), e => exact k H _ _ a b x Q i1 i2 e q
theorem opN_1 {r : V → Hp → VK → Prop} {h : List PyData → Option PyData} (k : ∀ H x a c Q, Is g.K H x a → h [a] = some c → (∀ v, (∀ F, Is g.K F v c) → Q v H) → r x H Q) (hn : ∀ l c, h l = some c → l.length = 1) : OpN g (r1N r) (fD h) := opN_fD fun W σ H vs xs x Q is e q => by
  have hl := hn _ _ e
  match xs, hl, is, e with
  | [a], _, .cons i1 .nil, e => exact k H _ a x Q i1 e q
theorem h2I_some {c : Int → Int → Bool} {f : Int → Int → Int} {l : List PyData} {x : PyData} (e : h2I c f l = some x) : ∃ i j, l = [.int i, .int j] ∧ c i j = true ∧ x = .int (f i j) := by
  unfold h2I at e
  split at e
  · rename_i i j
    split at e
    · rename_i hc
      exact ⟨i, j, rfl, hc, (Option.some.inj e).symm⟩
    · cases e
  · cases e
theorem opN_2I {c : Int → Int → Bool} {f : Int → Int → Int} : OpN g (r2N (rI (fun i j => c i j = true) fun i j => .int (f i j))) (fD (h2I c f)) :=
  opN_2 (fun H x y a b z Q i1 i2 e q => by
    obtain ⟨i, j, e1, hc, rfl⟩ := h2I_some e
    cases e1
    cases i1
    cases i2
    exact ⟨i, j, rfl, rfl, hc, q _ fun F => .int _⟩) fun l z e => by
    obtain ⟨i, j, rfl, _⟩ := h2I_some e
    rfl
theorem opr_rI {f : Value → Value → Sem Value} {C C' : Int → Int → Prop} {k : Int → Int → V} (h : OpR X f (rI C k)) (hc : ∀ i j, C' i j → C i j) : OpR X f (rI C' k) := fun pins s σ H x y v u Q I rx ry ⟨i, j, e1, e2, c, q⟩ => h pins s σ H x y v u Q I rx ry ⟨i, j, e1, e2, hc i j c, q⟩
theorem opr_rI0 {f : Value → Value → Sem Value} {C' : Int → Int → Prop} {k : Int → Int → V} (h : OpR X f (rI0 k)) : OpR X f (rI C' k) := fun pins s σ H x y v u Q I rx ry ⟨i, j, e1, e2, c, q⟩ => h pins s σ H x y v u Q I rx ry ⟨i, j, e1, e2, q⟩
def hSub := h2I (fun _ _ => true) fun i j => i - j
def hDiv := h2I divOk Int.fdiv
def hMod := h2I (fun _ j => decide (j ≠ 0)) Int.fmod
def hPow := h2I (fun i j => decide (0 ≤ j) && decide (j ≤ 1000000) && decide (i.natAbs < 2 ^ 64)) fun i j => i ^ j.toNat
def hShl := h2I (fun i j => decide (0 ≤ j) && decide (j ≤ 1000000) && decide (i.natAbs < 2 ^ 64)) fun i j => i * 2 ^ j.toNat
def hShr := h2I (fun _ j => decide (0 ≤ j)) fun i j => i / 2 ^ j.toNat
def hAnd := h2I (fun _ _ => true) Builtin.bitAnd
section
variable {a b : Expr} {m n : M} {pos : Pos}
theorem de_sub (ha : DE X g a m) (hb : DE X g b n) : DE X g (.BinOp a .Sub b pos) (m2 (fD hSub) m n) := de_bin (opr_rI0 op_sub) opN_2I ha hb
theorem de_div (ha : DE X g a m) (hb : DE X g b n) : DE X g (.BinOp a .FloorDiv b pos) (m2 (fD hDiv) m n) := de_bin op_fdivX opN_2I ha hb
theorem de_mod (ha : DE X g a m) (hb : DE X g b n) : DE X g (.BinOp a .Mod b pos) (m2 (fD hMod) m n) := de_bin (opr_rI op_modN fun i j h => of_decide_eq_true h) opN_2I ha hb
theorem de_pow (ha : DE X g a m) (hb : DE X g b n) : DE X g (.BinOp a .Pow b pos) (m2 (fD hPow) m n) := de_bin (opr_rI op_pow fun i j h => by
  simp only [Bool.and_eq_true, decide_eq_true_eq] at h
  exact ⟨h.1.1, h.1.2, h.2⟩) opN_2I ha hb
theorem de_shl (ha : DE X g a m) (hb : DE X g b n) : DE X g (.BinOp a .LShift b pos) (m2 (fD hShl) m n) := de_bin (opr_rI op_shl fun i j h => by
  simp only [Bool.and_eq_true, decide_eq_true_eq] at h
  exact ⟨h.1.1, h.1.2, h.2⟩) opN_2I ha hb
theorem de_shr (ha : DE X g a m) (hb : DE X g b n) : DE X g (.BinOp a .RShift b pos) (m2 (fD hShr) m n) := de_bin (opr_rI op_shr fun i j h => of_decide_eq_true h) opN_2I ha hb
theorem de_band (ha : DE X g a m) (hb : DE X g b n) : DE X g (.BinOp a .BitAnd b pos) (m2 (fD hAnd) m n) := de_bin (opr_rI0 op_and) opN_2I ha hb
end
def hNeg : List PyData → Option PyData
  | [.int i] => some (.int (-i))
  | _ => none
theorem opN_neg : OpN g (r1N (rU fun i => .int (-i))) (fD hNeg) := opN_1 (fun H x a c Q i1 e q => by
  unfold hNeg at e
  split at e
  · rename_i i e1
    cases e1
    cases e
    cases i1
    exact ⟨i, rfl, q _ fun F => .int _⟩
  · cases e) fun l c e => by
  unfold hNeg at e
  split at e
  · rfl
  · cases e
theorem de_neg {a : Expr} {m : M} {pos : Pos} (ha : DE X g a m) : DE X g (.UnaryOp .USub a pos) (m1 (fD hNeg) m) := de_un un_neg opN_neg ha
/-! ### + and * -/
/-- ints, texts, lists, tuples -/
def fAdd : Env → List Op → R Op := fun ρ os => match os with
  | [o, o'] => (match look ρ o, look ρ o' with
    | some (.d (.int i)), some (.d (.int j)) => .ok (.tm (.d (.int (i + j)))) ρ true
    | some (.d (.str x)), some (.d (.str y)) => if x.length + y.length ≤ sizeLine then .ok (.tm (.d (.str (x ++ y)))) ρ true else .bad
    | some t, some u => (match shL t, shL u with
      | some ds, some es => if ds.length + es.length ≤ 10000 then .ok (.tm (.l ((ds ++ es).map T.d))) ρ true else .bad
      | _, _ => (match t, u with
        | .d (.tuple ds), .d (.tuple es) => if ds ≠ [] ∧ ds.length + es.length ≤ 10000 then .ok (.tm (.d (.tuple (ds ++ es)))) ρ true else .bad
        | _, _ => .bad))
    | _, _ => .bad)
  | _ => .bad
def rAddX (K : PySem.W.Frag) : R2 := fun x y H Q => (rI0 (fun i j => .int (i + j)) x y H Q ∨ ∃ i j, x = .str i ∧ y = .str j ∧ i.length + j.length ≤ sizeLine ∧ Q (.str (i ++ j)) H) ∨ (rCat x y H Q ∨ rCatT K x y H Q)
theorem op_addX : OpR X (binaryOp .Add) (rAddX X.K) := opr_or (opr_or op_add op_add_str) (opr_or op_cat op_catT)
theorem own_d_is {v : V} {f : List Addr} {x : PyData} (o : Own g F H v (.d x) f) : Is g.K F v x := by
  cases o with
  | d h => exact h
theorem opnL2 {o o' : Op} {vs : List V} (st : Sta g F H σ ρ fp) (op : OpnL g F H σ fp [o, o'] vs fq) : ∃ v w, vs = [v, w] ∧ (∀ t, look ρ o = some t → ∃ f, Own g F H v t f ∧ ∀ a ∈ f, a ∈ fq ++ fp) ∧ (∀ t, look ρ o' = some t → ∃ f, Own g F H w t f ∧ ∀ a ∈ f, a ∈ fq ++ fp) := by
  cases op with
  | @cons _ _ v vs f0 fr h q =>
    cases q with
    | @cons _ _ w vs f1 fr2 h2 q =>
      cases q
      refine ⟨v, w, rfl, fun t e => ?_, fun t e => ?_⟩
      · obtain ⟨f, k1, k2⟩ := h.own st e
        exact ⟨f, k1, fun a ha => by have := k2 a ha; simp only [List.mem_append] at this ⊢; rcases this with h | h <;> simp [h]⟩
      · obtain ⟨f, k1, k2⟩ := h2.own st e
        exact ⟨f, k1, fun a ha => by have := k2 a ha; simp only [List.mem_append] at this ⊢; rcases this with h | h <;> simp [h]⟩
theorem opnL1 {o : Op} {vs : List V} (st : Sta g F H σ ρ fp) (op : OpnL g F H σ fp [o] vs fq) : ∃ v, vs = [v] ∧ Opn g F H σ fp o v fq ∧ (∀ t, look ρ o = some t → ∃ f, Own g F H v t f ∧ ∀ a ∈ f, a ∈ fq ++ fp) := by
  cases op with
  | @cons _ _ v vs f0 fr h q =>
    cases q
    refine ⟨v, rfl, by simpa using h, fun t e => ?_⟩
    obtain ⟨f, k1, k2⟩ := h.own st e
    exact ⟨f, k1, fun a ha => by have := k2 a ha; simpa using this⟩
theorem Out.newLd {p : Addr} {vs : List V} {ds : List PyData} {Q : VK} (st : Sta g F H σ ρ fp) (is : IsAll g.K F vs ds) (hs : ∀ a ∈ fp, a ∈ fs) (hp : H p = none) (h : Out g W σ F H fs fp ρ (.ok (.tm (.l (ds.map T.d))) ρ true) Q) : Q (.ref p) (upd H p (.lst vs)) :=
  Out.newL (W := W) (fq := []) st (OwnL.ofAll is) (by simpa using st.nd) (fun _ z => nomatch z) hp fun v F' H' fr fp' s1 n1 o1 st1 op1 pu1 => h v F' H' fr fp' (s1.wid (by simpa using hs) fun a ha => .inl ha) n1 o1 st1 op1 pu1
theorem opN_add : OpN g (r2N (rAddX g.K)) fAdd := by
  intro W σ F H ρ fp fq os vs Q st op nd ho q
  unfold fAdd at q
  split at q
  · rename_i o o'
    obtain ⟨v, w, rfl, k1, k2⟩ := opnL2 st op
    have sub : ∀ a ∈ fp, a ∈ fq ++ fp := fun a ha => List.mem_append_right _ ha
    show rAddX g.K v w H Q
    split at q
    · rename_i i j e1 e2
      obtain ⟨f1, h1, _⟩ := k1 _ e1
      obtain ⟨f2, h2, _⟩ := k2 _ e2
      cases h1 with
      | d h1 =>
        cases h2 with
        | d h2 =>
          cases h1
          cases h2
          exact .inl (.inl ⟨i, j, rfl, rfl, q.val st sub (.d (.int _))⟩)
    · rename_i x y e1 e2
      obtain ⟨f1, h1, _⟩ := k1 _ e1
      obtain ⟨f2, h2, _⟩ := k2 _ e2
      cases h1 with
      | d h1 =>
        cases h2 with
        | d h2 =>
          cases h1
          cases h2
          split at q
          · rename_i hl
            exact .inl (.inr ⟨x, y, rfl, rfl, hl, q.val st sub (.d (.str _))⟩)
          · exact q.elim
    · rename_i t u _ _ e1 e2
      obtain ⟨f1, h1, _⟩ := k1 _ e1
      obtain ⟨f2, h2, _⟩ := k2 _ e2
      split at q
      · rename_i ds es e3 e4
        obtain ⟨a, xs, rfl, b1, b2⟩ := shL_ok st.le h1 e3
        obtain ⟨b, ys, rfl, b3, b4⟩ := shL_ok st.le h2 e4
        split at q
        · rename_i hl
          refine .inr (.inl ⟨a, b, xs, ys, rfl, rfl, b1, b3, by rw [b2.length, b4.length]; exact le_size hl, fun p hp => ?_⟩)
          exact q.newLd st (b2.append b4) sub hp
        · exact q.elim
      · split at q
        · rename_i ds es _ e3 e4
          have i1 := own_d_is h1
          have i2 := own_d_is h2
          cases i1 with
          | @tup a xs _ s1 t1 =>
          cases i2 with
          | @tup b ys _ s2 t2 =>
          split at q
          · rename_i hl
            have fr : ∀ {p : Addr}, H p = none → Le F (upd F p (.tup (xs ++ ys))) := fun hp a u e => by rw [upd_ne (ne_of_none e (free_of st.le hp))]; exact e
            refine .inr (.inr ⟨a, b, xs, ys, rfl, rfl, sqT_mono st.le s1, sqT_mono st.le s2, fun e => hl.1 (by subst e; cases t1; rfl), by rw [t1.length, t2.length]; exact le_size hl.2, fun e => ?_, fun _ p hp => ?_⟩)
            · subst e
              cases t2
              rw [List.append_nil] at q
              exact q.val st sub (.d (.tup s1 t1))
            · exact Out.newD st sub hp (.tup (SqT.of upd_same) ((t1.append t2).mono (fr hp))) q
          · exact q.elim
        · exact q.elim
    · exact q.elim
  · exact q.elim
end
end MV
/-! MvK: targets, what is walked, for, list comprehensions, while. -/
namespace MV
open PySem L2
abbrev MG := T → Env → R Unit
abbrev MI := Env → R (List PyData)
section
variable {g : G} {F F' F1 F2 H H' H1 H2 : Hp} {σ σ' : St} {ρ ρ1 : Env} {fp fq fs fp1 fp2 fq1 fq2 : List Addr} {W : WX} {X : Cx} {P : List Nat}
/-! ### targets -/
def OutG (g : G) (P : List Nat) (σ : St) (F H : Hp) (fs : List Addr) (r : R Unit) (Q : St → Hp → Prop) : Prop := match r with
  | .ok _ ρ' _ => ∀ σ' F' H' fp', Stp F H fs F' H' fp' → Sta g F' H' σ' ρ' fp' → Agree P σ σ' → σ'.length = σ.length → Q σ' H'
  | _ => False
def GOf (g : G) (P : List Nat) (W : WX) (m : MG) : TG := fun v σ H Q => ∃ F ρ fp fq t, Sta g F H σ ρ fp ∧ Own g F H v t fq ∧ (fq ++ fp).Nodup ∧ (∀ a ∈ fq, F a = none) ∧ OutG g P σ F H (fq ++ fp) (m t ρ) Q
def GsOf (g : G) (P : List Nat) (W : WX) (m : List T → Env → R Unit) : TGs := fun vs σ H Q => ∃ F ρ fp fq ts, Sta g F H σ ρ fp ∧ OwnL g F H vs ts fq ∧ (fq ++ fp).Nodup ∧ (∀ a ∈ fq, F a = none) ∧ OutG g P σ F H (fq ++ fp) (m ts ρ) Q
def DG (X : Cx) (g : G) (P : List Nat) (tg : Expr) (m : MG) : Prop := ∀ W, Takes X W → PG X tg (GOf g P W m)
def DGs (X : Cx) (g : G) (P : List Nat) (tg : List Expr) (m : List T → Env → R Unit) : Prop := ∀ W, Takes X W → PGs X tg (GsOf g P W m)
theorem pg_imp {e : Expr} {t t' : TG} (h : PG X e t) (k : ∀ v σ H Q, t' v σ H Q → t v σ H Q) : PG X e t' := ⟨fun pins s σ H v u Q I r q => h.run pins s σ H v u Q I r (k v σ H Q q)⟩
theorem pgs_imp {e : List Expr} {t t' : TGs} (h : PGs X e t) (k : ∀ v σ H Q, t' v σ H Q → t v σ H Q) : PGs X e t' := ⟨fun pins s σ H v u Q I r q => h.run pins s σ H v u Q I r (k v σ H Q q)⟩
def mTgN (P : List Nat) (i : Nat) : MG := fun t ρ => if (!P.contains i && decide (i < ρ.length)) = true then .ok () (ρ.set i (some t)) true else .bad
theorem dg_name {i : Nat} {x : Str} {pos : Pos} (hN : X.N.Nodup) (hi : X.N[i]? = some x := by rfl) (hx : Loc X.env.scope x := by first | exact Or.inl rfl | exact Or.inr rfl)
    (hf : X.fn x = true ∨ X.env.scope.names.lookup x = some .local := by first | exact .inl rfl | exact .inr rfl | assumption) : DG X g P (.Name x pos) (mTgN P i) := fun W tk => pg_imp (pg_name hN hi hx hf) fun v σ H Q h => by
  obtain ⟨F, ρ, fp, fq, t, st, o, nd, ho, h⟩ := h
  unfold mTgN at h
  split at h
  · rename_i hc
    simp only [Bool.and_eq_true, Bool.not_eq_true', List.contains_eq_mem, decide_eq_false_iff_not, decide_eq_true_eq] at hc
    obtain ⟨fp', k1, k2⟩ := st.store hc.2 o nd ho
    refine h (σ.set i (some v)) F H fp' ((Stp.refl fun _ z => z).wid (fun _ z => z) fun a ha => .inl (k1 a ha)) k2 (fun j hj => ?_) (by simp)
    have ne : i ≠ j := fun e => hc.1 (by rw [e]; exact hj)
    rw [List.getElem?_set_ne ne]
  · exact h.elim
def mGNil : List T → Env → R Unit := fun ts ρ => match ts with
  | [] => .ok () ρ true
  | _ => .bad
def mGCons (m : MG) (ms : List T → Env → R Unit) : List T → Env → R Unit := fun ts ρ => match ts with
  | t :: r => (match m t ρ with
    | .ok _ ρ1 _ => ms r ρ1
    | _ => .bad)
  | [] => .bad
theorem dgs_nil : DGs X g P [] mGNil := fun W tk => pgs_imp pgs_nil fun vs σ H Q h => by
  obtain ⟨F, ρ, fp, fq, t, st, o, nd, ho, h⟩ := h
  cases o with
  | nil => exact ⟨rfl, h σ F H fp (Stp.refl (by simp)) st (Agree.refl P σ) rfl⟩
  | cons _ _ => exact h.elim
theorem OutG.behind {r : R Unit} {Q : St → Hp → Prop} (ag : Agree P σ σ') (hl : σ'.length = σ.length) (s1 : Stp F H fs F1 H1 fp1) (h : OutG g P σ F H fs r Q) : OutG g P σ' F1 H1 fp1 r Q := by
  cases r with
  | bad => exact h
  | exc => exact h
  | ok u ρ2 q => exact fun σ2 F2 H2 fp2 s2 st2 a2 l2 => h σ2 F2 H2 fp2 (s1.trans0 s2) st2 (ag.trans a2) (l2.trans hl)
theorem dgs_cons {e : Expr} {es : List Expr} {m : MG} {ms : List T → Env → R Unit} (h1 : DG X g P e m) (h2 : DGs X g P es ms)
    (hs : (assignEach (e :: es) X.env).map (·.2) = assign e X.env :: (assignEach es X.env).map (·.2) := by rfl) : DGs X g P (e :: es) (mGCons m ms) := fun W tk => pgs_imp (pgs_cons (h1 W tk) (h2 W tk) hs) fun vs σ H Q h => by
  obtain ⟨F, ρ, fp, fq, ts, st, o, nd, ho, h⟩ := h
  cases o with
  | nil => exact h.elim
  | @cons v vs t ts f fr o ol =>
    refine ⟨v, vs, rfl, ?_⟩
    have nd' : (f ++ (fr ++ fp)).Nodup := by rw [← List.append_assoc]; exact nd
    obtain ⟨n1, n2, n3⟩ := List.nodup_append.mp nd'
    obtain ⟨n4, n5, n6⟩ := List.nodup_append.mp n2
    refine ⟨F, ρ, fp, f, t, st, o, List.nodup_append.mpr ⟨n1, n5, fun a ha b hb => n3 a ha b (List.mem_append_right _ hb)⟩, fun a ha => ho a (List.mem_append_left _ ha), ?_⟩
    unfold mGCons at h
    dsimp only at h
    cases hm : m t ρ with
    | bad => rw [hm] at h; exact h
    | exc c n d ρ' => rw [hm] at h; exact h.elim
    | ok u ρ1 p =>
      rw [hm] at h
      intro σ1 F1 H1 fp1 s1 st1 a1 l1
      have dj : ∀ a ∈ fr, a ∉ f ++ fp := fun a ha z => by
        rcases List.mem_append.mp z with z | z
        · exact n3 a z a (List.mem_append_left _ ha) rfl
        · exact n6 a ha a z rfl
      obtain ⟨k1, k2, k3⟩ := s1.carry ol.dom (fun a ha => ho a (List.mem_append_right _ ha)) dj
      refine ⟨F1, ρ1, fp1, fr, ts, st1, ol.keep s1.le k1, List.nodup_append.mpr ⟨n4, st1.nd, fun a ha b hb e => k3 a ha (e ▸ hb)⟩, k2, ?_⟩
      refine OutG.behind a1 l1 (s1.wid (fun a ha => ?_) fun a ha => ?_) h
      · simp only [List.mem_append] at ha ⊢
        rcases ha with ha | ha
        · exact .inl (.inl ha)
        · exact .inr ha
      · rcases List.mem_append.mp ha with ha | ha
        · exact .inr (by simp [ha])
        · exact .inl ha
def itemsT : T → Option (List T)
  | .d (.tuple ds) => some (ds.map T.d)
  | .t ts => some ts
  | _ => none
def itemsL : T → Option (List T)
  | .d (.list ds) => some (ds.map T.d)
  | .l ts => some ts
  | _ => none
def mTgT (n : Nat) (ms : List T → Env → R Unit) : MG := fun t ρ => match itemsT t with
  | some ts => if ts.length = n then ms ts ρ else .bad
  | none => .bad
def mTgL (n : Nat) (ms : List T → Env → R Unit) : MG := fun t ρ => match itemsL t with
  | some ts => if ts.length = n then ms ts ρ else .bad
  | none => .bad
theorem dg_tup {es : List Expr} {k n : Nat} {ms : List T → Env → R Unit} {pos : Pos} (hc : X.calm = true) (h : DGs X g P es ms) (hK : X.K = g.K := by rfl)
    (hn : (assignEach es X.env).length = n := by rfl) (hst : (assignEach es X.env).findIdx? (·.1) = none := by rfl) : DG X g P (.Tuple es k pos) (mTgT n ms) := fun W tk => pg_imp (pg_tup hc (h W tk) hn hst) fun v σ H Q h => by
  obtain ⟨F, ρ, fp, fq, t, st, o, nd, ho, h⟩ := h
  rw [hK]
  unfold mTgT at h
  split at h
  · rename_i ts e
    split at h
    · rename_i hl
      cases o with
      | d z =>
        cases z with
        | @tup a xs ds h1 h2 =>
          have e := Option.some.inj (show some _ = some ts from e)
          subst e
          exact ⟨a, xs, rfl, sqT_mono st.le h1, by rw [h2.length]; simpa using hl, F, ρ, fp, [], _, st, .ofAll h2, nd, ho, h⟩
        | _ => cases e
      | @t a vs us f h1 h2 =>
        have e := Option.some.inj (show some _ = some ts from e)
        subst e
        have nd2 := List.nodup_cons.mp nd
        refine ⟨a, vs, rfl, SqT.of h1, by rw [h2.length]; exact hl, F, ρ, fp, f, _, st, h2, nd2.2, fun b hb => ho b (List.mem_cons_of_mem _ hb), ?_⟩
        refine OutG.behind (Agree.refl P σ) rfl ((Stp.refl fun _ z => z).wid (fun _ z => z) fun a ha => .inl (List.mem_cons_of_mem _ ha)) h
      | _ => cases e
    · exact h.elim
  · exact h.elim
theorem dg_lst {es : List Expr} {k n : Nat} {ms : List T → Env → R Unit} {pos : Pos} (hc : X.calm = true) (h : DGs X g P es ms) (hK : X.K = g.K := by rfl)
    (hn : (assignEach es X.env).length = n := by rfl) (hst : (assignEach es X.env).findIdx? (·.1) = none := by rfl) : DG X g P (.Tuple es k pos) (mTgL n ms) := fun W tk => pg_imp (pg_unl hc (h W tk) hn hst) fun v σ H Q h => by
  obtain ⟨F, ρ, fp, fq, t, st, o, nd, ho, h⟩ := h
  rw [hK]
  unfold mTgL at h
  split at h
  · rename_i ts e
    split at h
    · rename_i hl
      cases o with
      | d z =>
        cases z with
        | @lst a xs ds h1 h2 =>
          have e := Option.some.inj (show some _ = some ts from e)
          subst e
          exact ⟨a, xs, rfl, SqL.of (st.le _ _ h1), by rw [h2.length]; simpa using hl, F, ρ, fp, [], _, st, .ofAll h2, nd, ho, h⟩
        | _ => cases e
      | @l a vs us f h1 h2 =>
        have e := Option.some.inj (show some _ = some ts from e)
        subst e
        have nd2 := List.nodup_cons.mp nd
        refine ⟨a, vs, rfl, SqL.of h1, by rw [h2.length]; exact hl, F, ρ, fp, f, _, st, h2, nd2.2, fun b hb => ho b (List.mem_cons_of_mem _ hb), ?_⟩
        refine OutG.behind (Agree.refl P σ) rfl ((Stp.refl fun _ z => z).wid (fun _ z => z) fun a ha => .inl (List.mem_cons_of_mem _ ha)) h
      | _ => cases e
    · exact h.elim
  · exact h.elim
/-- target = e -/
def mAsgG (mg : MG) (m : M) : MS := fun ρ => match m ρ with
  | .ok (.tm t) ρ1 _ => (match mg t ρ1 with
    | .ok _ ρ2 _ => .ok .nx ρ2 true
    | _ => .bad)
  | .ok (.pl _ _) _ _ => .bad
  | .exc c n d ρ' => .exc c n d ρ'
  | .bad => .bad
theorem sof_asgG {mg : MG} {m : M} {D : Ends} (h : SOf g W P (mAsgG mg m) D σ H) : tAsg (EOf g W m) (GOf g P W mg) D σ H := by
  obtain ⟨F, ρ, fp, st, h⟩ := h
  refine ⟨F, ρ, fp, st, ?_⟩
  unfold mAsgG at h
  cases hm : m ρ with
  | bad => rw [hm] at h; exact h
  | exc c n d ρ' =>
    rw [hm] at h
    exact fun d' F2 H2 fp2 s2 st2 ex => h d' σ F2 H2 fp2 s2 st2 ex (Agree.refl P σ)
  | ok o ρ1 p =>
    rw [hm] at h
    intro v F1 H1 fq fp1 s1 nd ho st1 op pu
    cases o with
    | pl i w => exact h.elim
    | tm t =>
      dsimp only at h
      refine ⟨F1, ρ1, fp1, fq, t, st1, op, nd, ho, ?_⟩
      cases hg : mg t ρ1 with
      | bad => rw [hg] at h; exact h.elim
      | exc => rw [hg] at h; exact h.elim
      | ok u ρ2 q =>
        rw [hg] at h
        exact fun σ2 F2 H2 fp2 s2 st2 a2 _ => h σ2 F2 H2 fp2 (s1.trans0 s2) st2 a2
theorem ds_asgG {tg e : Expr} {mg : MG} {m : M} {pos : Pos} (he : DE X g e m) (hg : DG X g P tg mg) (hs : swapsWithSole [tg] e pos.line X.env = pure false := by rfl) (hw : swappedStores [tg] e X.env = pure none := by rfl)
    (h1 : (assignEach [tg] X.env).map (·.2) = [assign tg X.env] := by rfl) : DS X g P (.Assign [tg] e pos) (mAsgG mg m) := fun W tk pa => ps_imp (ps_asg (he W tk) (hg W tk) hs hw h1) fun _ _ _ q => sof_asgG q
/-! ### what is walked -/
structure IT (g : G) (F : Hp) (J : It) (items : List PyData) : Prop where
  go : ∀ i H, i < items.length → Le F H → J.go i H
  stop : ∀ H, Le F H → J.stop items.length H
  yld : ∀ i H x H' F1, i < items.length → Le F F1 → Le F1 H → J.yld i H x H' → ∃ F2 d, Stp F1 H [] F2 H' [] ∧ Le F2 H' ∧ items[i]? = some d ∧ Is g.K F2 x d
theorem IT.walk {J : It} {items : List PyData} (h : IT g F J items) : Walk J items.length (fun H => Le F H) J.yld := ⟨fun i H hi l => h.go i H hi l, fun H l => h.stop H l, fun _ _ _ _ _ _ y => y⟩
def OutI (g : G) (W : WX) (σ : St) (F H : Hp) (fs fp : List Addr) (ρ : Env) (r : R (List PyData)) (R' : It → Hp → Prop) : Prop := match r with
  | .ok ds ρ' p => ∀ J F' H' fp', Stp F H fs F' H' fp' → Sta g F' H' σ ρ' fp' → (p = true → Pure ρ ρ' fp fp' H H') → IT g F' J ds → R' J H'
  | .exc c ns ds ρ' => ∀ d F' H' fp', Stp F H fs F' H' fp' → Sta g F' H' σ ρ' fp' → ExAt g F' H' ns ds d → W (.ref (g.adr c)) (some d) σ H'
  | .bad => False
def IOf (g : G) (W : WX) (m : MI) : TI := fun σ H R' => ∃ F ρ fp, Sta g F H σ ρ fp ∧ OutI g W σ F H fp fp ρ (m ρ) R'
def DI (X : Cx) (g : G) (tg iter : Expr) (m : MI) : Prop := ∀ W, Takes X W → PI X tg iter (IOf g W m)
theorem pi_imp {tg e : Expr} {t t' : TI} (h : PI X tg e t) (k : ∀ σ H Q, t' σ H Q → t σ H Q) : PI X tg e t' := ⟨fun pins s σ H Q I q => h.run pins s σ H Q I (k σ H Q q)⟩
/-- over what an operation by values gives -/
def mIOp (f : Env → List Op → Option (List PyData)) (ms : Env → R (List Op)) : MI := fun ρ => match ms ρ with
  | .ok os ρ1 p => (match f ρ1 os with
    | some ds => .ok ds ρ1 p
    | none => .bad)
  | .exc c n d ρ' => .exc c n d ρ'
  | .bad => .bad
theorem iof_op {f : Env → List Op → Option (List PyData)} {ms : Env → R (List Op)} {R' : It → Hp → Prop} {A : List V → Hp → (It → Hp → Prop) → Prop}
    (k : ∀ F H ρ fp fq os vs ds R', Sta g F H σ ρ fp → OpnL g F H σ fp os vs fq → f ρ os = some ds → (∀ J, IT g F J ds → R' J H) → A vs H R') (h : IOf g W (mIOp f ms) σ H R') : AOf g W ms σ H fun vs H' => A vs H' R' := by
  obtain ⟨F, ρ, fp, st, h⟩ := h
  refine ⟨F, ρ, fp, st, ?_⟩
  unfold mIOp at h
  cases hm : ms ρ with
  | bad => rw [hm] at h; exact h
  | exc c n d ρ' => rw [hm] at h; exact h
  | ok os ρ1 p =>
    rw [hm] at h
    intro vs F1 H1 fq fp1 s1 nd ho st1 op pu
    dsimp only at h
    cases hf : f ρ1 os with
    | none => rw [hf] at h; exact h.elim
    | some ds =>
      rw [hf] at h
      exact k F1 H1 ρ1 fp1 fq os vs ds R' st1 op hf fun J it => h J F1 H1 fp1 (s1.wid (fun _ z => z) fun a ha => .inl (List.mem_append_right _ ha)) st1 pu it
theorem it_yld {x : V} {d : PyData} {items : List PyData} {i : Nat} (l : Le F H) (e : items[i]? = some d) (h : Is g.K F x d) : ∃ F2 d, Stp F H [] F2 H [] ∧ Le F2 H ∧ items[i]? = some d ∧ Is g.K F2 x d := ⟨F, d, Stp.refl fun _ z => z, l, e, h⟩
def rangeL (i j : Int) : List PyData := (List.range (j - i).toNat).map fun (n : Nat) => .int (i + (n : Int))
theorem it_range {i j : Int} : IT g F (Itr i (j - i).toNat) (rangeL i j) := by
  have hl : (rangeL i j).length = (j - i).toNat := by simp [rangeL]
  refine ⟨fun k H hk l => by rw [hl] at hk; exact hk, fun H l => by rw [hl]; exact Nat.le_refl _, fun k H x H' F1 hk l l1 y => ?_⟩
  obtain ⟨rfl, rfl⟩ := y
  rw [hl] at hk
  exact it_yld l1 (d := .int (i + (k : Int))) (by simp [rangeL, hk]) (.int _)
theorem isall1 {vs : List V} {x : PyData} (h : IsAll g.K H vs [x]) : ∃ v, vs = [v] ∧ Is g.K H v x := by
  cases h with
  | cons h q => cases q; exact ⟨_, rfl, h⟩
theorem isall2 {vs : List V} {x y : PyData} (h : IsAll g.K H vs [x, y]) : ∃ v w, vs = [v, w] ∧ Is g.K H v x ∧ Is g.K H w y := by
  cases h with
  | cons h q => cases q with
    | cons h2 q => cases q; exact ⟨_, _, rfl, h, h2⟩
def fRng1 : Env → List Op → Option (List PyData) := fun ρ os => match vws ρ os with
  | some [.int j] => if -(2 ^ 62) ≤ j ∧ j < 2 ^ 62 then some (rangeL 0 j) else none
  | _ => none
def fRng2 : Env → List Op → Option (List PyData) := fun ρ os => match vws ρ os with
  | some [.int i, .int j] => if -(2 ^ 62) ≤ i ∧ i < 2 ^ 62 ∧ -(2 ^ 62) ≤ j ∧ j < 2 ^ 62 then some (rangeL i j) else none
  | _ => none
theorem di_range1 {tg a : Expr} {m : M} {p pos : Pos} (hm : X.mg "range" = none) (ha : DE X g a m) (hg : Gl X "range" := by rfl) (hs : starEach [a] X.env = [(false, eval a X.env)] := by rfl)
    (he : starEach [a] X.env = (false, eval a X.env) :: starEach [] X.env := by rfl) : DI X g tg (.Call (.Name "range" p) [a] [] pos) (mIOp fRng1 (mCons m mNil)) := fun W tk => pi_imp (pi_range1 hg hm (da_cons ha da_nil he W tk) hs) fun σ H R' h => by
  refine iof_op (A := fun vs H R' => ∃ j : Int, vs = [.int j] ∧ -(2 ^ 62) ≤ j ∧ j < 2 ^ 62 ∧ R' (Itr 0 j.toNat) H) (fun F H ρ fp fq os vs ds R' st op e k => ?_) h
  unfold fRng1 at e
  split at e
  · rename_i j e2
    split at e
    · rename_i hc
      cases e
      obtain ⟨v, rfl, z⟩ := isall1 (op.is st e2)
      cases z
      refine ⟨j, rfl, hc.1, hc.2, ?_⟩
      have := k (Itr 0 (j - 0).toNat) it_range
      simpa using this
    · cases e
  · cases e
theorem di_range2 {tg a b : Expr} {m n : M} {p pos : Pos} (hm : X.mg "range" = none) (ha : DE X g a m) (hb : DE X g b n) (hg : Gl X "range" := by rfl) (hs : starEach [a, b] X.env = [(false, eval a X.env), (false, eval b X.env)] := by rfl) (hs2 : starEach [b] X.env = [(false, eval b X.env)] := by rfl)
    (he : starEach [a, b] X.env = (false, eval a X.env) :: starEach [b] X.env := by rfl) (he2 : starEach [b] X.env = (false, eval b X.env) :: starEach [] X.env := by rfl) :
    DI X g tg (.Call (.Name "range" p) [a, b] [] pos) (mIOp fRng2 (mCons m (mCons n mNil))) := fun W tk => pi_imp (pi_range2 hg hm (da_cons ha (da_cons hb da_nil he2) he W tk) hs hs2) fun σ H R' h => by
  refine iof_op (A := fun vs H R' => ∃ i j : Int, vs = [.int i, .int j] ∧ (-(2 ^ 62) ≤ i ∧ i < 2 ^ 62 ∧ -(2 ^ 62) ≤ j ∧ j < 2 ^ 62) ∧ R' (Itr i (j - i).toNat) H) (fun F H ρ fp fq os vs ds R' st op e k => ?_) h
  unfold fRng2 at e
  split at e
  · rename_i i j e2
    split at e
    · rename_i hc
      cases e
      obtain ⟨v, w, rfl, z, z2⟩ := isall2 (op.is st e2)
      cases z
      cases z2
      exact ⟨i, j, rfl, hc, k _ it_range⟩
    · cases e
  · cases e
def seqD : PyData → Option (List PyData)
  | .list ds => some ds
  | .tuple ds => some ds
  | .str z => some (z.cps.toList.map fun c => .str ⟨#[c]⟩)
  | _ => none
/-- over a list, a tuple, a text (shared) -/
def mSeqI (m : M) : MI := fun ρ => match mSh true m ρ with
  | .ok (.tm (.d x)) ρ1 p => (match seqD x with
    | some ds => .ok ds ρ1 p
    | none => .bad)
  | .ok _ _ _ => .bad
  | .exc c n d ρ' => .exc c n d ρ'
  | .bad => .bad
theorem it_list {a : Addr} {xs : List V} {ds : List PyData} (h : F a = some (.lst xs)) (q : IsAll g.K F xs ds) : IT g F (Itl g.K a) ds :=
  ⟨fun i H hi l => by
    obtain ⟨u, e, _⟩ := q.get (show ds[i]? = some ds[i] by simp [hi])
    exact ⟨xs, u, SqL.of (l _ _ h), e⟩, fun H l => ⟨xs, SqL.of (l _ _ h), by rw [q.length]; exact Nat.le_refl _⟩, fun i H x H' F1 hi l l1 y => by
    obtain ⟨u, e, is⟩ := q.get (show ds[i]? = some ds[i] by simp [hi])
    obtain ⟨rfl, y⟩ := y
    have y := y xs (SqL.of (l1 _ _ (l _ _ h)))
    rw [e] at y
    cases y
    exact it_yld l1 (show ds[i]? = some ds[i] by simp [hi]) (is.mono l)⟩
theorem it_tup {a : Addr} {xs : List V} {ds : List PyData} (h : SqT g.K F a xs) (q : IsAll g.K F xs ds) : IT g F (Itt g.K a) ds :=
  ⟨fun i H hi l => by
    obtain ⟨u, e, _⟩ := q.get (show ds[i]? = some ds[i] by simp [hi])
    exact ⟨xs, u, sqT_mono l h, e⟩, fun H l => ⟨xs, sqT_mono l h, by rw [q.length]; exact Nat.le_refl _⟩, fun i H x H' F1 hi l l1 y => by
    obtain ⟨u, e, is⟩ := q.get (show ds[i]? = some ds[i] by simp [hi])
    obtain ⟨rfl, y⟩ := y
    have y := y xs (sqT_mono (l.trans l1) h)
    rw [e] at y
    cases y
    exact it_yld l1 (show ds[i]? = some ds[i] by simp [hi]) (is.mono l)⟩
theorem it_str {z : Str} : IT g F (Its z) (z.cps.toList.map fun c => .str ⟨#[c]⟩) :=
  ⟨fun i H hi l => by
    show i < z.cps.size
    simpa using hi, fun H l => by
    show z.cps.size ≤ _
    simp, fun i H x H' F1 hi l l1 y => by
    obtain ⟨rfl, c, e, rfl⟩ := y
    refine it_yld l1 (d := .str ⟨#[c]⟩) ?_ (.str _)
    rw [List.getElem?_map]
    rw [← Array.getElem?_toList] at e
    rw [e]
    rfl⟩
theorem di_seq {tg e : Expr} {m : M} (h : DE X g e m) (hK : X.K = g.K := by rfl) : DI X g tg e (mSeqI m) := fun W tk => ⟨fun pins s σ H R' I q => by
  have he := de_sh true h W tk
  obtain ⟨F, ρ, fp, st, q⟩ := q
  unfold mSeqI at q
  cases hm : mSh true m ρ with
  | bad => rw [hm] at q; exact q.elim
  | exc c n d ρ' =>
    rw [hm] at q
    exact (pi_list he).run pins s σ H R' I ⟨F, ρ, fp, st, by rw [hm]; exact q⟩
  | ok o ρ1 p =>
    rw [hm] at q
    cases o with
    | pl => exact q.elim
    | tm t =>
      cases t with
      | d x =>
        dsimp only at q
        cases x with
        | list ds =>
          refine (pi_list he).run pins s σ H R' I ⟨F, ρ, fp, st, ?_⟩
          rw [hm]
          intro v F1 H1 fq fp1 s1 nd ho st1 op pu
          have is := own_d_is op
          cases is with
          | lst h1 h2 =>
            refine ⟨_, rfl, ⟨_, SqL.of (st1.le _ _ h1)⟩, ?_⟩
            rw [hK]
            exact q _ F1 H1 fp1 (s1.wid (fun _ z => z) fun a ha => .inl (List.mem_append_right _ ha)) st1 pu (it_list h1 h2)
        | tuple ds =>
          refine (pi_tup he).run pins s σ H R' I ⟨F, ρ, fp, st, ?_⟩
          rw [hm]
          intro v F1 H1 fq fp1 s1 nd ho st1 op pu
          have is := own_d_is op
          cases is with
          | tup h1 h2 =>
            rw [hK]
            exact ⟨_, rfl, ⟨_, sqT_mono st1.le h1⟩, q _ F1 H1 fp1 (s1.wid (fun _ z => z) fun a ha => .inl (List.mem_append_right _ ha)) st1 pu (it_tup h1 h2)⟩
        | str z =>
          refine (pi_str he).run pins s σ H R' I ⟨F, ρ, fp, st, ?_⟩
          rw [hm]
          intro v F1 H1 fq fp1 s1 nd ho st1 op pu
          have is := own_d_is op
          cases is with
          | str => exact ⟨_, rfl, q _ F1 H1 fp1 (s1.wid (fun _ z => z) fun a ha => .inl (List.mem_append_right _ ha)) st1 pu it_str⟩
        | _ => exact q.elim
      | _ => exact q.elim⟩
/-! ### for -/
def mLoop (mg : MG) (mb : MS) : List PyData → MS
  | [] => mSkip
  | d :: ds => fun ρ => match mg (.d d) ρ with
    | .ok _ ρ1 _ => (match mb ρ1 with
      | .ok .nx ρ2 _ => mLoop mg mb ds ρ2
      | .ok .ct ρ2 _ => mLoop mg mb ds ρ2
      | .ok .bk ρ2 p => .ok .nx ρ2 p
      | r => r)
    | _ => .bad
def mFor (mi : MI) (mg : MG) (mb : MS) : MS := fun ρ => match mi ρ with
  | .ok ds ρ1 _ => mLoop mg mb ds ρ1
  | .exc c n d ρ' => .exc c n d ρ'
  | .bad => .bad
theorem Sta.grow (st : Sta g F H σ ρ fp) (s : Stp F H [] F1 H1 []) (l : Le F1 H1) : Sta g F1 H1 σ ρ fp := by
  obtain ⟨k1, k2, _⟩ := s.carry st.own.dom st.out (fun _ _ z => nomatch z)
  exact ⟨l, st.own.keep s.le k1, st.nd, k2⟩
theorem stp_grow (s : Stp F H [] F1 H1 []) : Stp F H fp F1 H1 fp := s.wid (fun _ z => nomatch z) fun a ha => .inr ha
theorem sof_for {mi : MI} {mg : MG} {mb : MS} {D : Ends} (h : SOf g W P (mFor mi mg mb) D σ H) : tFor (IOf g W mi) (GOf g P W mg) (SOf g W P mb) D σ H := by
  obtain ⟨F, ρ, fp, st, h⟩ := h
  refine ⟨F, ρ, fp, st, ?_⟩
  unfold mFor at h
  cases hm : mi ρ with
  | bad => rw [hm] at h; exact h
  | exc c n d ρ' =>
    rw [hm] at h
    exact fun d' F2 H2 fp2 s2 st2 ex => h d' σ F2 H2 fp2 s2 st2 ex (Agree.refl P σ)
  | ok ds ρ1 p =>
    rw [hm] at h
    intro J F1 H1 fp1 s1 st1 pu it
    have h1 : OutS g W P σ F1 H1 fp1 (mLoop mg mb ds ρ1) D := OutS.behind (Agree.refl P σ) s1 h
    refine for_it it.walk (fun i σ' H' => ∃ F' ρ' fp', Le F1 F' ∧ Sta g F' H' σ' ρ' fp' ∧ OutS g W P σ' F' H' fp' (mLoop mg mb (ds.drop i) ρ') D) ⟨F1, ρ1, fp1, Le.refl _, st1, h1⟩ (fun i σ' H' _ q => ?_) (fun i x σ' H' H'' hi q y => ?_) (fun σ' H' q => ?_)
    · obtain ⟨F', ρ', fp', l, st', _⟩ := q
      exact l.trans st'.le
    · obtain ⟨F', ρ', fp', l, st', h'⟩ := q
      obtain ⟨F2, d, s2, l2, e, is⟩ := it.yld i H' x H'' F' hi l st'.le y
      have st2 := st'.grow s2 l2
      have e' : ds.drop i = d :: ds.drop (i + 1) := by
        rw [List.drop_eq_getElem_cons hi]
        rw [List.getElem?_eq_getElem hi] at e
        rw [Option.some.inj e]
      rw [e'] at h'
      have h' := OutS.behind (Agree.refl P σ') (stp_grow (fp := fp') s2) h'
      refine ⟨F2, ρ', fp', [], .d d, st2, .d is, by simpa using st2.nd, (fun _ z => nomatch z), ?_⟩
      unfold mLoop at h'
      cases hg : mg (.d d) ρ' with
      | bad => rw [hg] at h'; exact h'.elim
      | exc => rw [hg] at h'; exact h'.elim
      | ok u ρ2 q =>
        rw [hg] at h'
        intro σ3 F3 H3 fp3 s3 st3 a3 l3
        refine ⟨F3, ρ2, fp3, st3, ?_⟩
        have h3 := OutS.behind a3 s3 h'
        dsimp only at h3
        have ll : Le F1 F3 := (l.trans s2.le).trans s3.le
        cases hb : mb ρ2 with
        | bad => rw [hb] at h3; exact h3
        | exc c n d ρ' => rw [hb] at h3; exact h3
        | ok fl ρ4 p4 =>
          rw [hb] at h3
          cases fl with
          | nx => exact fun σ4 F4 H4 fp4 s4 st4 a4 => ⟨F4, ρ4, fp4, ll.trans s4.le, st4, OutS.behind a4 s4 h3⟩
          | ct => exact fun σ4 F4 H4 fp4 s4 st4 a4 => ⟨F4, ρ4, fp4, ll.trans s4.le, st4, OutS.behind a4 s4 h3⟩
          | bk => exact h3
          | rt t => exact h3
    · obtain ⟨F', ρ', fp', l, st', h'⟩ := q
      rw [List.drop_length] at h'
      exact h' σ' F' H' fp' (Stp.refl fun _ z => z) st' (Agree.refl P σ')
theorem ds_for {tg iter : Expr} {body : List Stmt} {mi : MI} {mg : MG} {mb : MS} {pos : Pos} (hc : X.calm = true) (hi : DI X g tg iter mi) (hg : DG X g P tg mg) (hb : DSs X g P body mb)
    (hs : ∀ x, foldedSetIterable iter X.env x = pure x := by intro _; rfl) : DS X g P (.For tg iter body [] pos) (mFor mi mg mb) := fun W tk pa => ps_imp (ps_for pa hc (hi W tk) (hg W tk) (hb W tk pa) hs) fun _ _ _ q => sof_for q
end
end MV
/-! MvL: list comprehensions, while. -/
namespace MV
open PySem L2
section
variable {g : G} {F F' F1 F2 H H' H1 H2 : Hp} {σ σ' : St} {ρ ρ1 : Env} {fp fq fs fp1 fp2 fq1 fq2 : List Addr} {W : WX} {X : Cx} {P : List Nat}
def wipeE (ρ : Env) : List Nat → Env
  | [] => ρ
  | v :: vs => (wipeE ρ vs).set v none
/-- the block's own names are forgotten and put back: data only -/
def wipable (ρ : Env) : List Nat → Bool
  | [] => true
  | v :: vs => !vs.contains v && (match ρ[v]? with
    | some (some (.d _)) => true
    | some (some (.v _)) => true
    | some none => true
    | _ => false) && wipable ρ vs
def unwipe (ρ : Env) : List Nat → Env → Env
  | [], ρ' => ρ'
  | v :: vs, ρ' => unwipe ρ vs (ρ'.set v ((ρ[v]?).getD none))
theorem OwnS.no_at : ∀ {σ : St} {ρ : Env} {fp : List Addr} (i : Nat), OwnS g F H σ ρ fp → ∃ fp', fp'.Sublist fp ∧ OwnS g F H (σ.set i none) (ρ.set i none) fp'
  | _, _, _, _, .nil => ⟨[], List.Sublist.refl _, .nil⟩
  | _, _, fp, 0, .no q => ⟨fp, List.Sublist.refl _, .no q⟩
  | _, _, _, 0, .yes (fp := fp) (fq := fq) h q => ⟨fq, List.sublist_append_right _ _, .no q⟩
  | _, _, _, i + 1, .no q => by
    obtain ⟨f, h1, h2⟩ := OwnS.no_at i q
    exact ⟨f, h1, .no h2⟩
  | _, _, _, i + 1, .yes (fp := fp) (fq := fq) h q => by
    obtain ⟨f, h1, h2⟩ := OwnS.no_at i q
    exact ⟨fp ++ f, (List.Sublist.refl _).append h1, .yes h h2⟩
theorem OwnS.no_any : ∀ {σ : St} {ρ : Env} {fp : List Addr} {i : Nat}, OwnS g F H (σ.set i none) ρ fp → ∃ fp', fp'.Sublist fp ∧ OwnS g F H σ (ρ.set i none) fp'
  | [], _, _, _, h => by
    cases h with
    | nil => exact ⟨[], List.Sublist.refl _, .nil⟩
  | x :: σ, _, _, 0, h => by
    cases h with
    | no q => exact ⟨_, List.Sublist.refl _, .no q⟩
  | x :: σ, _, _, i + 1, h => by
    cases h with
    | no q =>
      obtain ⟨f, h1, h2⟩ := OwnS.no_any q
      exact ⟨f, h1, .no h2⟩
    | @yes v t _ ρ f0 fq h q =>
      obtain ⟨f, h1, h2⟩ := OwnS.no_any q
      exact ⟨f0 ++ f, (List.Sublist.refl _).append h1, .yes h h2⟩
theorem OwnS.put_at : ∀ {σ : St} {ρ : Env} {fp : List Addr} {i : Nat} {w : V} {t : T}, OwnS g F H (σ.set i none) ρ fp → σ[i]? = some (some w) → Own g F H w t [] → ∃ fp', fp'.Sublist fp ∧ OwnS g F H σ (ρ.set i (some t)) fp'
  | [], _, _, _, _, _, h, e, _ => by simp at e
  | x :: σ, _, _, 0, w, t, h, e, o => by
    cases h with
    | no q =>
      have e : x = some w := by simpa using e
      subst e
      exact ⟨_, List.Sublist.refl _, .yes (fp := []) o q⟩
  | x :: σ, _, _, i + 1, w, t, h, e, o => by
    cases h with
    | no q =>
      obtain ⟨f, h1, h2⟩ := OwnS.put_at q (by simpa using e) o
      exact ⟨f, h1, .no h2⟩
    | @yes v t' _ ρ f0 fq h q =>
      obtain ⟨f, h1, h2⟩ := OwnS.put_at q (by simpa using e) o
      exact ⟨f0 ++ f, (List.Sublist.refl _).append h1, .yes h h2⟩
theorem OwnS.wipe {ρ : Env} : ∀ {vs : List Nat}, OwnS g F H σ ρ fp → ∃ fp', fp'.Sublist fp ∧ OwnS g F H (wipe σ vs) (wipeE ρ vs) fp'
  | [], h => ⟨fp, List.Sublist.refl _, h⟩
  | v :: vs, h => by
    obtain ⟨f, h1, h2⟩ := OwnS.wipe (vs := vs) h
    obtain ⟨f', h3, h4⟩ := h2.no_at v
    exact ⟨f', h3.trans h1, h4⟩
theorem Sta.sub (st : Sta g F H σ ρ fp) (h : fq.Sublist fp) (o : OwnS g F H σ' ρ1 fq) : Sta g F H σ' ρ1 fq := ⟨st.le, o, st.nd.sublist h, fun a ha => st.out a (h.subset ha)⟩
theorem Sta.wipe {vs : List Nat} (st : Sta g F H σ ρ fp) : ∃ fp', fp'.Sublist fp ∧ Sta g F H (wipe σ vs) (wipeE ρ vs) fp' := by
  obtain ⟨f, h1, h2⟩ := st.own.wipe (vs := vs)
  exact ⟨f, h1, st.sub h1 h2⟩
theorem wipe_get {vs : List Nat} {i : Nat} (h : i ∉ vs) : (L2.wipe σ vs)[i]? = σ[i]? := by
  induction vs with
  | nil => rfl
  | cons v vs ih =>
    have h1 : v ≠ i := fun e => h (by rw [e]; exact List.mem_cons_self ..)
    show ((L2.wipe σ vs).set v none)[i]? = _
    rw [List.getElem?_set_ne h1]
    exact ih fun z => h (List.mem_cons_of_mem _ z)
theorem own_unwipe (o : OwnS g F H σ ρ fp) (l : Le F F1) : ∀ {vs : List Nat} {ρ' : Env} {fp' : List Addr}, wipable ρ vs = true → OwnS g F1 H1 (L2.wipe σ vs) ρ' fp' → ∃ fq, fq.Sublist fp' ∧ OwnS g F1 H1 σ (unwipe ρ vs ρ') fq
  | [], ρ', fp', _, h => ⟨fp', List.Sublist.refl _, h⟩
  | v :: vs, ρ', fp', hw, h => by
    unfold wipable at hw
    simp only [Bool.and_eq_true, Bool.not_eq_true', List.contains_eq_mem, decide_eq_false_iff_not] at hw
    obtain ⟨⟨h1, h2⟩, h3⟩ := hw
    have hg := wipe_get (σ := σ) h1
    have h : OwnS g F1 H1 ((L2.wipe σ vs).set v none) ρ' fp' := h
    unfold unwipe
    split at h2
    · rename_i x e
      obtain ⟨w, f0, f1, f2, k1, k2, _⟩ := o.get e
      obtain ⟨f, h4, h5⟩ := h.put_at (hg.trans k1) (.d ((own_d_is k2).mono l))
      obtain ⟨fq, h6, h7⟩ := own_unwipe o l h3 h5
      rw [e]
      exact ⟨fq, h6.trans h4, h7⟩
    · rename_i x e
      obtain ⟨w, f0, f1, f2, k1, k2, _⟩ := o.get e
      cases k2
      obtain ⟨f, h4, h5⟩ := h.put_at (hg.trans k1) .v
      obtain ⟨fq, h6, h7⟩ := own_unwipe o l h3 h5
      rw [e]
      exact ⟨fq, h6.trans h4, h7⟩
    · rename_i e
      obtain ⟨f, h4, h5⟩ := h.no_any
      obtain ⟨fq, h6, h7⟩ := own_unwipe o l h3 h5
      rw [e]
      exact ⟨fq, h6.trans h4, h7⟩
    · cases h2
theorem wipe_of_agree {vs : List Nat} (hP : ∀ j, j < σ.length → j ∈ vs ∨ j ∈ P) (ag : Agree P (L2.wipe σ vs) σ') (hl : σ'.length = (L2.wipe σ vs).length) : L2.wipe σ' vs = L2.wipe σ vs := by
  have hn : ∀ (τ : St) (us : List Nat) (j : Nat), j ∈ us → j < τ.length → (L2.wipe τ us)[j]? = some none := by
    intro τ us
    induction us with
    | nil => intro j h; cases h
    | cons u us ih =>
      intro j hj hlt
      show ((L2.wipe τ us).set u none)[j]? = _
      by_cases e : u = j
      · subst e
        rw [List.getElem?_set_self (by rw [wipe_length]; exact hlt)]
      · rw [List.getElem?_set_ne e]
        rcases List.mem_cons.mp hj with h | h
        · exact absurd h.symm e
        · exact ih j h hlt
  rw [wipe_length] at hl
  refine List.ext_getElem? fun j => ?_
  by_cases hj : j < σ.length
  · by_cases hv : j ∈ vs
    · rw [hn σ vs j hv hj, hn σ' vs j hv (by omega)]
    · rw [wipe_get hv]
      rcases hP j hj with h | h
      · exact absurd h hv
      · exact ag j h
  · rw [List.getElem?_eq_none (by rw [wipe_length]; omega), List.getElem?_eq_none (by rw [wipe_length]; omega)]
/-! ### list comprehensions -/
def mLcGo (vs : List Nat) (mg : MG) (mt : MB) (me : M) : List PyData → List T → Env → R (List T)
  | [], acc, ρ => .ok acc ρ true
  | d :: ds, acc, ρ => match mg (.d d) ρ with
    | .ok _ ρ1 _ => (match mt ρ1 with
      | .ok true ρ2 _ => (match me ρ2 with
        | .ok (.tm t) ρ3 _ => if acc.length < 10000 then mLcGo vs mg mt me ds (acc ++ [t]) (wipeE ρ3 vs) else .bad
        | _ => .bad)
      | .ok false ρ2 _ => mLcGo vs mg mt me ds acc (wipeE ρ2 vs)
      | _ => .bad)
    | _ => .bad
def mLc (n : Nat) (vs : List Nat) (mi : MI) (mg : MG) (mt : MB) (me : M) : M := fun ρ => match mi ρ with
  | .ok ds ρ1 _ => if (wipable ρ1 vs && decide (ρ1.length = n)) = true then (match mLcGo vs mg mt me ds [] (wipeE ρ1 vs) with
    | .ok ts ρ2 _ => .ok (.tm (.l ts)) (unwipe ρ1 vs ρ2) false
    | _ => .bad) else .bad
  | .exc c n d ρ' => .exc c n d ρ'
  | .bad => .bad
def noW : WX := fun _ _ _ _ => False
theorem eof_lc {n : Nat} {vs : List Nat} {mi : MI} {mg : MG} {mt : MB} {me : M} {Q : VK} (hP : ∀ j, j < n → j ∈ vs ∨ j ∈ P) (h : EOf g W (mLc n vs mi mg mt me) σ H Q) : tLc (IOf g W mi) (GOf g P noW mg) (BOf g noW mt) (EOf g noW me) vs σ H Q := by
  obtain ⟨F, ρ, fp, st, h⟩ := h
  refine ⟨F, ρ, fp, st, ?_⟩
  unfold mLc at h
  cases hm : mi ρ with
  | bad => rw [hm] at h; exact h
  | exc c n d ρ' => rw [hm] at h; exact h
  | ok ds ρ1 p =>
    rw [hm] at h
    intro J F1 H1 fp1 s1 st1 pu it D hD
    dsimp only at h
    split at h
    · rename_i hw
      simp only [Bool.and_eq_true, decide_eq_true_eq] at hw
      obtain ⟨hw, hl⟩ := hw
      have hP : ∀ j, j < σ.length → j ∈ vs ∨ j ∈ P := fun j hj => hP j (by rw [← hl, ← st1.own.length]; exact hj)
      cases hr : mLcGo vs mg mt me ds [] (wipeE ρ1 vs) with
      | bad => rw [hr] at h; exact h.elim
      | exc => rw [hr] at h; exact h.elim
      | ok tsf ρf pf =>
        rw [hr] at h
        obtain ⟨fw, hsub, stw⟩ := st1.wipe (vs := vs)
        have npD : D ∉ fw := fun z => by
          obtain ⟨o, e⟩ := stw.own.dom D z
          rw [hD] at e
          cases e
        have stD : Sta g F1 (upd H1 D (.lst [])) (L2.wipe σ vs) (wipeE ρ1 vs) fw := ⟨le_upd st1.le hD, stw.own.keep (Le.refl _) (fun a _ u e => keep_upd hD a u e), stw.nd, stw.out⟩
        have s0 : Stp F1 H1 fp1 F1 (upd H1 D (.lst [])) (D :: fw) := ⟨Le.refl _, fun a u e _ => keep_upd hD a u e, fun a e => by
            by_cases ha : a = D
            · rw [ha]; exact hD
            · rw [upd_ne ha] at e; exact e, fun a ha => by
            rcases List.mem_cons.mp ha with h | h
            · rw [h]; exact .inr hD
            · exact .inl (hsub.subset h), fun a o e => .inl ⟨o, e⟩⟩
        refine lc_it it.walk (fun i H' => ∃ F' ρ' fp' fa us ts, Le F1 F' ∧ H' D = some (.lst us) ∧ OwnL g F' H' us ts fa ∧ (D :: (fa ++ fp')).Nodup ∧ (∀ a ∈ D :: fa, F' a = none) ∧ Sta g F' H' (L2.wipe σ vs) ρ' fp' ∧ Stp F1 H1 fp1 F' H' (D :: (fa ++ fp')) ∧
          mLcGo vs mg mt me (ds.drop i) ts ρ' = .ok tsf ρf pf) ⟨F1, wipeE ρ1 vs, fw, [], [], [], Le.refl _, upd_same, .nil, List.nodup_cons.mpr ⟨npD, stw.nd⟩, fun a ha => by
            have e : a = D := by simpa using ha
            rw [e]; exact free_of st1.le hD, stD, s0, hr⟩ (fun i H' _ q => ?_) (fun i x H' H'' hi q y => ?_) (fun H' q => ?_)
        · obtain ⟨F', ρ', fp', fa, us, ts, l, _, _, _, _, st', _⟩ := q
          exact l.trans st'.le
        · obtain ⟨F', ρ', fp', fa, us, ts, l, e1, e2, nd, out, st', sA, go⟩ := q
          obtain ⟨F2, d, s2, l2, e, is⟩ := it.yld i H' x H'' F' hi l st'.le y
          have st2 := st'.grow s2 l2
          have e' : ds.drop i = d :: ds.drop (i + 1) := by
            rw [List.drop_eq_getElem_cons hi]
            rw [List.getElem?_eq_getElem hi] at e
            rw [Option.some.inj e]
          rw [e'] at go
          unfold mLcGo at go
          have c1 := s2.carry (fs := D :: (fa ++ fp')) (fun a ha => by
            rcases List.mem_cons.mp ha with h | h
            · rw [h]; exact ⟨_, e1⟩
            · rcases List.mem_append.mp h with h | h
              · exact e2.dom a h
              · exact st'.own.dom a h) (fun a ha => by
            rcases List.mem_cons.mp ha with h | h
            · rw [h]; exact out D (List.mem_cons_self ..)
            · rcases List.mem_append.mp h with h | h
              · exact out a (List.mem_cons_of_mem _ h)
              · exact st'.out a h) (fun _ _ z => nomatch z)
          have e1' : H'' D = some (.lst us) := c1.1 D (List.mem_cons_self ..) _ e1
          have e2' : OwnL g F2 H'' us ts fa := e2.keep s2.le fun a ha => c1.1 a (List.mem_cons_of_mem _ (List.mem_append_left _ ha))
          have out2 : ∀ a ∈ D :: fa, F2 a = none := fun a ha => c1.2.1 a (by
            rcases List.mem_cons.mp ha with h | h
            · rw [h]; exact List.mem_cons_self ..
            · exact List.mem_cons_of_mem _ (List.mem_append_left _ h))
          have sB : Stp F1 H1 fp1 F2 H'' (D :: (fa ++ fp')) := sA.trans0 (s2.wid (fun _ z => nomatch z) fun a ha => .inr ha)
          refine ⟨F2, ρ', fp', [], .d d, st2, .d is, by simpa using st2.nd, (fun _ z => nomatch z), ?_⟩
          cases hg : mg (.d d) ρ' with
          | bad => rw [hg] at go; cases go
          | exc => rw [hg] at go; cases go
          | ok u ρ2 q =>
            rw [hg] at go
            dsimp only at go
            intro σ3 F3 H3 fp3 s3 st3 a3 l3
            have hwp : L2.wipe σ3 vs = L2.wipe σ vs := wipe_of_agree hP a3 l3
            refine ⟨hwp, F3, ρ2, fp3, st3, ?_⟩
            -- what is held over a step that writes to the slots' part
            have hold : ∀ {F5 H5 F6 H6 : Hp} {f5 f6 : List Addr}, Stp F5 H5 f5 F6 H6 f6 → H5 D = some (.lst us) → OwnL g F5 H5 us ts fa → (∀ a ∈ D :: fa, F5 a = none) → (∀ a ∈ D :: fa, a ∉ f5) → H6 D = some (.lst us) ∧ OwnL g F6 H6 us ts fa ∧ (∀ a ∈ D :: fa, F6 a = none) ∧ (∀ a ∈ D :: fa, a ∉ f6) := by
              intro F5 H5 F6 H6 f5 f6 s5 d5 o5 out5 dj5
              obtain ⟨k1, k2, k3⟩ := s5.carry (fs := D :: fa) (fun a ha => by
                rcases List.mem_cons.mp ha with h | h
                · rw [h]; exact ⟨_, d5⟩
                · exact o5.dom a h) out5 dj5
              exact ⟨k1 D (List.mem_cons_self ..) _ d5, o5.keep s5.le fun a ha => k1 a (List.mem_cons_of_mem _ ha), k2, k3⟩
            obtain ⟨nD, nd⟩ := List.nodup_cons.mp nd
            obtain ⟨nA, nB, nC⟩ := List.nodup_append.mp nd
            have dj : ∀ a ∈ D :: fa, a ∉ [] ++ fp' := fun a ha z => by
              rcases List.mem_cons.mp ha with h | h
              · exact nD (by rw [← h]; simpa using Or.inr z)
              · exact nC a h a z rfl
            obtain ⟨d3, o3, out3, dj3⟩ := hold s3 e1' e2' out2 dj
            have nda : (D :: fa).Nodup := List.nodup_cons.mpr ⟨fun z => nD (List.mem_append_left _ z), nA⟩
            have wide : ∀ {F5 H5 : Hp} {f5 : List Addr}, Stp F2 H'' ([] ++ fp') F5 H5 f5 → Stp F1 H1 fp1 F5 H5 (D :: (fa ++ f5)) := fun {F5 H5 f5} s5 => sB.trans0 (s5.wid (fun a ha => List.mem_cons_of_mem _ (List.mem_append_right _ ha)) fun a ha => by
              rcases List.mem_cons.mp ha with h | h
              · exact .inr (by rw [h]; exact List.mem_cons_self ..)
              · rcases List.mem_append.mp h with h | h
                · exact .inr (List.mem_cons_of_mem _ (List.mem_append_left _ h))
                · exact .inl h)
            cases ht : mt ρ2 with
            | bad => rw [ht] at go; cases go
            | exc => rw [ht] at go; cases go
            | ok b ρ4 p4 =>
              rw [ht] at go
              intro F4 H4 fp4 s4 st4 pu4
              obtain ⟨d4, o4, out4, dj4⟩ := hold s4 d3 o3 out3 dj3
              have s34 := s3.trans0 s4
              have lle : Le F1 F4 := (l.trans s2.le).trans s34.le
              cases b with
              | false =>
                dsimp only at go
                rw [if_neg (by decide)]
                obtain ⟨f5, hs5, st5⟩ := st4.wipe (vs := vs)
                rw [hwp] at st5
                refine ⟨F4, _, f5, fa, us, ts, lle, d4, o4, ?_, out4, st5, (wide s34).wid (fun _ z => z) (fun a ha => .inl ?_), go⟩
                · exact (show ((D :: fa) ++ f5).Nodup from List.nodup_append.mpr ⟨nda, st5.nd, fun a ha b hb e => dj4 a ha (e ▸ hs5.subset hb)⟩)
                · rcases List.mem_cons.mp ha with h | h
                  · rw [h]; exact List.mem_cons_self ..
                  · rcases List.mem_append.mp h with h | h
                    · exact List.mem_cons_of_mem _ (List.mem_append_left _ h)
                    · exact List.mem_cons_of_mem _ (List.mem_append_right _ (hs5.subset h))
              | true =>
                dsimp only at go
                rw [if_pos rfl]
                refine ⟨F4, ρ4, fp4, st4, ?_⟩
                cases he : me ρ4 with
                | bad => rw [he] at go; cases go
                | exc => rw [he] at go; cases go
                | ok o ρ5 p5 =>
                  rw [he] at go
                  intro w F5 H5 fq fp5 s5 nd5 ho5 st5 op5 pu5
                  obtain ⟨d5, o5, out5, dj5⟩ := hold s5 d4 o4 out4 dj4
                  cases o with
                  | pl => cases go
                  | tm t =>
                    dsimp only at go
                    split at go
                    · rename_i hlt
                      refine ⟨us, d5, by rw [o5.length]; exact Nat.lt_of_lt_of_le hlt (by decide), ?_⟩
                      obtain ⟨f6, hs6, st6⟩ := st5.wipe (vs := vs)
                      rw [hwp] at st6
                      have op5 : Own g F5 H5 w t fq := op5
                      -- the list grows
                      have kp : ∀ {a : Addr}, a ≠ D → ∀ u, H5 a = some u → upd H5 D (.lst (us ++ [w])) a = some u := fun {a} ha u e => by rw [upd_ne ha]; exact e
                      obtain ⟨n51, n52, n53⟩ := List.nodup_append.mp nd5
                      have dja : ∀ a ∈ fa, a ≠ D := fun a ha e => nD (List.mem_append_left _ (e ▸ ha))
                      have djq : ∀ a ∈ D :: fa, a ∉ fq := fun a ha z => dj5 a ha (List.mem_append_left _ z)
                      have djp : ∀ a ∈ D :: fa, a ∉ fp5 := fun a ha z => dj5 a ha (List.mem_append_right _ z)
                      have le7 : Le F5 (upd H5 D (.lst (us ++ [w]))) := fun a u e => kp (fun h => by rw [h, out5 D (List.mem_cons_self ..)] at e; cases e) u (st5.le a u e)
                      refine ⟨F5, _, f6, fa ++ fq, us ++ [w], ts ++ [t], lle.trans s5.le, upd_same, ?_, ?_, ?_, ?_, ?_, go⟩
                      · have q1 := (o5.keep (Le.refl _) (H' := upd H5 D (.lst (us ++ [w]))) fun a ha => kp (dja a ha)).append (OwnL.cons (op5.keep (Le.refl _) fun a ha => kp (fun h => djq D (List.mem_cons_self ..) (h ▸ ha))) .nil)
                        simpa using q1
                      · have e7 : D :: (fa ++ fq ++ f6) = (D :: fa) ++ (fq ++ f6) := by simp
                        rw [e7]
                        refine List.nodup_append.mpr ⟨nda, List.nodup_append.mpr ⟨n51, n52.sublist hs6, fun a ha b hb => n53 a ha b (hs6.subset hb)⟩, fun a ha b hb e => ?_⟩
                        subst e
                        rcases List.mem_append.mp hb with h | h
                        · exact djq a ha h
                        · exact djp a ha (hs6.subset h)
                      · intro a ha
                        rcases List.mem_cons.mp ha with h | h
                        · rw [h]; exact out5 D (List.mem_cons_self ..)
                        · rcases List.mem_append.mp h with h | h
                          · exact out5 a (List.mem_cons_of_mem _ h)
                          · exact ho5 a h
                      · exact ⟨le7, st6.own.keep (Le.refl _) (fun a ha => kp (fun h => djp D (List.mem_cons_self ..) (h ▸ hs6.subset ha))), st6.nd, st6.out⟩
                      · have s7 : Stp F5 H5 (D :: (fa ++ (fq ++ fp5))) F5 (upd H5 D (.lst (us ++ [w]))) (D :: (fa ++ fq ++ f6)) := by
                          refine ⟨Le.refl _, fun a u e hn => kp (fun h => hn (by rw [h]; exact List.mem_cons_self ..)) u e, fun a e => ?_, fun a ha => .inl ?_, fun a o e => .inl ⟨o, e⟩⟩
                          · by_cases h : a = D
                            · rw [h, upd_same] at e; cases e
                            · rw [upd_ne h] at e; exact e
                          · simp only [List.mem_cons, List.mem_append] at ha ⊢
                            rcases ha with h | (h | h) | h
                            · exact .inl h
                            · exact .inr (.inl h)
                            · exact .inr (.inr (.inl h))
                            · exact .inr (.inr (.inr (hs6.subset h)))
                        exact (wide (s34.trans0 s5)).trans0 s7
                    · cases go
        · obtain ⟨F', ρ', fp', fa, us, ts, l, e1, e2, nd, out, st', sA, go⟩ := q
          rw [List.drop_length] at go
          have go : R.ok ts ρ' true = R.ok tsf ρf pf := go
          cases go
          obtain ⟨f9, hs9, o9⟩ := own_unwipe st1.own l hw st'.own
          obtain ⟨nD, nd'⟩ := List.nodup_cons.mp nd
          have nd9 : ((D :: fa) ++ f9).Nodup := List.Sublist.nodup (l₂ := D :: (fa ++ fp')) ((List.Sublist.refl (D :: fa)).append hs9) nd
          exact h (.ref D) F' H' (D :: fa) f9 (s1.trans0 (sA.wid (fun _ z => z) fun a ha => .inl (by
            simp only [List.cons_append, List.mem_cons, List.mem_append] at ha ⊢
            rcases ha with h | h | h
            · exact .inl h
            · exact .inr (.inl h)
            · exact .inr (.inr (hs9.subset h))))) nd9 out ⟨st'.le, o9, (List.nodup_append.mp nd9).2.1, fun a ha => st'.out a (hs9.subset ha)⟩ (.l e1 e2) (fun z => nomatch z)
    · exact h.elim
def mYes : MB := fun ρ => .ok true ρ true
def DTs (X : Cx) (g : G) (ifs : List Expr) (m : MB) : Prop := ∀ W, Takes X W → PTs X ifs (BOf g W m)
theorem dts_nil : DTs X g [] mYes := fun W tk => ⟨fun pins s σ H Q I h => (pts_nil (X := X)).run pins s σ H Q I (by
  obtain ⟨F, ρ, fp, st, h⟩ := h
  exact h F H fp (Stp.refl fun _ z => z) st fun _ => pure_refl)⟩
theorem dts_one {c : Expr} {m : MB} (h : DT X g c m) : DTs X g [c] m := fun W tk => pts_one (h W tk)
/-- a list comprehension; vs: the block's own names by their places -/
theorem takes_no : Takes X noW := by
  rintro u s' ⟨a, B, sI, ps, σ, H, c, d, e, I, nb, up, sky, na, os, ag, f⟩
  exact absurd f not_false
section
variable {elt tg iter : Expr} {ifs : List Expr} {scope : Scope} {own : List (Str × Nat)} {pos : Pos} {n : Nat} {vs : List Nat} {mi : MI} {mg : MG} {mt : MB} {me : M}
theorem de_lc (hc : X.calm = true) (hN : X.N.Nodup) (ok : BlkOk X.N X.env.scope scope own) (hvs : own.map (·.2) = vs) (hP : ∀ j, j < n → j ∈ vs ∨ j ∈ P) (hi : DI X g tg iter mi)
    (hg : ∀ (s : Shared) (H : Hp) (C : Addr) (cl : List (Str × Addr)) (fp : List Addr), DG (X.blk s H scope (compEnvC scope cl C X.env) fp) g P tg mg) (ht : ∀ (s : Shared) (H : Hp) (C : Addr) (cl : List (Str × Addr)) (fp : List Addr), DTs (X.blk s H scope (compEnvC scope cl C X.env) fp) g ifs mt)
    (he : ∀ (s : Shared) (H : Hp) (C : Addr) (cl : List (Str × Addr)) (fp : List Addr), DE (X.blk s H scope (compEnvC scope cl C X.env) fp) g elt me) (hs : ∀ x, foldedSetIterable iter X.env x = pure x := by intro _; rfl) :
    DE X g (.ListComp elt [⟨tg, iter, ifs, 0⟩] scope pos) (mLc n vs mi mg mt me) := fun W tk =>
  pe_imp (pe_lc hc hN (hi W tk) ok (fun s H C cl fp => hg s H C cl fp noW takes_no) (fun s H C cl fp => ht s H C cl fp noW takes_no) (fun s H C cl fp => he s H C cl fp noW takes_no) hs) fun σ H Q h => by
    rw [hvs]
    exact eof_lc hP h
theorem ds_lc {P0 : List Nat} {i : Nat} {y : Str} {py spos : Pos} (hc : X.calm = true) (hN : X.N.Nodup) (ok : BlkOk X.N X.env.scope scope own) (hvs : own.map (·.2) = vs) (hP : ∀ j, j < n → j ∈ vs ∨ j ∈ P) (hi : DI X g tg iter mi)
    (hg : ∀ (s : Shared) (H : Hp) (C : Addr) (cl : List (Str × Addr)) (fp : List Addr), DG (X.blk s H scope (compEnvC scope cl C X.env) fp) g P tg mg) (ht : ∀ (s : Shared) (H : Hp) (C : Addr) (cl : List (Str × Addr)) (fp : List Addr), DTs (X.blk s H scope (compEnvC scope cl C X.env) fp) g ifs mt)
    (he : ∀ (s : Shared) (H : Hp) (C : Addr) (cl : List (Str × Addr)) (fp : List Addr), DE (X.blk s H scope (compEnvC scope cl C X.env) fp) g elt me) (hy : X.N[i]? = some y := by rfl) (hyl : X.env.scope.names.lookup y = some .local := by rfl)
    (hsw : swapsWith (.ListComp elt [⟨tg, iter, ifs, 0⟩] scope pos) (some (.Name y py)) spos.line X.env = pure true := by exact sw_true rfl rfl rfl rfl) (hs : ∀ x, foldedSetIterable iter X.env x = pure x := by intro _; rfl) :
    DS X g P0 (.Assign [.Name y py] (.ListComp elt [⟨tg, iter, ifs, 0⟩] scope pos) spos) (mAsg P0 i (mLc n vs mi mg mt me)) := fun W tk pa =>
  ps_imp (ps_setLc hc hN hy hyl hsw (hi W tk) ok (fun s H C cl fp => hg s H C cl fp noW takes_no) (fun s H C cl fp => ht s H C cl fp noW takes_no) (fun s H C cl fp => he s H C cl fp noW takes_no) hs) fun D σ H h => by
    rw [hvs]
    have h2 := sof_asg h
    exact eof_lc hP h2
end
end
end MV
/-! MvM: comparisons, membership, builtins that give a value without a heap. -/
namespace MV
open PySem L2
section
variable {g : G} {F F' F1 F2 H H' H1 H2 : Hp} {σ σ' : St} {ρ ρ1 : Env} {fp fq fs fp1 fp2 fq1 fq2 : List Addr} {W : WX} {X : Cx} {P : List Nat}
theorem callr_or {c : Value} {r r' : List V → Hp → VK → Prop} (h : CallR X c r) (h' : CallR X c r') : CallR X c (fun xs H Q => r xs H Q ∨ r' xs H Q) := fun ps s σ H xs us Q I rv q => q.elim (h ps s σ H xs us Q I rv) (h' ps s σ H xs us Q I rv)
theorem opN_mono {r r' : RN} {f : Env → List Op → R Op} (h : OpN g r f) (k : ∀ W σ vs H Q, r W σ vs H Q → r' W σ vs H Q) : OpN g r' f := fun W σ F H ρ fp fq os vs Q st op nd ho q => k _ _ _ _ _ (h W σ F H ρ fp fq os vs Q st op nd ho q)
/-- one operand as data -/
theorem opB_1 {r : List V → Hp → VK → Prop} {h : List PyData → Option PyData} (k : ∀ H x a c Q, Is g.K H x a → h [a] = some c → (∀ v, (∀ F, Is g.K F v c) → Q v H) → r [x] H Q) (hn : ∀ l c, h l = some c → l.length = 1) : OpN g (rBN r) (fD h) := opN_fD fun W σ H vs xs x Q is e q => by
  have hl := hn _ _ e
  match xs, hl, is, e with
  | [a], _, .cons i1 .nil, e => exact k H _ a x Q i1 e q
theorem opB_2 {r : List V → Hp → VK → Prop} {h : List PyData → Option PyData} (k : ∀ H x y a b c Q, Is g.K H x a → Is g.K H y b → h [a, b] = some c → (∀ v, (∀ F, Is g.K F v c) → Q v H) → r [x, y] H Q) (hn : ∀ l c, h l = some c → l.length = 2) : OpN g (rBN r) (fD h) := opN_fD fun W σ H vs xs x Q is e q => by
  have hl := hn _ _ e
  match xs, hl, is, e with
  | [a, b], _, .cons i1 (.cons i2 .nil), e => exact k H _ _ a b x Q i1 i2 e q
/-! ### data as the kit compares it -/
mutual
theorem is_dp : ∀ {d : PyData} {v : V}, Is g.K H v d → d.canLay0 = true → Dp g.K H v d
  | .none, _, .non, _ => .non
  | .bool b, _, .bl _, _ => .bl b
  | .int i, _, .int _, _ => .int i
  | .str x, _, .str _, _ => .str x
  | .list ds, _, .lst h q, e => .lst (SqL.of h) (is_dpAll q (by simpa [PyData.canLay0] using e))
  | .tuple ds, _, .tup h q, e => .tup h (is_dpAll q (by simpa [PyData.canLay0] using e))
  | .dict _, _, .dct _ _, e => by simp [PyData.canLay0] at e
theorem is_dpAll : ∀ {ds : List PyData} {vs : List V}, IsAll g.K H vs ds → PyData.canLayAll0 ds = true → DpAll g.K H vs ds
  | [], _, .nil, _ => .nil
  | d :: ds, _, .cons h q, e => by
    simp only [PyData.canLayAll0, Bool.and_eq_true] at e
    exact .cons (is_dp h e.1) (is_dpAll q e.2)
end
def hEq : List PyData → Option PyData
  | [.str x, .str y] => some (.bool (decide (x = y)))
  | [a, b] => if (SeqAt.shaped a && SeqAt.shaped b) = true then some (.bool (PyData.eqv a b)) else none
  | _ => none
def hNe : List PyData → Option PyData
  | [.str x, .str y] => some (.bool (!decide (x = y)))
  | [a, b] => if (SeqAt.shaped a && SeqAt.shaped b) = true then some (.bool (!PyData.eqv a b)) else none
  | _ => none
theorem is_shaped {d : PyData} {v : V} (h : Is g.K H v d) (e : SeqAt.shaped d = true) : Dp g.K H v d := is_dp h (SeqAt.canLay_of_shaped e)
section
variable {a b : Expr} {m n : M} {pos : Pos}
theorem op_two {h : List PyData → Option PyData} {c : PyData → PyData → Option PyData} (e : ∀ l x, h l = some x → ∃ a b, l = [a, b] ∧ c a b = some x) : ∀ l c, h l = some c → l.length = 2 := fun l x q => by
  obtain ⟨a, b, rfl, _⟩ := e l x q
  rfl
def rEqX (K : PySem.W.Frag) : R2 := fun x y H Q => rEq x y H Q ∨ rEqD K x y H Q
theorem opN_eq : OpN g (r2N (rEqX g.K)) (fD hEq) := opN_2 (fun H x y a b c Q i1 i2 e q => by
  unfold hEq at e
  split at e
  · rename_i i j e1
    cases e1
    cases e
    cases i1
    cases i2
    refine .inl ⟨rfl, ?_⟩
    have h : decide (V.str i = V.str j) = decide (i = j) := by
      rw [Bool.eq_iff_iff]
      simp
    rw [h]
    exact q _ fun F => .bl _
  · rename_i e1
    cases e1
    split at e
    · rename_i hs
      rw [Bool.and_eq_true] at hs
      cases e
      exact .inr ⟨_, _, is_shaped i1 hs.1, is_shaped i2 hs.2, hs.1, hs.2, q _ fun F => .bl _⟩
    · cases e
  · cases e) fun l c e => by
  unfold hEq at e
  split at e
  · rfl
  · rfl
  · cases e
def rNeX (K : PySem.W.Frag) : R2 := fun x y H Q => rNe x y H Q ∨ rNeD K x y H Q
theorem opN_ne : OpN g (r2N (rNeX g.K)) (fD hNe) := opN_2 (fun H x y a b c Q i1 i2 e q => by
  unfold hNe at e
  split at e
  · rename_i i j e1
    cases e1
    cases e
    cases i1
    cases i2
    refine .inl ⟨rfl, ?_⟩
    have h : decide (V.str i = V.str j) = decide (i = j) := by
      rw [Bool.eq_iff_iff]
      simp
    rw [h]
    exact q _ fun F => .bl _
  · rename_i e1
    cases e1
    split at e
    · rename_i hs
      rw [Bool.and_eq_true] at hs
      cases e
      exact .inr ⟨_, _, is_shaped i1 hs.1, is_shaped i2 hs.2, hs.1, hs.2, q _ fun F => .bl _⟩
    · cases e
  · cases e) fun l c e => by
  unfold hNe at e
  split at e
  · rfl
  · rfl
  · cases e
/-- comparisons of two ints or two texts -/
def hCmp (f : Int → Int → Bool) (k : List Nat → List Nat → Bool) : List PyData → Option PyData
  | [.int i, .int j] => some (.bool (f i j))
  | [.str i, .str j] => some (.bool (k i.cps.toList j.cps.toList))
  | _ => none
def rCmp (f : Int → Int → Bool) (k : List Nat → List Nat → Bool) : R2 := fun x y H Q => rI0 (fun i j => .bl (f i j)) x y H Q ∨ ∃ i j, x = .str i ∧ y = .str j ∧ Q (.bl (k i.cps.toList j.cps.toList)) H
theorem opN_cmp {f : Int → Int → Bool} {k : List Nat → List Nat → Bool} : OpN g (r2N (rCmp f k)) (fD (hCmp f k)) := opN_2 (fun H x y a b c Q i1 i2 e q => by
  unfold hCmp at e
  split at e
  · rename_i i j e1
    cases e1
    cases e
    cases i1
    cases i2
    exact .inl ⟨i, j, rfl, rfl, q _ fun F => .bl _⟩
  · rename_i i j e1
    cases e1
    cases e
    cases i1
    cases i2
    exact .inr ⟨i, j, rfl, rfl, q _ fun F => .bl _⟩
  · cases e) fun l c e => by
  unfold hCmp at e
  split at e
  · rfl
  · rfl
  · cases e
def hLt := hCmp (fun i j => decide (i < j)) fun i j => decide (i < j)
def hLe := hCmp (fun i j => decide (i ≤ j)) fun i j => !decide (j < i)
def hGt := hCmp (fun i j => decide (j < i)) fun i j => decide (j < i)
def hGe := hCmp (fun i j => decide (j ≤ i)) fun i j => !decide (i < j)
theorem op_ltX : OpR X (compareOp .Lt) (rCmp (fun i j => decide (i < j)) fun i j => decide (i < j)) := opr_or op_lt op_lt_str
theorem op_leX : OpR X (compareOp .LtE) (rCmp (fun i j => decide (i ≤ j)) fun i j => !decide (j < i)) := opr_or op_le op_le_str
theorem op_gtX : OpR X (compareOp .Gt) (rCmp (fun i j => decide (j < i)) fun i j => decide (j < i)) := opr_or op_gt op_gt_str
theorem op_geX : OpR X (compareOp .GtE) (rCmp (fun i j => decide (j ≤ i)) fun i j => !decide (i < j)) := opr_or op_ge op_ge_str
/-! ### is None -/
def nonT : T → Option Bool
  | .d .none => some true
  | .d _ => some false
  | .v x => some (decide (x = .non))
  | .l _ => some false
  | .t _ => some false
  | .k _ _ => some false
  | .o _ _ _ => some false
  | .scr _ => some false
  | .h => none
theorem nonT_ok {t : T} {v : V} {f : List Addr} {b : Bool} (o : Own g F H v t f) (e : nonT t = some b) : decide (v = .non) = b := by
  cases o with
  | d h => cases h <;> first | (have e := Option.some.inj (show some true = some b from e); subst e; rfl) | (have e := Option.some.inj (show some false = some b from e); subst e; rfl)
  | v => exact Option.some.inj e
  | h => cases e
  | scr => have e := Option.some.inj (show some false = some b from e); subst e; rfl
  | l _ _ => have e := Option.some.inj (show some false = some b from e); subst e; rfl
  | t _ _ => have e := Option.some.inj (show some false = some b from e); subst e; rfl
  | k _ _ _ => have e := Option.some.inj (show some false = some b from e); subst e; rfl
  | o _ _ _ => have e := Option.some.inj (show some false = some b from e); subst e; rfl
def fIsN (neg : Bool) : Env → List Op → R Op := fun ρ os => match os with
  | [o, .tm (.d .none)] => (match (look ρ o).bind nonT with
    | some b => .ok (.tm (.d (.bool (b != neg)))) ρ true
    | none => .bad)
  | _ => .bad
theorem opN_isN (neg : Bool) : OpN g (r2N fun x y H Q => y = .non ∧ Q (.bl (decide (x = .non) != neg)) H) (fIsN neg) := by
  intro W σ F H ρ fp fq os vs Q st op nd ho q
  unfold fIsN at q
  split at q
  · rename_i o
    split at q
    · rename_i b e
      obtain ⟨v, w, rfl, k1, k2⟩ := opnL2 st op
      obtain ⟨t, h1, h2⟩ := Option.bind_eq_some_iff.mp e
      obtain ⟨f, h3, _⟩ := k1 t h1
      obtain ⟨f', h4, _⟩ := k2 (.d .none) rfl
      have h4 := own_d_is h4
      cases h4
      refine ⟨rfl, ?_⟩
      rw [nonT_ok h3 h2]
      exact q.val st (fun a ha => List.mem_append_right _ ha) (.d (.bl _))
    · exact q.elim
  · exact q.elim
theorem op_isNX : OpR X (compareOp .Is) (fun x y H Q => y = .non ∧ Q (.bl (decide (x = .non) != false)) H) := fun ps s σ H x y v u Q I rx ry h => op_isN ps s σ H x y v u Q I rx ry ⟨h.1, by have := h.2; rwa [Bool.bne_false] at this⟩
theorem op_notNX : OpR X (compareOp .IsNot) (fun x y H Q => y = .non ∧ Q (.bl (decide (x = .non) != true)) H) := fun ps s σ H x y v u Q I rx ry h => op_notN ps s σ H x y v u Q I rx ry ⟨h.1, by have := h.2; rwa [Bool.bne_true] at this⟩
/-! ### in -/
def hIn (neg : Bool) : List PyData → Option PyData
  | [.str x, .str z] => if x.cps.size = 1 then some (.bool (decide (x.cps.getD 0 0 ∈ z.cps.toList) != neg)) else none
  | [d, .list ds] => if (SeqAt.shaped d && SeqAt.shaped (.list ds)) = true then some (.bool ((ds.any fun z => PyData.eqv z d) != neg)) else none
  | _ => none
def rInX (K : PySem.W.Frag) (neg : Bool) : R2 := fun x y H Q => (∃ (c : Nat) (z : Str), x = .str ⟨#[c]⟩ ∧ y = .str z ∧ Q (.bl (decide (c ∈ z.cps.toList) != neg)) H) ∨
  ∃ d ds, Dp K H x d ∧ Dp K H y (.list ds) ∧ SeqAt.shaped d = true ∧ SeqAt.shaped (.list ds) = true ∧ Q (.bl ((ds.any fun z => PyData.eqv z d) != neg)) H
theorem op_inX (hu : X.A.units + 65 < cLine) : OpR X (compareOp .In) (rInX X.K false) := fun ps s σ H x y v u Q I rx ry h => by
  rcases h with ⟨c, z, h1, h2, h3⟩ | ⟨d, ds, h1, h2, h3, h4, h5⟩
  · exact op_in_sign ps s σ H x y v u Q I rx ry ⟨c, z, h1, h2, by rwa [Bool.bne_false] at h3⟩
  · exact op_inD hu ps s σ H x y v u Q I rx ry ⟨d, ds, h1, h2, h3, h4, by rwa [Bool.bne_false] at h5⟩
theorem op_notInX (hu : X.A.units + 65 < cLine) : OpR X (compareOp .NotIn) (rInX X.K true) := fun ps s σ H x y v u Q I rx ry h => by
  rcases h with ⟨c, z, h1, h2, h3⟩ | ⟨d, ds, h1, h2, h3, h4, h5⟩
  · exact op_notIn_sign ps s σ H x y v u Q I rx ry ⟨c, z, h1, h2, by rwa [Bool.bne_true] at h3⟩
  · exact op_notInD hu ps s σ H x y v u Q I rx ry ⟨d, ds, h1, h2, h3, h4, by rwa [Bool.bne_true] at h5⟩
theorem one_sign {x : Str} (h : x.cps.size = 1) : x = ⟨#[x.cps.getD 0 0]⟩ := by
  obtain ⟨a⟩ := x
  obtain ⟨l⟩ := a
  match l, h with
  | [c], _ => rfl
theorem opN_in (neg : Bool) : OpN g (r2N (rInX g.K neg)) (fD (hIn neg)) := opN_2 (fun H x y a b c Q i1 i2 e q => by
  unfold hIn at e
  split at e
  · rename_i z w e1
    cases e1
    split at e
    · rename_i hs
      cases e
      cases i1
      cases i2
      exact .inl ⟨_, w, congrArg V.str (one_sign hs), rfl, q _ fun F => .bl _⟩
    · cases e
  · rename_i d ds e1
    cases e1
    split at e
    · rename_i hs
      rw [Bool.and_eq_true] at hs
      cases e
      exact .inr ⟨_, ds, is_shaped i1 hs.1, is_shaped i2 hs.2, hs.1, hs.2, q _ fun F => .bl _⟩
    · cases e
  · cases e) fun l c e => by
  unfold hIn at e
  split at e
  · rfl
  · rfl
  · cases e
/-! ### the comparisons as expressions and as tests -/
variable (hu : X.A.units + 100 < cLine)
theorem opr_K {f : Value → Value → Sem Value} {r : PySem.W.Frag → R2} (h : OpR X f (r X.K)) (hK : X.K = g.K) : OpR X f (r g.K) := hK ▸ h
include hu in
theorem de_eq (ha : DE X g a m) (hb : DE X g b n) (hK : X.K = g.K := by rfl) (hm : behindInMarks .Eq b = false := by first | exact nomark _ | with_unfolding_all rfl) : DE X g (.Compare a [.Eq] [b] pos) (m2 (fD hEq) m n) := de_cmp (opr_K (r := rEqX) (opr_or op_eq (op_eqD (by omega))) hK) opN_eq ha hb hm
include hu in
theorem de_ne (ha : DE X g a m) (hb : DE X g b n) (hK : X.K = g.K := by rfl) (hm : behindInMarks .NotEq b = false := by first | exact nomark _ | with_unfolding_all rfl) : DE X g (.Compare a [.NotEq] [b] pos) (m2 (fD hNe) m n) := de_cmp (opr_K (r := rNeX) (opr_or op_ne (op_neD (by omega))) hK) opN_ne ha hb hm
include hu in
theorem de_in (ha : DE X g a m) (hb : DE X g b n) (hK : X.K = g.K := by rfl) (hm : behindInMarks .In b = false := by first | exact nomark _ | with_unfolding_all rfl) : DE X g (.Compare a [.In] [b] pos) (m2 (fD (hIn false)) m n) := de_cmp (opr_K (r := fun K => rInX K false) (op_inX (by omega)) hK) (opN_in false) ha hb hm
include hu in
theorem de_notin (ha : DE X g a m) (hb : DE X g b n) (hK : X.K = g.K := by rfl) (hm : behindInMarks .NotIn b = false := by first | exact nomark _ | with_unfolding_all rfl) : DE X g (.Compare a [.NotIn] [b] pos) (m2 (fD (hIn true)) m n) := de_cmp (opr_K (r := fun K => rInX K true) (op_notInX (by omega)) hK) (opN_in true) ha hb hm
theorem de_lt (ha : DE X g a m) (hb : DE X g b n) : DE X g (.Compare a [.Lt] [b] pos) (m2 (fD hLt) m n) := de_cmp op_ltX opN_cmp ha hb
theorem de_le (ha : DE X g a m) (hb : DE X g b n) : DE X g (.Compare a [.LtE] [b] pos) (m2 (fD hLe) m n) := de_cmp op_leX opN_cmp ha hb
theorem de_gt (ha : DE X g a m) (hb : DE X g b n) : DE X g (.Compare a [.Gt] [b] pos) (m2 (fD hGt) m n) := de_cmp op_gtX opN_cmp ha hb
theorem de_ge (ha : DE X g a m) (hb : DE X g b n) : DE X g (.Compare a [.GtE] [b] pos) (m2 (fD hGe) m n) := de_cmp op_geX opN_cmp ha hb
theorem de_isN (ha : DE X g a m) (hb : DE X g b n) (hm : behindInMarks .Is b = false := by first | exact nomark _ | with_unfolding_all rfl) : DE X g (.Compare a [.Is] [b] pos) (m2 (fIsN false) m n) := de_cmp op_isNX (opN_isN false) ha hb hm
theorem de_notN (ha : DE X g a m) (hb : DE X g b n) (hm : behindInMarks .IsNot b = false := by first | exact nomark _ | with_unfolding_all rfl) : DE X g (.Compare a [.IsNot] [b] pos) (m2 (fIsN true) m n) := de_cmp op_notNX (opN_isN true) ha hb hm
include hu in
theorem dt_eq (ha : DE X g a m) (hb : DE X g b n) (hK : X.K = g.K := by rfl) (hm : behindInMarks .Eq b = false := by first | exact nomark _ | with_unfolding_all rfl) : DT X g (.Compare a [.Eq] [b] pos) (mTb (m2 (fD hEq) m n)) := dt_cmp (opr_K (r := rEqX) (opr_or op_eq (op_eqD (by omega))) hK) opN_eq ha hb hm
include hu in
theorem dt_ne (ha : DE X g a m) (hb : DE X g b n) (hK : X.K = g.K := by rfl) (hm : behindInMarks .NotEq b = false := by first | exact nomark _ | with_unfolding_all rfl) : DT X g (.Compare a [.NotEq] [b] pos) (mTb (m2 (fD hNe) m n)) := dt_cmp (opr_K (r := rNeX) (opr_or op_ne (op_neD (by omega))) hK) opN_ne ha hb hm
include hu in
theorem dt_in (ha : DE X g a m) (hb : DE X g b n) (hK : X.K = g.K := by rfl) (hm : behindInMarks .In b = false := by first | exact nomark _ | with_unfolding_all rfl) : DT X g (.Compare a [.In] [b] pos) (mTb (m2 (fD (hIn false)) m n)) := dt_cmp (opr_K (r := fun K => rInX K false) (op_inX (by omega)) hK) (opN_in false) ha hb hm
include hu in
theorem dt_notin (ha : DE X g a m) (hb : DE X g b n) (hK : X.K = g.K := by rfl) (hm : behindInMarks .NotIn b = false := by first | exact nomark _ | with_unfolding_all rfl) : DT X g (.Compare a [.NotIn] [b] pos) (mTb (m2 (fD (hIn true)) m n)) := dt_cmp (opr_K (r := fun K => rInX K true) (op_notInX (by omega)) hK) (opN_in true) ha hb hm
theorem dt_lt (ha : DE X g a m) (hb : DE X g b n) : DT X g (.Compare a [.Lt] [b] pos) (mTb (m2 (fD hLt) m n)) := dt_cmp op_ltX opN_cmp ha hb
theorem dt_le (ha : DE X g a m) (hb : DE X g b n) : DT X g (.Compare a [.LtE] [b] pos) (mTb (m2 (fD hLe) m n)) := dt_cmp op_leX opN_cmp ha hb
theorem dt_gt (ha : DE X g a m) (hb : DE X g b n) : DT X g (.Compare a [.Gt] [b] pos) (mTb (m2 (fD hGt) m n)) := dt_cmp op_gtX opN_cmp ha hb
theorem dt_ge (ha : DE X g a m) (hb : DE X g b n) : DT X g (.Compare a [.GtE] [b] pos) (mTb (m2 (fD hGe) m n)) := dt_cmp op_geX opN_cmp ha hb
theorem dt_isN (ha : DE X g a m) (hb : DE X g b n) (hm : behindInMarks .Is b = false := by first | exact nomark _ | with_unfolding_all rfl) : DT X g (.Compare a [.Is] [b] pos) (mTb (m2 (fIsN false) m n)) := dt_cmp op_isNX (opN_isN false) ha hb hm
theorem dt_notN (ha : DE X g a m) (hb : DE X g b n) (hm : behindInMarks .IsNot b = false := by first | exact nomark _ | with_unfolding_all rfl) : DT X g (.Compare a [.IsNot] [b] pos) (mTb (m2 (fIsN true) m n)) := dt_cmp op_notNX (opN_isN true) ha hb hm
end
end
end MV
/-! MvN: chained comparisons, builtins by data. -/
namespace MV
open PySem L2
section
variable {g : G} {F F' F1 F2 H H' H1 H2 : Hp} {σ σ' : St} {ρ ρ1 : Env} {fp fq fs fp1 fp2 fq1 fq2 : List Addr} {W : WX} {X : Cx} {P : List Nat}
/-! ### a < b < c -/
def mCh (f f' : List PyData → Option PyData) (a b c : M) : M := fun ρ => match mCons a (mCons b mNil) ρ with
  | .ok os ρ1 p => (match vws ρ1 os with
    | some [x, y] => (match f [x, y] with
      | some (.bool true) => (match c ρ1 with
        | .ok o ρ2 q => (match vw ρ2 o with
          | some z => (match f' [y, z] with
            | some w => .ok (.tm (.d w)) ρ2 (p && q)
            | none => .bad)
          | none => .bad)
        | .exc c n d ρ' => .exc c n d ρ'
        | .bad => .bad)
      | some (.bool false) => .ok (.tm (.d (.bool false))) ρ1 p
      | _ => .bad)
    | _ => .bad)
  | .exc c n d ρ' => .exc c n d ρ'
  | .bad => .bad
theorem hCmp_some {f : Int → Int → Bool} {k : List Nat → List Nat → Bool} {x y w : PyData} (e : hCmp f k [x, y] = some w) : ∃ b, w = .bool b ∧ scalD y = true ∧ ∀ {v u : V} {H F : Hp} {Q : VK}, Is g.K F v x → Is g.K F u y → Q (.bl b) H → rCmp f k v u H Q := by
  unfold hCmp at e
  split at e
  · rename_i i j e1
    cases e1
    cases e
    refine ⟨_, rfl, rfl, fun i1 i2 q => ?_⟩
    cases i1
    cases i2
    exact .inl ⟨i, j, rfl, rfl, q⟩
  · rename_i i j e1
    cases e1
    cases e
    refine ⟨_, rfl, rfl, fun i1 i2 q => ?_⟩
    cases i1
    cases i2
    exact .inr ⟨i, j, rfl, rfl, q⟩
  · cases e
theorem is_scal {v : V} {x : PyData} (h : Is g.K F v x) (e : scalD x = true) : Is g.K F' v x := by
  cases h with
  | non => exact .non
  | bl => exact .bl _
  | int => exact .int _
  | str => exact .str _
  | lst _ _ => cases e
  | tup _ _ => cases e
  | dct _ _ => cases e
theorem eof_ch {f f' : Int → Int → Bool} {k k' : List Nat → List Nat → Bool} {a b c : M} {Q : VK} (h : EOf g W (mCh (hCmp f k) (hCmp f' k') a b c) σ H Q) :
    tChain (rCmp f k) (rCmp f' k') (EOf g W a) (EOf g W b) (EOf g W c) σ H Q := by
  refine eof_mono (aof_cons (Q := fun vs H2 => ∀ x y, vs = [x, y] → rCmp f k x y H2 fun z H3 => ∃ kk, z = .bl kk ∧ if kk = true then EOf g W c σ H3 (fun z' H4 => rCmp f' k' y z' H4 Q) else Q (.bl false) H3) ?_) fun x H1 h1 => aof1 h1 fun y H2 h2 => ?_
  · obtain ⟨F, ρ, fp, st, h⟩ := h
    refine ⟨F, ρ, fp, st, ?_⟩
    unfold mCh at h
    cases hm : mCons a (mCons b mNil) ρ with
    | bad => rw [hm] at h; exact h
    | exc c n d ρ' => rw [hm] at h; exact h
    | ok os ρ1 p =>
      rw [hm] at h
      intro vs F1 H1 fq fp1 s1 n1 o1 st1 op1 pu1 x y exy
      subst exy
      dsimp only at h
      have s1' := s1.wid (fq1 := fp1) (fun _ z => z) fun a ha => .inl (List.mem_append_right _ ha)
      split at h
      · rename_i dx dy e
        have is := op1.is st1 e
        cases is with
        | cons i1 is =>
          cases is with
          | cons i2 is =>
            split at h
            · rename_i e2
              obtain ⟨b, eb, sy, k1⟩ := hCmp_some (g := g) e2
              cases eb
              refine k1 i1 i2 ⟨true, rfl, ?_⟩
              rw [if_pos rfl]
              refine ⟨F1, ρ1, fp1, st1, ?_⟩
              cases hc : c ρ1 with
              | bad => rw [hc] at h; exact h
              | exc c n d ρ' =>
                rw [hc] at h
                exact fun d' F2 H2 fp2 s2 st2 ex => h d' F2 H2 fp2 (s1'.trans0 s2) st2 ex
              | ok o ρ2 q =>
                rw [hc] at h
                dsimp only at h
                intro w F2 H2 fq2 fp2 s2 n2 o2 st2 op2 pu2
                split at h
                · rename_i z ez
                  split at h
                  · rename_i w' e3
                    obtain ⟨b', eb', _, k2⟩ := hCmp_some (g := g) e3
                    cases eb'
                    refine k2 (is_scal i2 sy) (op2.is st2 ez) ?_
                    refine h (.bl b') F2 H2 [] fp2 (s1'.trans0 (s2.wid (fun _ z => z) fun a ha => .inl (List.mem_append_right _ ha))) st2.nd (fun _ z => nomatch z) st2 (.d (.bl _)) fun z => ?_
                    rw [Bool.and_eq_true] at z
                    exact (pu1 z.1).trans (pu2 z.2)
                  · exact h.elim
                · exact h.elim
            · rename_i e2
              obtain ⟨b, eb, sy, k1⟩ := hCmp_some (g := g) e2
              cases eb
              refine k1 i1 i2 ⟨false, rfl, ?_⟩
              rw [if_neg (by decide)]
              exact h (.bl false) F1 H1 [] fp1 s1' st1.nd (fun _ z => nomatch z) st1 (.d (.bl _)) pu1
            · exact h.elim
      · exact h.elim
  · have := h2 x y rfl
    exact this
section
variable {a b c : Expr} {ma mb mc : M} {pos : Pos}
def hOp : CmpOp → List PyData → Option PyData
  | .Lt => hLt
  | .LtE => hLe
  | .Gt => hGt
  | .GtE => hGe
  | _ => fun _ => none
theorem de_ch {op op' : CmpOp} {f f' : Int → Int → Bool} {k k' : List Nat → List Nat → Bool} (h1 : OpR X (compareOp op) (rCmp f k)) (h2 : OpR X (compareOp op') (rCmp f' k')) (ha : DE X g a ma) (hb : DE X g b mb) (hc : DE X g c mc)
    (hm : lastMarks [op, op'] [b, c] = false := by with_unfolding_all rfl) : DE X g (.Compare a [op, op'] [b, c] pos) (mCh (hCmp f k) (hCmp f' k') ma mb mc) := fun W tk => pe_imp (pe_chain h1 h2 (ha W tk) (hb W tk) (hc W tk) hm) fun _ _ _ q => eof_ch q
theorem dt_ch {op op' : CmpOp} {f f' : Int → Int → Bool} {k k' : List Nat → List Nat → Bool} (h1 : OpR X (compareOp op) (rCmp f k)) (h2 : OpR X (compareOp op') (rCmp f' k')) (ha : DE X g a ma) (hb : DE X g b mb) (hc : DE X g c mc)
    (hm : lastMarks [op, op'] [b, c] = false := by with_unfolding_all rfl) : DT X g (.Compare a [op, op'] [b, c] pos) (mTb (mCh (hCmp f k) (hCmp f' k') ma mb mc)) := fun W tk => pt_imp (pt_chain h1 h2 (ha W tk) (hb W tk) (hc W tk) hm) fun _ _ _ q => eof_ch (bof_tb q)
end
end
end MV
/-! MvO: builtins. -/
namespace MV
open PySem L2
section
variable {g : G} {F F' F1 F2 H H' H1 H2 : Hp} {σ σ' : St} {ρ ρ1 : Env} {fp fq fs fp1 fp2 fq1 fq2 : List Addr} {W : WX} {X : Cx} {P : List Nat}
/-! ### len -/
def lenT : T → Option Nat
  | .d (.list ds) => some ds.length
  | .d (.tuple ds) => some ds.length
  | .d (.dict ds) => some ds.length
  | .d (.str x) => if x.length ≤ sizeLine then some x.length else none
  | .l ts => some ts.length
  | .t ts => some ts.length
  | .k ks _ => some ks.length
  | .scr ns => some ns.length
  | _ => none
def fLen : Env → List Op → R Op := fun ρ os => match os with
  | [o] => (match (look ρ o).bind lenT with
    | some n => .ok (.tm (.d (.int (n : Nat)))) ρ true
    | none => .bad)
  | _ => .bad
def rLen (K : PySem.W.Frag) : List V → Hp → VK → Prop := fun xs H Q => (∃ x n, xs = [x] ∧ LenV K x H n ∧ Q (.int n) H) ∨ ∃ a kvs, xs = [V.ref a] ∧ H a = some (.dK kvs) ∧ Q (.int kvs.length) H
theorem isKv_length : ∀ {kvs : List (Key × V)} {ds : List (PyData × PyData)}, IsKv g.K F kvs ds → kvs.length = ds.length
  | _, _, .nil => rfl
  | _, _, .cons _ q => by simp [isKv_length q]
theorem opN_len : OpN g (rBN (rLen g.K)) fLen := by
  intro W σ F H ρ fp fq os vs Q st op nd ho q
  unfold fLen at q
  split at q
  · rename_i o
    split at q
    · rename_i n e
      obtain ⟨v, rfl, _, k1⟩ := opnL1 st op
      obtain ⟨t, h1, h2⟩ := Option.bind_eq_some_iff.mp e
      obtain ⟨f, h3, _⟩ := k1 t h1
      have fin : Q (.int (n : Nat)) H := q.val st (fun a ha => List.mem_append_right _ ha) (.d (.int _))
      show rLen g.K [v] H Q
      cases h3 with
      | d z =>
        cases z with
        | lst h q2 =>
          have e := Option.some.inj (show some _ = some n from h2)
          subst e
          exact .inl ⟨_, _, rfl, .inl ⟨_, SqL.of (st.le _ _ h), rfl⟩, by rw [q2.length]; exact fin⟩
        | tup h q2 =>
          have e := Option.some.inj (show some _ = some n from h2)
          subst e
          exact .inl ⟨_, _, rfl, .inr ⟨_, sqT_mono st.le h, rfl⟩, by rw [q2.length]; exact fin⟩
        | dct h q2 =>
          have e := Option.some.inj (show some _ = some n from h2)
          subst e
          exact .inr ⟨_, _, rfl, st.le _ _ h, by rw [isKv_length q2]; exact fin⟩
        | str x =>
          have e : (if x.length ≤ sizeLine then some x.length else none) = some n := h2
          split at e
          · rename_i hl
            cases e
            exact .inl ⟨_, _, rfl, ⟨hl, rfl⟩, fin⟩
          · cases e
        | _ => cases h2
      | @l a vs ts f h q2 =>
        have e := Option.some.inj (show some _ = some n from h2)
        subst e
        exact .inl ⟨_, _, rfl, .inl ⟨_, SqL.of h, rfl⟩, by rw [q2.length]; exact fin⟩
      | @t a vs ts f h q2 =>
        have e := Option.some.inj (show some _ = some n from h2)
        subst e
        exact .inl ⟨_, _, rfl, .inr ⟨_, SqT.of h, rfl⟩, by rw [q2.length]; exact fin⟩
      | @k a kvs ks ts f h z q2 =>
        have e := Option.some.inj (show some _ = some n from h2)
        subst e
        exact .inr ⟨_, _, rfl, h, by rw [← z, List.length_map] at fin; exact fin⟩
      | @scr a ns h =>
        have e := Option.some.inj (show some _ = some n from h2)
        subst e
        exact .inl ⟨_, _, rfl, .inl ⟨_, sqL_mono st.le h, rfl⟩, by rw [List.length_map]; exact fin⟩
      | v => cases h2
      | h => cases h2
      | o _ _ _ => cases h2
    · exact q.elim
  · exact q.elim
theorem call_lenX : CallR X (.builtin "len") (rLen X.K) := callr_or call_len call_lenD
/-! ### of ints -/
def hAbs : List PyData → Option PyData
  | [.int i] => some (.int (if i < 0 then -i else i))
  | _ => none
theorem opN_abs : OpN g (rBN fun xs H Q => ∃ i, xs = [.int i] ∧ Q (.int (if i < 0 then -i else i)) H) (fD hAbs) := opB_1 (fun H x a c Q i1 e q => by
  unfold hAbs at e
  split at e
  · rename_i i e1
    cases e1
    cases e
    cases i1
    exact ⟨i, rfl, q _ fun F => .int _⟩
  · cases e) fun l c e => by
  unfold hAbs at e
  split at e
  · rfl
  · cases e
def h2F (f : Int → Int → Int) : List PyData → Option PyData
  | [.int i, .int j] => some (.int (f i j))
  | _ => none
theorem opN_2F {f : Int → Int → Int} : OpN g (rBN fun xs H Q => ∃ i j, xs = [.int i, .int j] ∧ Q (.int (f i j)) H) (fD (h2F f)) := opB_2 (fun H x y a b c Q i1 i2 e q => by
  unfold h2F at e
  split at e
  · rename_i i j e1
    cases e1
    cases e
    cases i1
    cases i2
    exact ⟨i, j, rfl, q _ fun F => .int _⟩
  · cases e) fun l c e => by
  unfold h2F at e
  split at e
  · rfl
  · cases e
def hMax2 := h2F fun i j => if j > i then j else i
def hMin2 := h2F fun i j => if j < i then j else i
/-! ### of lists of bools, of ints -/
def blsD : List PyData → Option (List Bool)
  | [] => some []
  | .bool b :: ds => (blsD ds).map (b :: ·)
  | _ => none
def intsD : List PyData → Option (List Int)
  | [] => some []
  | .int i :: ds => (intsD ds).map (i :: ·)
  | _ => none
def strsD : List PyData → Option (List Str)
  | [] => some []
  | .str i :: ds => (strsD ds).map (i :: ·)
  | _ => none
theorem blsD_ok : ∀ {ds : List PyData} {vs : List V} {bs : List Bool}, IsAll g.K F vs ds → blsD ds = some bs → vs = bs.map V.bl
  | [], _, bs, .nil, e => by
    have e := Option.some.inj (show some [] = some bs from e)
    subst e
    rfl
  | .bool b :: ds, _, bs, .cons h q, e => by
    obtain ⟨y, h1, h2⟩ := Option.map_eq_some_iff.mp (show (blsD ds).map (b :: ·) = some bs from e)
    subst h2
    cases h
    rw [blsD_ok q h1]
    rfl
  | .none :: _, _, _, _, e => by cases e
  | .int _ :: _, _, _, _, e => by cases e
  | .str _ :: _, _, _, _, e => by cases e
  | .list _ :: _, _, _, _, e => by cases e
  | .tuple _ :: _, _, _, _, e => by cases e
  | .dict _ :: _, _, _, _, e => by cases e
theorem intsD_ok : ∀ {ds : List PyData} {vs : List V} {bs : List Int}, IsAll g.K F vs ds → intsD ds = some bs → vs = bs.map V.int
  | [], _, bs, .nil, e => by
    have e := Option.some.inj (show some [] = some bs from e)
    subst e
    rfl
  | .int b :: ds, _, bs, .cons h q, e => by
    obtain ⟨y, h1, h2⟩ := Option.map_eq_some_iff.mp (show (intsD ds).map (b :: ·) = some bs from e)
    subst h2
    cases h
    rw [intsD_ok q h1]
    rfl
  | .none :: _, _, _, _, e => by cases e
  | .bool _ :: _, _, _, _, e => by cases e
  | .str _ :: _, _, _, _, e => by cases e
  | .list _ :: _, _, _, _, e => by cases e
  | .tuple _ :: _, _, _, _, e => by cases e
  | .dict _ :: _, _, _, _, e => by cases e
theorem strsD_ok : ∀ {ds : List PyData} {vs : List V} {bs : List Str}, IsAll g.K F vs ds → strsD ds = some bs → vs = bs.map V.str
  | [], _, bs, .nil, e => by
    have e := Option.some.inj (show some [] = some bs from e)
    subst e
    rfl
  | .str b :: ds, _, bs, .cons h q, e => by
    obtain ⟨y, h1, h2⟩ := Option.map_eq_some_iff.mp (show (strsD ds).map (b :: ·) = some bs from e)
    subst h2
    cases h
    rw [strsD_ok q h1]
    rfl
  | .none :: _, _, _, _, e => by cases e
  | .bool _ :: _, _, _, _, e => by cases e
  | .int _ :: _, _, _, _, e => by cases e
  | .list _ :: _, _, _, _, e => by cases e
  | .tuple _ :: _, _, _, _, e => by cases e
  | .dict _ :: _, _, _, _, e => by cases e
def hBls (f : List Bool → Bool) : List PyData → Option PyData
  | [.list ds] => (blsD ds).map fun bs => .bool (f bs)
  | _ => none
def hInts (f : List Int → Option Int) : List PyData → Option PyData
  | [.list ds] => ((intsD ds).bind f).map PyData.int
  | _ => none
theorem opN_bls {f : List Bool → Bool} : OpN g (rBN fun vs H Q => ∃ (a : Addr) (bs : List Bool), vs = [V.ref a] ∧ SqL g.K H a (bs.map V.bl) ∧ Q (.bl (f bs)) H) (fD (hBls f)) := opB_1 (fun H x a c Q i1 e q => by
  unfold hBls at e
  split at e
  · rename_i ds e1
    cases e1
    obtain ⟨bs, h1, rfl⟩ := Option.map_eq_some_iff.mp e
    cases i1 with
    | lst h q2 =>
      rw [blsD_ok q2 h1] at h
      exact ⟨_, bs, rfl, SqL.of h, q _ fun F => .bl _⟩
  · cases e) fun l c e => by
  unfold hBls at e
  split at e
  · rfl
  · cases e
theorem opN_ints {f : List Int → Option Int} {r : List V → Hp → VK → Prop} (k : ∀ a ns m H (Q : VK), SqL g.K H a (ns.map V.int) → f ns = some m → Q (.int m) H → r [V.ref a] H Q) : OpN g (rBN r) (fD (hInts f)) := opB_1 (fun H x a c Q i1 e q => by
  unfold hInts at e
  split at e
  · rename_i ds e1
    cases e1
    obtain ⟨m, h0, rfl⟩ := Option.map_eq_some_iff.mp e
    obtain ⟨ns, h1, h2⟩ := Option.bind_eq_some_iff.mp h0
    cases i1 with
    | lst h q2 =>
      rw [intsD_ok q2 h1] at h
      exact k _ ns m H Q (SqL.of h) h2 (q _ fun F => .int _)
  · cases e) fun l c e => by
  unfold hInts at e
  split at e
  · rfl
  · cases e
theorem opN_sum : OpN g (rBN (rSum g.K)) (fD (hInts fun ns => some ns.sum)) := opN_ints fun a ns m H Q h e q => by
  cases e
  exact ⟨a, ns, rfl, h, q⟩
theorem opN_maxL : OpN g (rBN (rMax g.K)) (fD (hInts List.max?)) := opN_ints fun a ns m H Q h e q => by
  have hm := List.max?_eq_some_iff.mp e
  refine ⟨a, ns, rfl, h, List.length_pos_of_mem hm.1, fun m' h1 h2 => ?_⟩
  have h3 := h2 m hm.1
  have h4 := hm.2 m' h1
  have : m' = m := by omega
  rw [this]; exact q
theorem opN_minL : OpN g (rBN (rMin g.K)) (fD (hInts List.min?)) := opN_ints fun a ns m H Q h e q => by
  have hm := List.min?_eq_some_iff.mp e
  refine ⟨a, ns, rfl, h, List.length_pos_of_mem hm.1, fun m' h1 h2 => ?_⟩
  have h3 := h2 m hm.1
  have h4 := hm.2 m' h1
  have : m' = m := by omega
  rw [this]; exact q
def hInt1 : List PyData → Option PyData
  | [.int i] => some (.int i)
  | [.bool b] => some (.int (if b = true then 1 else 0))
  | _ => none
theorem opN_int1 : OpN g (rBN fun xs H Q => (∃ i, xs = [.int i] ∧ Q (.int i) H) ∨ ∃ k, xs = [.bl k] ∧ Q (.int (if k then 1 else 0)) H) (fD hInt1) := opB_1 (fun H x a c Q i1 e q => by
  unfold hInt1 at e
  split at e
  · rename_i i e1
    cases e1
    cases e
    cases i1
    exact .inl ⟨i, rfl, q _ fun F => .int _⟩
  · rename_i i e1
    cases e1
    cases e
    cases i1
    exact .inr ⟨i, rfl, q _ fun F => .int _⟩
  · cases e) fun l c e => by
  unfold hInt1 at e
  split at e
  · rfl
  · rfl
  · cases e
/-! ### repr -/
def hRepr : List PyData → Option PyData
  | [d] => if d.showable = true ∧ d.shown.length ≤ sizeLine ∧ d.depth ≤ 64 then some (.str d.shown) else none
  | _ => none
theorem opN_repr : OpN g (rBN (rRepr g.K)) (fD hRepr) := opB_1 (fun H x a c Q i1 e q => by
  unfold hRepr at e
  dsimp only at e
  split at e
  · rename_i hc
    cases e
    exact ⟨x, a, rfl, i1, hc.1, hc.2.1, hc.2.2, q _ fun F => .str _⟩
  · cases e) fun l c e => by
  unfold hRepr at e
  split at e
  · rfl
  · cases e
/-! ### isinstance -/
def tyD : PyData → String
  | .none => "NoneType"
  | .bool _ => "bool"
  | .int _ => "int"
  | .str _ => "str"
  | .list _ => "list"
  | .tuple _ => "tuple"
  | .dict _ => "dict"
def subT (t u : String) : Bool := t == u || (t == "bool" && u == "int")
def tys : List String := ["NoneType", "bool", "int", "str", "list", "tuple", "dict"]
def KitTy (K : PySem.W.Frag) : Prop := ∀ t ∈ tys, ∀ u ∈ tys, PySem.W.kitOne K (.type t) (.type u) = some (subT t u)
theorem tyD_mem (d : PyData) : tyD d ∈ tys := by cases d <;> simp [tyD, tys]
theorem is_tyX {d : PyData} {v : V} (h : Is g.K H v d) : TyX g.K H v (.type (tyD d)) := by
  cases h with
  | non => exact .base .non
  | bl b => exact .base (.bl b)
  | int i => exact .base (.int i)
  | str x => exact .base (.str x)
  | lst h _ => exact .base (.lst h)
  | tup h _ =>
    rcases h with (h | ⟨o, h⟩) | ⟨o, its, n, h1, h2, _⟩
    · exact .base (.tup h)
    · exact .fTuple h
    · exact .kTuple h1 h2
  | dct h _ => exact .base (.dK h)
def tyT : T → Option String
  | .d x => some (tyD x)
  | .l _ => some "list"
  | .t _ => some "tuple"
  | .k _ _ => some "dict"
  | _ => none
theorem tyT_ok {t : T} {v : V} {f : List Addr} {n : String} (le : Le F H) (o : Own g F H v t f) (e : tyT t = some n) : n ∈ tys ∧ TyX g.K H v (.type n) := by
  cases o with
  | d h =>
    have e := Option.some.inj (show some _ = some n from e)
    subst e
    exact ⟨tyD_mem _, is_tyX (h.mono le)⟩
  | l h q =>
    have e := Option.some.inj (show some _ = some n from e)
    subst e
    exact ⟨by simp [tys], .base (.lst h)⟩
  | t h q =>
    have e := Option.some.inj (show some _ = some n from e)
    subst e
    exact ⟨by simp [tys], .base (.tup h)⟩
  | k h z q =>
    have e := Option.some.inj (show some _ = some n from e)
    subst e
    exact ⟨by simp [tys], .base (.dK h)⟩
  | v => cases e
  | h => cases e
  | scr => cases e
  | o _ _ _ => cases e
def tyNs : List T → Option (List String)
  | [] => some []
  | .v (.ty n) :: ts => if n ∈ tys then (tyNs ts).map (n :: ·) else none
  | _ => none
theorem tyNs_ok : ∀ {ts : List T} {vs : List V} {f : List Addr} {ns : List String}, OwnL g F H vs ts f → tyNs ts = some ns → vs = ns.map V.ty ∧ ∀ n ∈ ns, n ∈ tys
  | [], _, _, ns, .nil, e => by
    have e := Option.some.inj (show some [] = some ns from e)
    subst e
    exact ⟨rfl, fun _ z => nomatch z⟩
  | .v (.ty n) :: ts, _, _, ns, .cons h q, e => by
    unfold tyNs at e
    split at e
    · rename_i hn
      obtain ⟨y, h1, h2⟩ := Option.map_eq_some_iff.mp e
      subst h2
      cases h
      obtain ⟨h3, h4⟩ := tyNs_ok q h1
      rw [h3]
      exact ⟨rfl, fun m hm => (List.mem_cons.mp hm).elim (fun z => z ▸ hn) (h4 m)⟩
    · cases e
theorem kitAny_of {K : PySem.W.Frag} (k : KitTy K) {t : String} (ht : t ∈ tys) : ∀ {ns : List String}, (∀ n ∈ ns, n ∈ tys) → PySem.W.kitAny K (.type t) (ns.map Value.type) = some (ns.any (subT t))
  | [], _ => rfl
  | n :: ns, h => by
    have h1 := k t ht n (h n (List.mem_cons_self ..))
    show (match PySem.W.kitOne K (.type t) (.type n) with | some true => some true | some false => PySem.W.kitAny K (.type t) (ns.map Value.type) | none => none) = _
    rw [h1]
    cases hb : subT t n with
    | true => simp [hb]
    | false =>
      dsimp only
      rw [kitAny_of k ht fun m hm => h m (List.mem_cons_of_mem _ hm)]
      simp [hb]
def fIsi : Env → List Op → R Op := fun ρ os => match os with
  | [o, .tm (.v (.ty n))] => (match (look ρ o).bind tyT with
    | some t => if n ∈ tys then .ok (.tm (.d (.bool (subT t n)))) ρ true else .bad
    | none => .bad)
  | [o, .tm (.t cs)] => (match (look ρ o).bind tyT, tyNs cs with
    | some t, some ns => .ok (.tm (.d (.bool (ns.any (subT t))))) ρ true
    | _, _ => .bad)
  | _ => .bad
theorem clsAll : ∀ ns : List String, Paired ClsV (ns.map V.ty) (ns.map Value.type)
  | [] => .nil
  | n :: ns => .cons (.ty n) (clsAll ns)
theorem opN_isi (kt : KitTy g.K) : OpN g (rBN fun xs H Q => rIsi g.K xs H Q ∨ rIsiT g.K xs H Q) fIsi := by
  intro W σ F H ρ fp fq os vs Q st op nd ho q
  unfold fIsi at q
  split at q
  · rename_i o n
    split at q
    · rename_i t e
      split at q
      · rename_i hn
        obtain ⟨v, w, rfl, k1, k2⟩ := opnL2 st op
        obtain ⟨t', h1, h2⟩ := Option.bind_eq_some_iff.mp e
        obtain ⟨f, h3, _⟩ := k1 t' h1
        obtain ⟨f', h4, _⟩ := k2 (.v (.ty n)) rfl
        obtain ⟨ht, hx⟩ := tyT_ok st.le h3 h2
        cases h4
        exact .inl ⟨v, _, _, _, _, rfl, .ty n, hx, kt t ht n hn, q.val st (fun a ha => List.mem_append_right _ ha) (.d (.bl _))⟩
      · exact q.elim
    · exact q.elim
  · rename_i o cs
    split at q
    · rename_i t ns e e2
      obtain ⟨v, w, rfl, k1, k2⟩ := opnL2 st op
      obtain ⟨t', h1, h2⟩ := Option.bind_eq_some_iff.mp e
      obtain ⟨f, h3, _⟩ := k1 t' h1
      obtain ⟨f', h4, _⟩ := k2 (.t cs) rfl
      obtain ⟨ht, hx⟩ := tyT_ok st.le h3 h2
      cases h4 with
      | t h q2 =>
        obtain ⟨h5, h6⟩ := tyNs_ok q2 e2
        rw [h5] at h
        exact .inr ⟨v, _, _, _, _, _, rfl, h, clsAll ns, hx, kitAny_of kt ht h6, q.val st (fun a ha => List.mem_append_right _ ha) (.d (.bl _))⟩
    · exact q.elim
  · exact q.elim
end
end MV
/-! MvP: subscripts, slices, products, new containers, methods, stores into lists. -/
namespace MV
open PySem L2
section
variable {g : G} {F F' F1 F2 H H' H1 H2 : Hp} {σ σ' : St} {ρ ρ1 : Env} {fp fq fs fp1 fp2 fq1 fq2 : List Addr} {W : WX} {X : Cx} {P : List Nat}
/-- a built-in type as a value -/
theorem de_ty {x : Str} {n : String} {pos : Pos} (hm : X.mg x = none) (hv : bootBuiltins x = some (.type n)) (hg : Gl X x := by rfl) (hn : x ≠ "__name__" := by decide) (hd : (x == ("__debug__" : Str)) = false := by decide) : DE X g (.Name x pos) (mV (.ty n)) :=
  de_c (pe_bltn hg hm hv (show RelV (.ty n) (.type n) from rfl) hn hd) fun _ _ => .v
/-! ### x[i] -/
theorem atI_is {xs : List V} {ds : List PyData} {i : Int} {d : PyData} (q : IsAll g.K F xs ds) (e : atI ds i = some d) : ∃ v, atI xs i = some v ∧ Is g.K F v d := by
  unfold atI at e ⊢
  rw [q.length]
  obtain ⟨j, h1, h2⟩ := Option.bind_eq_some_iff.mp e
  obtain ⟨u, h3, h4⟩ := q.get h2
  exact ⟨u, by rw [h1]; exact h3, h4⟩
/-- the item of an owned list or tuple at a place -/
def itemAt (ρ : Env) (o : Op) (ts : List T) (i : Int) : R Op := match ixN ts.length i with
  | some j => (match ts[j]?, o with
    | some (.d x), _ => .ok (.tm (.d x)) ρ true
    | some (.v x), _ => .ok (.tm (.v x)) ρ true
    | some _, .pl s p => .ok (.pl s (p ++ [.ix j])) ρ true
    | _, _ => .bad)
  | none => .bad
def fIx : Env → List Op → R Op := fun ρ os => match os with
  | [o, .tm (.d (.int i))] => (match look ρ o with
    | some (.d (.list ds)) => (match atI ds i with
      | some x => .ok (.tm (.d x)) ρ true
      | none => .bad)
    | some (.d (.tuple ds)) => (match atI ds i with
      | some x => .ok (.tm (.d x)) ρ true
      | none => .bad)
    | some (.d (.str z)) => if z.length ≤ sizeLine then (match atI z.cps.toList i with
      | some c => .ok (.tm (.d (.str ⟨#[c]⟩))) ρ true
      | none => .bad) else .bad
    | some (.scr ns) => (match atI ns i with
      | some n => .ok (.tm (.d (.int n))) ρ true
      | none => .bad)
    | some (.l ts) => itemAt ρ o ts i
    | some (.t ts) => itemAt ρ o ts i
    | _ => .bad)
  | _ => .bad
theorem way_snoc {s : Sel} : ∀ {v0 : V} {p : List Sel} {as : List Addr} {v w : V} {a : Addr}, Way H v0 p as v → Way H v [s] [a] w → Way H v0 (p ++ [s]) (as ++ [a]) w
  | _, _, _, _, _, _, .nil, w => w
  | _, _, _, _, _, _, .lst h e q, w => .lst h e (way_snoc q w)
  | _, _, _, _, _, _, .tup h e q, w => .tup h e (way_snoc q w)
  | _, _, _, _, _, _, .key h e q, w => .key h e (way_snoc q w)
  | _, _, _, _, _, _, .fld h e q, w => .fld h e (way_snoc q w)
theorem itemAt_ok {o : Op} {v x : V} {ts : List T} {i : Int} {j : Nat} {f : List Addr} {Q : VK} {a : Addr} (st : Sta g F H σ ρ fp) (op : Opn g F H σ fp o v fq) (hv : v = .ref a) (hj : ixN ts.length i = some j) (vs : List V) (q : OwnL g F H vs ts f) (hx : vs[j]? = some x)
    (wy : Way H v [.ix j] [a] x) (ha : a ∈ fq ++ fp) (h : Out g W σ F H (fq ++ fp) fp ρ (itemAt ρ o ts i) Q) : Q x H := by
  have sub : ∀ a ∈ fp, a ∈ fq ++ fp := fun a ha => List.mem_append_right _ ha
  unfold itemAt at h
  rw [hj] at h
  dsimp only at h
  split at h
  · rename_i y e
    obtain ⟨u, f', h1, h2, _⟩ := q.get e
    rw [hx] at h1
    cases h1
    exact h.val st sub (.d (own_d_is h2))
  · rename_i y e
    obtain ⟨u, f', h1, h2, _⟩ := q.get e
    rw [hx] at h1
    cases h1
    cases h2
    exact h.val st sub .v
  · rename_i t s p _ _ e
    obtain ⟨rfl, v0, as, h1, h2, h3⟩ := op
    refine h x F H [] fp (Stp.refl (by simpa using sub)) (by simpa using st.nd) (fun _ z => nomatch z) st ⟨rfl, v0, as ++ [a], h1, way_snoc h2 wy, fun b hb => ?_⟩ fun _ => pure_refl
    rcases List.mem_append.mp hb with hb | hb
    · exact h3 b hb
    · have e : b = a := by simpa using hb
      rw [e]
      simpa using ha
  · exact h.elim
theorem opN_ix : OpN g (r2N (rIx g.K)) fIx := by
  intro W σ F H ρ fp fq os vs Q st op nd ho q
  unfold fIx at q
  split at q
  · rename_i o i
    obtain ⟨v, w, rfl, k1, k2⟩ := opnL2 st op
    have sub : ∀ a ∈ fp, a ∈ fq ++ fp := fun a ha => List.mem_append_right _ ha
    obtain ⟨f', h4, _⟩ := k2 (.d (.int i)) rfl
    have h4 := own_d_is h4
    cases h4
    show rIx g.K v (.int i) H Q
    have opv : Opn g F H σ fp o v fq := by
      cases op with
      | @cons _ _ _ _ f0 fr h q2 =>
        cases q2 with
        | @cons _ _ _ _ f1 fr2 h2 q3 =>
          cases q3
          have h2 : Own g F H _ (.d (.int i)) f1 := h2
          cases h2
          simpa using h
    split at q
    · rename_i ds e
      obtain ⟨f, h3, _⟩ := k1 _ e
      have h3 := own_d_is h3
      split at q
      · rename_i x ex
        cases h3 with
        | lst h q2 =>
          obtain ⟨u, h5, h6⟩ := atI_is q2 ex
          exact .inl ⟨_, _, i, u, rfl, rfl, SqL.of (st.le _ _ h), h5, q.val st sub (.d h6)⟩
      · exact q.elim
    · rename_i ds e
      obtain ⟨f, h3, _⟩ := k1 _ e
      have h3 := own_d_is h3
      split at q
      · rename_i x ex
        cases h3 with
        | tup h q2 =>
          obtain ⟨u, h5, h6⟩ := atI_is q2 ex
          exact .inr (.inl ⟨_, _, i, u, rfl, rfl, sqT_mono st.le h, h5, q.val st sub (.d h6)⟩)
      · exact q.elim
    · rename_i z e
      obtain ⟨f, h3, _⟩ := k1 _ e
      have h3 := own_d_is h3
      split at q
      · rename_i hz
        split at q
        · rename_i c ex
          cases h3
          exact .inr (.inr ⟨z, i, c, rfl, rfl, hz, ex, q.val st sub (.d (.str _))⟩)
        · exact q.elim
      · exact q.elim
    · rename_i ns e
      obtain ⟨f, h3, _⟩ := k1 _ e
      split at q
      · rename_i n ex
        cases h3 with
        | scr h =>
          refine .inl ⟨_, _, i, .int n, rfl, rfl, sqL_mono st.le h, ?_, q.val st sub (.d (.int _))⟩
          unfold atI at ex ⊢
          rw [List.length_map]
          obtain ⟨j, h1, h2⟩ := Option.bind_eq_some_iff.mp ex
          rw [h1]
          show (ns.map V.int)[j]? = _
          rw [List.getElem?_map, h2]
          rfl
      · exact q.elim
    · rename_i ts e
      obtain ⟨f, h3, hs⟩ := k1 _ e
      cases hj : ixN ts.length i with
      | none =>
        unfold itemAt at q
        rw [hj] at q
        exact q.elim
      | some j =>
      cases h3 with
      | @l a us ts fp' h q2 =>
        have hlt := (ixN_seq hj).2.1
        obtain ⟨x, hx⟩ : ∃ x, us[j]? = some x := ⟨us[j]'(by rw [q2.length]; exact hlt), by simp⟩
        refine .inl ⟨a, us, i, x, rfl, rfl, SqL.of h, ?_, ?_⟩
        · unfold atI
          rw [q2.length, hj]
          exact hx
        · exact itemAt_ok st opv rfl hj us q2 hx (.lst h hx .nil) (hs a (List.mem_cons_self ..)) q
    · rename_i ts e
      obtain ⟨f, h3, hs⟩ := k1 _ e
      cases hj : ixN ts.length i with
      | none =>
        unfold itemAt at q
        rw [hj] at q
        exact q.elim
      | some j =>
      cases h3 with
      | @t a us ts fp' h q2 =>
        have hlt := (ixN_seq hj).2.1
        obtain ⟨x, hx⟩ : ∃ x, us[j]? = some x := ⟨us[j]'(by rw [q2.length]; exact hlt), by simp⟩
        refine .inr (.inl ⟨a, us, i, x, rfl, rfl, SqT.of h, ?_, ?_⟩)
        · unfold atI
          rw [q2.length, hj]
          exact hx
        · exact itemAt_ok st opv rfl hj us q2 hx (.tup h hx .nil) (hs a (List.mem_cons_self ..)) q
    · exact q.elim
  · exact q.elim
/-- an index that is an int, out of its place -/
def mI (m : M) : M := m
theorem de_sub_ix {a b : Expr} {m n : M} {pos : Pos} (ha : DE X g a m) (hb : DE X g b n) (hK : X.K = g.K := by rfl) (hs : PlainIx b := by exact fun _ _ => rfl) : DE X g (.Subscript a b pos) (m2 fIx m (mSh true n)) := de_ix (r := rIx g.K) (hK ▸ ix_seq) opN_ix ha (de_sh true hb) hs
end
end MV
/-! MvQ: slices, products, new containers, methods, stores into lists. -/
namespace MV
open PySem L2
section
variable {g : G} {F F' F1 F2 H H' H1 H2 : Hp} {σ σ' : St} {ρ ρ1 : Env} {fp fq fs fp1 fp2 fq1 fq2 : List Addr} {W : WX} {X : Cx} {P : List Nat}
theorem sub_r {fq fp : List Addr} : ∀ a ∈ fp, a ∈ fq ++ fp := fun a ha => List.mem_append_right _ ha
/-! ### slices -/
def cutD (ds : List PyData) (lo hi : Option Int) : List PyData := (ds.drop (HT.sIx ds.length 0 lo)).take (HT.sIx ds.length ds.length hi - HT.sIx ds.length 0 lo)
theorem cut_is {xs : List V} {ds : List PyData} {lo hi : Option Int} (q : IsAll g.K F xs ds) : IsAll g.K F (cutV xs lo hi) (cutD ds lo hi) := by
  unfold cutV cutD
  rw [q.length]
  exact (q.drop _).take _
def fSl1 (ρ : Env) (o : Op) (lo hi : Option Int) : R Op := match look ρ o with
  | some (.d (.str z)) => if z.length ≤ sizeLine then .ok (.tm (.d (.str (cutS z lo hi)))) ρ true else .bad
  | some (.d (.tuple ds)) => if HT.sIx ds.length 0 lo = 0 ∧ HT.sIx ds.length ds.length hi = ds.length then .bad else .ok (.tm (.d (.tuple (cutD ds lo hi)))) ρ true
  | some t => (match shL t with
    | some ds => .ok (.tm (.l ((cutD ds lo hi).map T.d))) ρ true
    | none => .bad)
  | none => .bad
def rSlX (K : PySem.W.Frag) : V → Option Int → Option Int → Hp → VK → Prop := fun x lo hi H Q => rSlL K x lo hi H Q ∨ (rSlT K x lo hi H Q ∨ rSlS x lo hi H Q)
theorem sl_X : SlR X (rSlX X.K) := L2.SlR.or sl_list (L2.SlR.or sl_tup sl_str)
theorem fSl1_ok {o : Op} {v : V} {lo hi : Option Int} {Q : VK} (st : Sta g F H σ ρ fp) (hs : ∀ a ∈ fp, a ∈ fs) (k1 : ∀ t, look ρ o = some t → ∃ f, Own g F H v t f) (h : Out g W σ F H fs fp ρ (fSl1 ρ o lo hi) Q) : rSlX g.K v lo hi H Q := by
  unfold fSl1 at h
  split at h
  · rename_i z e
    obtain ⟨f, h1⟩ := k1 _ e
    have h1 := own_d_is h1
    split at h
    · rename_i hz
      cases h1
      exact .inr (.inr ⟨z, rfl, hz, h.val st hs (.d (.str _))⟩)
    · exact h.elim
  · rename_i ds e
    obtain ⟨f, h1⟩ := k1 _ e
    have h1 := own_d_is h1
    split at h
    · exact h.elim
    · rename_i hn
      cases h1 with
      | @tup a xs _ s1 t1 =>
        refine .inr (.inl ⟨a, xs, rfl, sqT_mono st.le s1, by rw [t1.length]; exact hn, fun p hp => ?_⟩)
        exact Out.newD st hs hp (.tup (SqT.of upd_same) ((cut_is t1).mono fun a u e => by rw [upd_ne (ne_of_none e (free_of st.le hp))]; exact e)) h
  · rename_i t _ _ e
    obtain ⟨f, h1⟩ := k1 _ e
    split at h
    · rename_i ds e3
      obtain ⟨a, xs, rfl, b1, b2⟩ := shL_ok st.le h1 e3
      exact .inl ⟨a, xs, rfl, SqL.of b1, fun p hp => Out.newLd st (cut_is b2) hs hp h⟩
    · exact h.elim
  · exact h.elim
def fSl00 : Env → List Op → R Op := fun ρ os => match os with
  | [o] => fSl1 ρ o none none
  | _ => .bad
def fSl10 : Env → List Op → R Op := fun ρ os => match os with
  | [o, .tm (.d (.int i))] => fSl1 ρ o (some i) none
  | _ => .bad
def fSl01 : Env → List Op → R Op := fun ρ os => match os with
  | [o, .tm (.d (.int i))] => fSl1 ρ o none (some i)
  | _ => .bad
def fSl11 : Env → List Op → R Op := fun ρ os => match os with
  | [o, .tm (.d (.int i)), .tm (.d (.int j))] => fSl1 ρ o (some i) (some j)
  | _ => .bad
/-- an int, taken out of its place -/
def mInt (m : M) : M := fun ρ => match mSh true m ρ with
  | .ok (.tm (.d (.int i))) ρ1 p => .ok (.tm (.d (.int i))) ρ1 p
  | .ok _ _ _ => .bad
  | .exc c n d ρ' => .exc c n d ρ'
  | .bad => .bad
theorem eof_int {m : M} {Q : VK} (h : EOf g W (mInt m) σ H Q) : EOf g W (mSh true m) σ H fun y H' => (∃ i, y = .int i) ∧ Q y H' := by
  obtain ⟨F, ρ, fp, st, h⟩ := h
  refine ⟨F, ρ, fp, st, ?_⟩
  unfold mInt at h
  cases hm : mSh true m ρ with
  | bad => rw [hm] at h; exact h
  | exc c n d ρ' => rw [hm] at h; exact h
  | ok o ρ1 p =>
    rw [hm] at h
    split at h
    · rename_i e
      cases e
      intro v F1 H1 fq fp1 s1 n1 o1 st1 op1 pu1
      have is := own_d_is op1
      refine ⟨?_, h v F1 H1 fq fp1 s1 n1 o1 st1 op1 pu1⟩
      cases is
      exact ⟨_, rfl⟩
    · exact h.elim
    · rename_i e; cases e
    · rename_i e; cases e
theorem de_mInt {e : Expr} {m : M} (h : DE X g e m) : DE X g e (mInt m) := fun W tk => pe_imp (de_sh true h W tk) fun σ H Q q => eof_mono (eof_int q) fun _ _ z => z.2
theorem opnL_int {i : Int} {o : Op} {vs : List V} (st : Sta g F H σ ρ fp) (op : OpnL g F H σ fp [o, .tm (.d (.int i))] vs fq) : ∃ v, vs = [v, .int i] ∧ (∀ t, look ρ o = some t → ∃ f, Own g F H v t f) := by
  obtain ⟨v, w, rfl, k1, k2⟩ := opnL2 st op
  obtain ⟨f', h4, _⟩ := k2 (.d (.int i)) rfl
  have h4 := own_d_is h4
  cases h4
  exact ⟨v, rfl, fun t e => let ⟨f, h, _⟩ := k1 t e; ⟨f, h⟩⟩
theorem opnL_int2 {i j : Int} {o : Op} {vs : List V} (st : Sta g F H σ ρ fp) (op : OpnL g F H σ fp [o, .tm (.d (.int i)), .tm (.d (.int j))] vs fq) : ∃ v, vs = [v, .int i, .int j] ∧ (∀ t, look ρ o = some t → ∃ f, Own g F H v t f) := by
  cases op with
  | @cons _ _ v vs f0 fr h q =>
    cases q with
    | @cons _ _ w vs f1 fr2 h2 q =>
      cases q with
      | @cons _ _ u vs f2 fr3 h3 q =>
        cases q
        have h2 := own_d_is (show Own g F H w (.d (.int i)) f1 from h2)
        have h3 := own_d_is (show Own g F H u (.d (.int j)) f2 from h3)
        cases h2
        cases h3
        exact ⟨v, rfl, fun t e => let ⟨f, h, _⟩ := h.own st e; ⟨f, h⟩⟩
section
variable {e lo hi : Expr} {m mlo mhi : M} {pos p2 : Pos}
theorem de_sl00 (he : DE X g e m) (hK : X.K = g.K := by rfl) : DE X g (.Subscript e (.Slice none none none p2) pos) (mOpN fSl00 (mCons m mNil)) := fun W tk => pe_imp (pe_slice (sl_X (X := X)) (he W tk) po_none po_none) fun σ H Q h => by
  refine aof1 (eof_opN (r := fun W σ vs H Q => ∃ x, vs = [x] ∧ rSlX g.K x none none H Q) (fun W σ F H ρ fp fq os vs Q st op nd ho q => ?_) h) fun x H1 h => by
    obtain ⟨_, e, h⟩ := h
    cases e
    rw [hK]
    exact h
  unfold fSl00 at q
  split at q
  · obtain ⟨v, rfl, _, k1⟩ := opnL1 st op
    exact ⟨v, rfl, fSl1_ok st sub_r (fun t e => let ⟨f, h, _⟩ := k1 t e; ⟨f, h⟩) q⟩
  · exact q.elim
theorem sl_part {lo hi : Option Int} {f : Env → List Op → R Op} {i : Int} (hf : ∀ ρ o, f ρ [o, .tm (.d (.int i))] = fSl1 ρ o lo hi) {o : Op} {vs : List V} {Q : VK} (st : Sta g F H σ ρ fp) (op : OpnL g F H σ fp [o, .tm (.d (.int i))] vs fq)
    (q : Out g W σ F H (fq ++ fp) fp ρ (f ρ [o, .tm (.d (.int i))]) Q) : ∃ x, vs = [x, .int i] ∧ rSlX g.K x lo hi H Q := by
  obtain ⟨v, rfl, k1⟩ := opnL_int st op
  rw [hf] at q
  exact ⟨v, rfl, fSl1_ok st sub_r k1 q⟩
theorem de_sl10 (he : DE X g e m) (hl : DE X g lo mlo) (hK : X.K = g.K := by rfl) : DE X g (.Subscript e (.Slice (some lo) none none p2) pos) (mOpN fSl10 (mCons m (mCons (mInt mlo) mNil))) := fun W tk => pe_imp (pe_slice (sl_X (X := X)) (he W tk) (po_some (de_sh true hl W tk)) po_none) fun σ H Q h => by
  have h2 := aof_cons (eof_opN (r := fun W σ vs H Q => ∃ x i, vs = [x, .int i] ∧ rSlX g.K x (some i) none H Q) (fun W σ F H ρ fp fq os vs Q st op nd ho q => ?_) h)
  · refine eof_mono h2 fun x H1 h => eof_mono (eof_int (eof_mono (aof_cons h) fun y H2 h => aof_nil h)) fun y H2 h => ?_
    obtain ⟨⟨i, rfl⟩, _, _, e, h⟩ := h
    cases e
    refine ⟨i, rfl, ?_⟩
    rw [hK]
    exact h
  · unfold fSl10 at q
    split at q
    · obtain ⟨x, e, k⟩ := sl_part (f := fSl10) (fun _ _ => rfl) st op q
      exact ⟨x, _, e, k⟩
    · exact q.elim
theorem de_sl01 (he : DE X g e m) (hh : DE X g hi mhi) (hK : X.K = g.K := by rfl) : DE X g (.Subscript e (.Slice none (some hi) none p2) pos) (mOpN fSl01 (mCons m (mCons (mInt mhi) mNil))) := fun W tk => pe_imp (pe_slice (sl_X (X := X)) (he W tk) po_none (po_some (de_sh true hh W tk))) fun σ H Q h => by
  have h2 := aof_cons (eof_opN (r := fun W σ vs H Q => ∃ x i, vs = [x, .int i] ∧ rSlX g.K x none (some i) H Q) (fun W σ F H ρ fp fq os vs Q st op nd ho q => ?_) h)
  · refine eof_mono h2 fun x H1 h => eof_mono (eof_int (eof_mono (aof_cons h) fun y H2 h => aof_nil h)) fun y H2 h => ?_
    obtain ⟨⟨i, rfl⟩, _, _, e, h⟩ := h
    cases e
    refine ⟨i, rfl, ?_⟩
    rw [hK]
    exact h
  · unfold fSl01 at q
    split at q
    · obtain ⟨x, e, k⟩ := sl_part (f := fSl01) (fun _ _ => rfl) st op q
      exact ⟨x, _, e, k⟩
    · exact q.elim
theorem de_sl11 (he : DE X g e m) (hl : DE X g lo mlo) (hh : DE X g hi mhi) (hK : X.K = g.K := by rfl) : DE X g (.Subscript e (.Slice (some lo) (some hi) none p2) pos) (mOpN fSl11 (mCons m (mCons (mInt mlo) (mCons (mInt mhi) mNil)))) := fun W tk => pe_imp (pe_slice (sl_X (X := X)) (he W tk) (po_some (de_sh true hl W tk)) (po_some (de_sh true hh W tk))) fun σ H Q h => by
  have h2 := aof_cons (eof_opN (r := fun W σ vs H Q => ∃ x i j, vs = [x, .int i, .int j] ∧ rSlX g.K x (some i) (some j) H Q) (fun W σ F H ρ fp fq os vs Q st op nd ho q => ?_) h)
  · refine eof_mono h2 fun x H1 h => eof_mono (eof_int (aof_cons h)) fun y H2 h => ?_
    obtain ⟨⟨i, rfl⟩, h⟩ := h
    refine ⟨i, rfl, eof_mono (eof_int (eof_mono (aof_cons h) fun z H3 h => aof_nil h)) fun z H3 h => ?_⟩
    obtain ⟨⟨j, rfl⟩, _, _, _, e, h⟩ := h
    cases e
    refine ⟨j, rfl, ?_⟩
    rw [hK]
    exact h
  · unfold fSl11 at q
    split at q
    · obtain ⟨v, rfl, k1⟩ := opnL_int2 st op
      exact ⟨v, _, _, rfl, fSl1_ok st sub_r k1 q⟩
    · exact q.elim
end
end
end MV
/-! MvR: products, new containers, methods, stores into lists. -/
namespace MV
open PySem L2
section
variable {g : G} {F F' F1 F2 H H' H1 H2 : Hp} {σ σ' : St} {ρ ρ1 : Env} {fp fq fs fp1 fp2 fq1 fq2 : List Addr} {W : WX} {X : Cx} {P : List Nat}
/-! ### a * b -/
def fMul : Env → List Op → R Op := fun ρ os => match os with
  | [o, o'] => (match look ρ o, look ρ o' with
    | some (.d (.int i)), some (.d (.int j)) => if bitsOk i j = true then .ok (.tm (.d (.int (i * j)))) ρ true else .bad
    | some t, some (.d (.int k)) => (match shL t with
      | some ds => if ds.length * k.toNat ≤ 10000 ∧ -(2 ^ 63) ≤ k ∧ k < 2 ^ 63 then .ok (.tm (.l ((List.replicate k.toNat ds).flatten.map T.d))) ρ true else .bad
      | none => .bad)
    | _, _ => .bad)
  | _ => .bad
theorem rep_is {xs : List V} {ds : List PyData} (q : IsAll g.K F xs ds) : ∀ n : Nat, IsAll g.K F (List.replicate n xs).flatten (List.replicate n ds).flatten
  | 0 => .nil
  | n + 1 => by
    rw [List.replicate_succ, List.replicate_succ, List.flatten_cons, List.flatten_cons]
    exact q.append (rep_is q n)
def rMul : R2 := fun x y H Q => rI CMulX (fun i j => .int (i * j)) x y H Q ∨ rRep x y H Q
theorem op_mulY : OpR X (binaryOp .Mult) rMul := opr_or op_mulX op_rep
theorem opN_mul : OpN g (r2N rMul) fMul := by
  intro W σ F H ρ fp fq os vs Q st op nd ho q
  unfold fMul at q
  split at q
  · rename_i o o'
    obtain ⟨v, w, rfl, k1, k2⟩ := opnL2 st op
    show rMul v w H Q
    split at q
    · rename_i i j e1 e2
      obtain ⟨f1, h1, _⟩ := k1 _ e1
      obtain ⟨f2, h2, _⟩ := k2 _ e2
      have h1 := own_d_is h1
      have h2 := own_d_is h2
      cases h1
      cases h2
      split at q
      · rename_i hb
        exact .inl ⟨i, j, rfl, rfl, (of_decide_eq_true (show decide ((Builtin.Int.intBits i : Int) + (Builtin.Int.intBits j : Int) ≤ 134217728) = true from hb) : (Builtin.Int.intBits i : Int) + (Builtin.Int.intBits j : Int) ≤ 134217728), q.val st sub_r (.d (.int _))⟩
      · exact q.elim
    · rename_i t k _ e1 e2
      obtain ⟨f1, h1, _⟩ := k1 _ e1
      obtain ⟨f2, h2, _⟩ := k2 _ e2
      have h2 := own_d_is h2
      cases h2
      split at q
      · rename_i ds e3
        split at q
        · rename_i hc
          obtain ⟨a, xs, rfl, b1, b2⟩ := shL_ok st.le h1 e3
          exact .inr ⟨a, k, xs, rfl, rfl, b1, hc.2.1, hc.2.2, by rw [b2.length]; exact le_size hc.1, fun p hp => q.newLd st (rep_is b2 _) sub_r hp⟩
        · exact q.elim
      · exact q.elim
    · exact q.elim
  · exact q.elim
theorem de_mul {a b : Expr} {m n : M} {pos : Pos} (ha : DE X g a m) (hb : DE X g b n) : DE X g (.BinOp a .Mult b pos) (m2 fMul m n) := de_bin op_mulY opN_mul ha hb
/-! ### divmod -/
def fDivmod : Env → List Op → R Op := fun ρ os => match vws ρ os with
  | some [.int i, .int j] => if 0 < j ∧ Builtin.divisionGoesByPylong i j = false then .ok (.tm (.d (.tuple [.int (i / j), .int (i % j)]))) ρ true else .bad
  | _ => .bad
theorem opN_divmod : OpN g (rBN fun xs H Q => ∃ i j, xs = [.int i, .int j] ∧ CDivP i j ∧ ∀ p, H p = none → Q (.ref p) (upd H p (.tup [.int (i / j), .int (i % j)]))) fDivmod := by
  intro W σ F H ρ fp fq os vs Q st op nd ho q
  unfold fDivmod at q
  split at q
  · rename_i i j e
    split at q
    · rename_i hc
      obtain ⟨v, w, rfl, h1, h2⟩ := isall2 (op.is st e)
      cases h1
      cases h2
      exact ⟨i, j, rfl, hc, fun p hp => Out.newD st sub_r hp (.tup (SqT.of upd_same) (.cons (.int _) (.cons (.int _) .nil))) q⟩
    · exact q.elim
  · exact q.elim
/-! ### list(x), tuple(x) -/
def fList : Env → List Op → R Op := fun ρ os => match os with
  | [o] => (match look ρ o with
    | some t => (match shL t, shT t with
      | some ds, _ => .ok (.tm (.l (ds.map T.d))) ρ true
      | none, some ds => .ok (.tm (.l (ds.map T.d))) ρ true
      | none, none => .bad)
    | none => .bad)
  | _ => .bad
theorem opN_list : OpN g (rBN fun xs H Q => ∃ p ys, xs = [.ref p] ∧ (SqL g.K H p ys ∨ SqT g.K H p ys) ∧ ∀ l, H l = none → Q (.ref l) (upd H l (.lst ys))) fList := by
  intro W σ F H ρ fp fq os vs Q st op nd ho q
  unfold fList at q
  split at q
  · rename_i o
    split at q
    · rename_i t e
      obtain ⟨v, rfl, _, k1⟩ := opnL1 st op
      obtain ⟨f, h1, _⟩ := k1 _ e
      split at q
      · rename_i ds e3
        obtain ⟨a, xs, rfl, b1, b2⟩ := shL_ok st.le h1 e3
        exact ⟨a, xs, rfl, .inl (SqL.of b1), fun p hp => q.newLd st b2 sub_r hp⟩
      · rename_i ds _ e3
        obtain ⟨a, xs, rfl, b1, b2⟩ := shT_ok st.le h1 e3
        exact ⟨a, xs, rfl, .inr b1, fun p hp => q.newLd st b2 sub_r hp⟩
      · exact q.elim
    · exact q.elim
  · exact q.elim
def fTuple : Env → List Op → R Op := fun ρ os => match os with
  | [o] => (match look ρ o with
    | some (.d (.tuple ds)) => .ok (.tm (.d (.tuple ds))) ρ true
    | some t => (match shL t with
      | some ds => .ok (.tm (.d (.tuple ds))) ρ true
      | none => .bad)
    | none => .bad)
  | _ => .bad
theorem opN_tuple : OpN g (rBN fun xs H Q => ∃ p ys, xs = [.ref p] ∧ ((SqL g.K H p ys ∧ ∀ l, H l = none → Q (.ref l) (upd H l (.tup ys))) ∨ (SqT g.K H p ys ∧ Q (.ref p) H))) fTuple := by
  intro W σ F H ρ fp fq os vs Q st op nd ho q
  unfold fTuple at q
  split at q
  · rename_i o
    obtain ⟨v, rfl, _, k1⟩ := opnL1 st op
    split at q
    · rename_i ds e
      obtain ⟨f, h1, _⟩ := k1 _ e
      have h1 := own_d_is h1
      cases h1 with
      | @tup a xs _ s1 t1 => exact ⟨a, xs, rfl, .inr ⟨sqT_mono st.le s1, q.val st sub_r (.d (.tup s1 t1))⟩⟩
    · rename_i t _ e
      obtain ⟨f, h1, _⟩ := k1 _ e
      split at q
      · rename_i ds e3
        obtain ⟨a, xs, rfl, b1, b2⟩ := shL_ok st.le h1 e3
        exact ⟨a, xs, rfl, .inl ⟨SqL.of b1, fun p hp => Out.newD st sub_r hp (.tup (SqT.of upd_same) (b2.mono fun a u e => by rw [upd_ne (ne_of_none e (free_of st.le hp))]; exact e)) q⟩⟩
      · exact q.elim
    · exact q.elim
  · exact q.elim
/-! ### sep.join(list) -/
def hJoin : List PyData → Option PyData
  | [.str a, .list ds] => (match strsD ds with
    | some ys => if (ys.map (·.length)).sum + ys.length * a.length ≤ 16777216 then some (.str (Txt.join a ys)) else none
    | none => none)
  | _ => none
def mStr (m : M) : M := fun ρ => match m ρ with
  | .ok o ρ1 p => (match look ρ1 o with
    | some (.d (.str z)) => .ok (.tm (.d (.str z))) ρ1 p
    | _ => .bad)
  | .exc c n d ρ' => .exc c n d ρ'
  | .bad => .bad
theorem eof_str {m : M} {Q : VK} (h : EOf g W (mStr m) σ H Q) : EOf g W m σ H fun y H' => (∃ i, y = .str i) ∧ Q y H' := by
  obtain ⟨F, ρ, fp, st, h⟩ := h
  refine ⟨F, ρ, fp, st, ?_⟩
  unfold mStr at h
  cases hm : m ρ with
  | bad => rw [hm] at h; exact h
  | exc c n d ρ' => rw [hm] at h; exact h
  | ok o ρ1 p =>
    rw [hm] at h
    dsimp only at h
    split at h
    · rename_i z e
      intro v F1 H1 fq fp1 s1 n1 o1 st1 op1 pu1
      obtain ⟨f, h1, _⟩ := op1.own st1 e
      have is := own_d_is h1
      cases is
      exact ⟨⟨z, rfl⟩, h (.str z) F1 H1 [] fp1 (s1.wid (fun _ z => z) fun a ha => .inl (List.mem_append_right _ ha)) st1.nd (fun _ z => nomatch z) st1 (.d (.str _)) pu1⟩
    · exact h.elim
theorem opN_join : OpN g (r2N fun x y H Q => ∃ a p, ∃ ys : List Str, x = .str a ∧ y = V.ref p ∧ (SqL g.K H p (ys.map V.str) ∨ SqT g.K H p (ys.map V.str)) ∧ (ys.map (·.length)).sum + ys.length * a.length ≤ 16777216 ∧ Q (.str (Txt.join a ys)) H) (fD hJoin) := opN_2 (fun H x y a b c Q i1 i2 e q => by
  unfold hJoin at e
  split at e
  · rename_i z ds e1
    cases e1
    split at e
    · rename_i ys e2
      split at e
      · rename_i hl
        cases e
        cases i1
        cases i2 with
        | lst h q2 =>
          rw [strsD_ok q2 e2] at h
          exact ⟨z, _, ys, rfl, rfl, .inl (SqL.of h), hl, q _ fun F => .str _⟩
      · cases e
    · cases e
  · cases e) fun l c e => by
  unfold hJoin at e
  split at e
  · rfl
  · cases e
theorem de_join {o e : Expr} {mo me : M} {apos pos : Pos} (ho : DE X g o mo) (he : DE X g e me) (hK : X.K = g.K := by rfl) (hs : starEach [e] X.env = [(false, eval e X.env)] := by rfl) (hbase : attributeBase o "join" X.env (eval o X.env) = eval o X.env := by rfl) (hline : (apos.endLine == pos.line) = true := by rfl) :
    DE X g (.Call (.Attribute o "join" apos) [e] [] pos) (m2 (fD hJoin) (mStr mo) me) := fun W tk => pe_imp (pe_join (ho W tk) (he W tk) hs hbase hline) fun σ H Q h => by
  refine eof_mono (eof_str (aof_cons (eof_opN opN_join h))) fun x H1 h => ⟨h.1, aof1 h.2 fun y H2 h => ?_⟩
  obtain ⟨a, p, ys, e1, e2, e3, e4, e5⟩ := h
  exact ⟨a, p, ys, e1, by rw [e2], by rw [hK]; exact e3, e4, e5⟩
end
end MV
/-! MvS: writing to owned lists: stores, append, extend, pop; dict displays. -/
namespace MV
open PySem L2
section
variable {g : G} {F F' F1 F2 H H' H1 H2 : Hp} {σ σ' : St} {ρ ρ1 : Env} {fp fq fs fp1 fp2 fq1 fq2 : List Addr} {W : WX} {X : Cx} {P : List Nat}
def putT (ρ : Env) (i : Nat) (p : List Sel) (t : T) : Option Env := match ρ[i]? with
  | some (some t0) => (T.put t0 p t).map fun t0' => ρ.set i (some t0')
  | _ => none
/-- an owned list at a place is written -/
theorem Sta.lput {i : Nat} {p : List Sel} {v : V} {ts : List T} (st : Sta g F H σ ρ fp) (op : Opn g F H σ fp (.pl i p) v fs) (e : look ρ (.pl i p) = some (.l ts)) :
    fs = [] ∧ ∃ a vs fm, v = .ref a ∧ H a = some (.lst vs) ∧ OwnL g F H vs ts fm ∧ (a :: fm).Sublist fp ∧ ∀ (us : List V) (ts' : List T) (fm' fq : List Addr) (ρ' : Env), (fq ++ fp).Nodup → (∀ x ∈ fq, F x = none) → (∀ x ∈ fq, ∃ o, H x = some o) → OwnL g F H us ts' fm' → fm'.Nodup → (∀ x ∈ fm', x ∈ fm ∨ x ∈ fq) →
      putT ρ i p (.l ts') = some ρ' → ∃ fp', Sta g F (upd H a (.lst us)) σ ρ' fp' ∧ Stp F H (fq ++ fp) F (upd H a (.lst us)) fp' := by
  obtain ⟨rfl, v0, as, h1, h2, h3⟩ := op
  refine ⟨rfl, ?_⟩
  unfold look at e
  dsimp only at e
  cases e0 : ρ[i]? with
  | none => rw [e0] at e; cases e
  | some x =>
    rw [e0] at e
    cases x with
    | none => cases e
    | some t0 =>
      dsimp only at e
      obtain ⟨f1, fmm, f2, rfl, h4, h5⟩ := st.place h1 h2 e0 e
      cases h4 with
      | @l a vs _ fm ha q =>
        refine ⟨a, vs, fm, rfl, ha, q, ((List.sublist_append_right f1 _).trans (List.sublist_append_left _ f2)), fun us ts' fm' fq ρ' nd ho hd ol n' hs ep => ?_⟩
        have nd0 := (List.nodup_append.mp nd).2.1
        have hq : ∀ x ∈ fq, ∀ y ∈ f1 ++ a :: fm ++ f2, x ≠ y := (List.nodup_append.mp nd).2.2
        obtain ⟨n1, n2, n3⟩ := List.nodup_append.mp nd0
        obtain ⟨n4, n5, n6⟩ := List.nodup_append.mp n1
        obtain ⟨n7, n8⟩ := List.nodup_cons.mp n5
        have na : a ∉ fm' := fun z => by
          rcases hs a z with h | h
          · exact n7 h
          · exact hq a h a (by simp) rfl
        have oa : F a = none := st.out a (by simp)
        have kp : ∀ {b : Addr}, b ≠ a → ∀ u, H b = some u → upd H a (.lst us) b = some u := fun {b} hb u e => by rw [upd_ne hb]; exact e
        have k12 : ∀ b ∈ f1 ++ f2, ∀ o, H b = some o → upd H a (.lst us) b = some o := fun b hb => kp fun e => by
          subst e
          rcases List.mem_append.mp hb with h | h
          · exact n6 b h b (List.mem_cons_self ..) rfl
          · exact n3 b (by simp) b h rfl
        obtain ⟨t0', h6, h7⟩ := h5 F (upd H a (.lst us)) (.l ts') (a :: fm') (Le.refl _) k12 (.l upd_same (ol.keep (Le.refl _) fun b hb => kp fun e => na (e ▸ hb)))
        unfold putT at ep
        rw [e0] at ep
        dsimp only at ep
        rw [h6] at ep
        have ep : some (ρ.set i (some t0')) = some ρ' := ep
        cases ep
        have mem : ∀ b ∈ f1 ++ a :: fm' ++ f2, b ∈ fq ++ (f1 ++ a :: fm ++ f2) := fun b hb => by
          simp only [List.mem_append, List.mem_cons] at hb ⊢
          rcases hb with (h | h | h) | h
          · exact .inr (.inl (.inl h))
          · exact .inr (.inl (.inr (.inl h)))
          · rcases hs b h with h | h
            · exact .inr (.inl (.inr (.inr h)))
            · exact .inl h
          · exact .inr (.inr h)
        have out' : ∀ b ∈ f1 ++ a :: fm' ++ f2, F b = none := fun b hb => (List.mem_append.mp (mem b hb)).elim (ho b) (st.out b)
        refine ⟨f1 ++ a :: fm' ++ f2, ⟨fun b u e => kp (fun h => by rw [h, oa] at e; cases e) u (st.le b u e), h7, ?_, out'⟩, ⟨Le.refl _, fun b u e hb => kp (fun h => hb (by rw [h]; simp)) u e, fun b e => ?_, fun b hb => .inl (mem b hb), fun b o e => .inl ⟨o, e⟩⟩⟩
        · refine List.nodup_append.mpr ⟨List.nodup_append.mpr ⟨n4, List.nodup_cons.mpr ⟨na, n'⟩, fun x hx y hy e => ?_⟩, n2, fun x hx y hy e => ?_⟩
          · subst e
            rcases List.mem_cons.mp hy with h | h
            · exact n6 x hx x (by rw [h]; exact List.mem_cons_self ..) rfl
            · rcases hs x h with h | h
              · exact n6 x hx x (List.mem_cons_of_mem _ h) rfl
              · exact hq x h x (by simp [hx]) rfl
          · subst e
            rcases List.mem_append.mp hx with h | h
            · exact n3 x (List.mem_append_left _ h) x hy rfl
            · rcases List.mem_cons.mp h with h | h
              · exact n3 x (by rw [h]; simp) x hy rfl
              · rcases hs x h with h | h
                · exact n3 x (by simp [h]) x hy rfl
                · exact hq x h x (by simp [hy]) rfl
        · by_cases h : b = a
          · rw [h, upd_same] at e; cases e
          · rw [upd_ne h] at e; exact e
/-! ### o[i] = v -/
def mTgS (mo mi : M) : MG := fun t ρ => match mCons mo (mCons mi mNil) ρ with
  | .ok [.pl s p, .tm (.d (.int k))] ρ1 q => if q = true then (match look ρ1 (.pl s p) with
    | some (.l ts) => (match ixN ts.length k with
      | some j => (match putT ρ1 s p (.l (ts.set j t)) with
        | some ρ2 => .ok () ρ2 true
        | none => .bad)
      | none => .bad)
    | _ => .bad) else .bad
  | _ => .bad
theorem dg_sub {o i : Expr} {mo mi : M} {pos : Pos} (ho : DE X g o mo) (hi : DE X g i mi) (ha : ∀ v, assign (.Subscript o i pos) X.env v = (do
      let ov ← holding [v] (eval o X.env)
      let iv ← holding [v, ov] (eval i X.env)
      standAt pos
      holding [v, ov, iv] (setItem ov iv v)
      release [v, ov, iv] []) := by intro _; rfl) : DG X g P (.Subscript o i pos) (mTgS mo mi) := fun W tk => pg_imp (pg_sub (ho W tk) (hi W tk) set_list ha) fun v σ H Q h => by
  obtain ⟨F, ρ, fp, fq, t, st, o, nd, hof, h⟩ := h
  refine eof_mono (g := g) (W := W) (aof_cons (Q := fun vs H2 => ∀ x y, vs = [x, y] → rSetL x y v H2 fun H3 => Q σ H3) ?_) fun x H1 h1 => aof1 h1 fun y H2 h2 => h2 x y rfl
  refine ⟨F, ρ, fp, st, ?_⟩
  unfold mTgS at h
  cases hm : mCons mo (mCons mi mNil) ρ with
  | bad => rw [hm] at h; exact h.elim
  | exc c n d ρ' => rw [hm] at h; exact h.elim
  | ok os ρ1 p =>
    rw [hm] at h
    intro vs F1 H1 fr fp1 s1 n1 o1 st1 op1 pu1 x y exy
    subst exy
    split at h
    · rename_i s pp k ρ2 q e
      cases e
      split at h
      · rename_i hq
        split at h
        · rename_i ts el
          split at h
          · rename_i j hj
            split at h
            · rename_i ρ3 ep
              cases op1 with
              | @cons _ _ _ _ f0 fr1 op1 q1 =>
                cases q1 with
                | @cons _ _ _ _ f1 fr2 op2 q2 =>
                  cases q2
                  have i2 := own_d_is (show Own g F1 H1 y (.d (.int k)) f1 from op2)
                  cases i2
                  obtain ⟨rfl, a, us, fm, rfl, ha, ol, sb, wr⟩ := st1.lput op1 el
                  have hlt := (ixN_seq hj).2.1
                  obtain ⟨tj, hjt⟩ : ∃ x, ts[j]? = some x := ⟨ts[j], by simp [hlt]⟩
                  refine ⟨a, us, k, j, rfl, rfl, ha, by rw [ol.length]; exact hj, ?_⟩
                  -- what is stored stays over the way to the list
                  have djv : ∀ b ∈ fq, b ∉ fp := fun b hb z => (List.nodup_append.mp nd).2.2 b hb b z rfl
                  obtain ⟨c1, c2, c3⟩ := s1.carry o.dom hof djv
                  obtain ⟨vj, g0, g1, g2, k1, k2, k3, k4⟩ := ol.split hjt
                  have onew := k4 F1 H1 v t fq (Le.refl _) (fun _ _ _ z => z) (o.keep s1.le c1)
                  have nfm : fm.Nodup := (List.nodup_cons.mp (st1.nd.sublist sb)).2
                  have mfp : ∀ b ∈ fm, b ∈ fp1 := fun b hb => sb.subset (List.mem_cons_of_mem _ hb)
                  have nq1 : (fq ++ fp1).Nodup := List.nodup_append.mpr ⟨(List.nodup_append.mp nd).1, st1.nd, fun b hb b' hb' e => c3 b hb (e ▸ List.mem_append_right _ hb')⟩
                  have w1 : (g0 ++ fq ++ g2).Nodup := by
                    rw [k3] at nfm
                    obtain ⟨m1, m2, m3⟩ := List.nodup_append.mp nfm
                    obtain ⟨m4, m5, m6⟩ := List.nodup_append.mp m1
                    have dq : ∀ b ∈ fq, ∀ b' ∈ fm, b ≠ b' := fun b hb b' hb' e => (List.nodup_append.mp nq1).2.2 b hb b' (mfp b' hb') e
                    rw [k3] at dq
                    refine List.nodup_append.mpr ⟨List.nodup_append.mpr ⟨m4, (List.nodup_append.mp nd).1, fun b hb b' hb' e => dq b' hb' b (by simp [hb]) e.symm⟩, m2, fun b hb b' hb' e => ?_⟩
                    rcases List.mem_append.mp hb with h | h
                    · exact m3 b (List.mem_append_left _ h) b' hb' e
                    · exact dq b h b' (by simp [hb']) e
                  have w2 : ∀ x ∈ g0 ++ fq ++ g2, x ∈ fm ∨ x ∈ fq := by
                    intro b hb
                    rw [k3]
                    simp only [List.mem_append] at hb ⊢
                    rcases hb with (h | h) | h
                    · exact .inl (.inl (.inl h))
                    · exact .inr h
                    · exact .inl (.inr h)
                  obtain ⟨fp', st2, s2⟩ := wr (us.set j v) (ts.set j t) (g0 ++ fq ++ g2) fq ρ3 nq1 c2 (fun b hb => let ⟨o', e⟩ := o.dom b hb; ⟨o', c1 b hb o' e⟩) onew w1 w2 ep
                  refine h σ F1 _ fp' ?_ st2 (Agree.refl P σ) rfl
                  exact Stp.trans0 (s1.wid (fq1 := fq ++ fp1) (fun b hb => List.mem_append_right _ hb) fun b hb => by
                    rcases List.mem_append.mp hb with hb | hb
                    · exact .inr (List.mem_append_left _ hb)
                    · exact .inl (List.mem_append_right _ hb)) s2
            · exact h.elim
          · exact h.elim
        · exact h.elim
      · exact h.elim
    · exact h.elim
/-! ### xs.append(e) -/
def fApp : Env → List Op → R Op := fun ρ os => match os with
  | [.pl s p, .tm t] => (match look ρ (.pl s p) with
    | some (.l ts) => if ts.length < 10000 then (match putT ρ s p (.l (ts ++ [t])) with
      | some ρ2 => .ok (.tm (.d .none)) ρ2 false
      | none => .bad) else .bad
    | _ => .bad)
  | _ => .bad
theorem opN_app : OpN g (r2N fun x y H Q => rAppend x [y] H Q) fApp := by
  intro W σ F H ρ fp fq os vs Q st op nd ho q
  unfold fApp at q
  split at q
  · rename_i s p t
    split at q
    · rename_i ts el
      split at q
      · rename_i hl
        split at q
        · rename_i ρ2 ep
          cases op with
          | @cons _ _ v _ f0 fr1 op1 q1 =>
            cases q1 with
            | @cons _ _ w _ f1 fr2 op2 q2 =>
              cases q2
              obtain ⟨rfl, a, us, fm, rfl, ha, ol, sb, wr⟩ := st.lput op1 el
              have op2 : Own g F H w t f1 := op2
              have nd : (f1 ++ fp).Nodup := by simpa using nd
              have ho : ∀ b ∈ f1, F b = none := fun b hb => ho b (by simp [hb])
              have nfm : fm.Nodup := (List.nodup_cons.mp (st.nd.sublist sb)).2
              obtain ⟨fp', st2, s2⟩ := wr (us ++ [w]) (ts ++ [t]) (fm ++ f1) f1 ρ2 nd ho op2.dom (by simpa using ol.append (OwnL.cons op2 .nil)) (List.nodup_append.mpr ⟨nfm, (List.nodup_append.mp nd).1, fun b hb b' hb' e => (List.nodup_append.mp nd).2.2 b' hb' b (sb.subset (List.mem_cons_of_mem _ hb)) e.symm⟩)
                (fun b hb => List.mem_append.mp hb) ep
              refine ⟨a, us, w, rfl, rfl, ha, by rw [ol.length]; exact Nat.lt_of_lt_of_le hl (by decide), ?_⟩
              exact q .non F _ [] fp' (by simpa using s2) (by simpa using st2.nd) (fun _ z => nomatch z) st2 (.d .non) (fun z => nomatch z)
        · exact q.elim
      · exact q.elim
    · exact q.elim
  · exact q.elim
end
end MV
/-! MvT: methods in a text, dict displays. -/
namespace MV
open PySem L2
section
variable {g : G} {F F' F1 F2 H H' H1 H2 : Hp} {σ σ' : St} {ρ ρ1 : Env} {fp fq fs fp1 fp2 fq1 fq2 : List Addr} {W : WX} {X : Cx} {P : List Nat}
/-- the operand is a list -/
def isL : T → Bool
  | .l _ => true
  | .d (.list _) => true
  | _ => false
def mLs (m : M) : M := fun ρ => match m ρ with
  | .ok o ρ1 p => (match (look ρ1 o).map isL with
    | some true => .ok o ρ1 p
    | _ => .bad)
  | .exc c n d ρ' => .exc c n d ρ'
  | .bad => .bad
theorem eof_ls {m : M} {Q : VK} (h : EOf g W (mLs m) σ H Q) : EOf g W m σ H fun y H' => tyV g.K "list" y H' ∧ Q y H' := by
  obtain ⟨F, ρ, fp, st, h⟩ := h
  refine ⟨F, ρ, fp, st, ?_⟩
  unfold mLs at h
  cases hm : m ρ with
  | bad => rw [hm] at h; exact h
  | exc c n d ρ' => rw [hm] at h; exact h
  | ok o ρ1 p =>
    rw [hm] at h
    dsimp only at h
    split at h
    · rename_i e
      intro v F1 H1 fq fp1 s1 n1 o1 st1 op1 pu1
      obtain ⟨t, h1, h2⟩ := Option.map_eq_some_iff.mp e
      obtain ⟨f, h3, _⟩ := op1.own st1 h1
      refine ⟨?_, h v F1 H1 fq fp1 s1 n1 o1 st1 op1 pu1⟩
      cases h3 with
      | d z =>
        cases z with
        | lst h _ => exact .inl ⟨rfl, _, SqL.of (st1.le _ _ h)⟩
        | _ => cases h2
      | l h _ => exact .inl ⟨rfl, _, SqL.of h⟩
      | _ => cases h2
    · exact h.elim
section
variable {o e : Expr} {name : Str} {apos cpos : Pos} {id : String} {r : V → List V → Hp → VK → Prop} {mo me : M} {f : Env → List Op → R Op}
theorem de_bm1 (slot : Slot "list" name id) (hty : typeOf (.builtin id) = pure (.type "method_descriptor")) (hm : MtM X id r) (hf : OpN g (r2N fun x y H Q => r x [y] H Q) f) (ho : DE X g o mo) (ha : DE X g e me) (hK : X.K = g.K := by rfl)
    (hbase : attributeBase o name X.env (eval o X.env) = eval o X.env := by rfl)
    (hfew : ((backTo cpos (starEach [e] X.env)).all (fun x => !x.1) && (backToKw cpos (keywordEach [] X.env)).all (fun x => x.1.isSome)
      && decide (([e] : List Expr).length + ([] : List Keyword).length + (if ([] : List Keyword).isEmpty then 0 else 1) < 30)) = true := by rfl)
    (hline : (apos.endLine == cpos.line) = true := by rfl) (hs : starEach [e] X.env = (false, eval e X.env) :: starEach [] X.env := by rfl) (hplain : (backTo cpos (starEach [] X.env)).any (·.1) = false := by rfl) :
    DE X g (.Call (.Attribute o name apos) [e] [] cpos) (m2 f (mLs mo) me) := fun W tk => pe_imp (pe_bm F.plainAttrs_list slot hty hm (ho W tk) (da_cons ha da_nil hs W tk) hbase hfew hline hs hplain) fun σ H Q h => by
  refine eof_mono (eof_ls (aof_cons (eof_opN hf h))) fun x H1 h => ⟨by rw [hK]; exact h.1, ?_⟩
  obtain ⟨F, ρ, fp, st, h⟩ := h.2
  refine ⟨F, ρ, fp, st, ?_⟩
  cases hm : mCons me mNil ρ with
  | bad => rw [hm] at h; exact h
  | exc c n d ρ' => rw [hm] at h; exact h
  | ok os ρ1 p =>
    rw [hm] at h
    intro vs F1 H1 fq fp1 s1 n1 o1 st1 op1 pu1
    have h2 := h vs F1 H1 fq fp1 s1 n1 o1 st1 op1 pu1
    have hl : os.length = 1 := len_cons len_nil _ _ _ _ hm
    match os, vs, hl, op1, h2 with
    | [o], _, _, .cons (v := v) h1 .nil, h2 => exact h2
theorem de_append (ho : DE X g o mo) (ha : DE X g e me) (hK : X.K = g.K := by rfl) (hbase : attributeBase o "append" X.env (eval o X.env) = eval o X.env := by rfl)
    (hfew : ((backTo cpos (starEach [e] X.env)).all (fun x => !x.1) && (backToKw cpos (keywordEach [] X.env)).all (fun x => x.1.isSome)
      && decide (([e] : List Expr).length + ([] : List Keyword).length + (if ([] : List Keyword).isEmpty then 0 else 1) < 30)) = true := by rfl)
    (hline : (apos.endLine == cpos.line) = true := by rfl) (hs : starEach [e] X.env = (false, eval e X.env) :: starEach [] X.env := by rfl) (hplain : (backTo cpos (starEach [] X.env)).any (·.1) = false := by rfl) :
    DE X g (.Call (.Attribute o "append" apos) [e] [] cpos) (m2 fApp (mLs mo) (mSh false me)) := de_bm1 F.slot_list_append F.type_list_append mt_append opN_app ho (de_sh false ha) hK hbase hfew hline hs hplain
end
/-! ### {} and {k: v} -/
def mDct0 : M := fun ρ => .ok (.tm (.k [] [])) ρ true
theorem de_dct0 {pos : Pos} : DE X g (.Dict [] [] pos) mDct0 := fun W tk => pe_imp pe_dnewK fun σ H Q h => by
  obtain ⟨F, ρ, fp, st, h⟩ := h
  intro p hp
  exact Out.new (W := W) (fq := []) st (fun _ z => nomatch z) (by simpa using st.nd) (fun _ z => nomatch z) hp (.k (kvs := []) upd_same rfl .nil) (by simpa [mDct0] using h)
def keyD : PyData → Option Key
  | .int i => some (.inl i)
  | .str x => some (.inr x)
  | _ => none
def keysT : List T → Option (List Key × List T)
  | [] => some ([], [])
  | .d x :: t :: ts => (match keyD x, keysT ts with
    | some k, some (ks, us) => if (ks.any fun j => decide (j = k)) = true then none else some (k :: ks, t :: us)
    | _, _ => none)
  | _ => none
def mDct (ms : Env → R (List Op)) : M := fun ρ => match ms ρ with
  | .ok os ρ1 p => (match (tms os).bind keysT with
    | some (ks, ts) => if ks.length ≤ 15 then .ok (.tm (.k ks ts)) ρ1 p else .bad
    | none => .bad)
  | .exc c n d ρ' => .exc c n d ρ'
  | .bad => .bad
/-- the pairs' operands, one behind the other -/
def flat2 : List (V × V) → List V
  | [] => []
  | (x, y) :: ps => x :: y :: flat2 ps
def DP (X : Cx) (g : G) (pos : Pos) (keys : List (Option Expr)) (values : List Expr) (ms : Env → R (List Op)) : Prop := ∀ W, Takes X W → ∃ trs, PPs X pos keys values trs ∧ ∀ σ H A, AOf g W ms σ H (fun vs H' => ∀ ps, vs = flat2 ps → A ps H') → tPairs trs σ H A
theorem dp_nil {pos : Pos} : DP X g pos [] [] mNil := fun W tk => ⟨[], pps_nil, fun σ H A h => aof_nil h [] rfl⟩
theorem dp_cons {pos : Pos} {k v : Expr} {ks : List (Option Expr)} {vs : List Expr} {mk mv : M} {ms : Env → R (List Op)} (hk : DE X g k mk) (hv : DE X g v mv) (hr : DP X g pos ks vs ms) : DP X g pos (some k :: ks) (v :: vs) (mCons mk (mCons mv ms)) := fun W tk => by
  obtain ⟨trs, h1, h2⟩ := hr W tk
  exact ⟨_, pps_cons (hk W tk) (hv W tk) h1, fun σ H A h => eof_mono (aof_cons h) fun x H1 h => eof_mono (aof_cons h) fun y H2 h => h2 _ _ _ (aof_mono h fun vs H3 h ps e => h ((x, y) :: ps) (by rw [e]; rfl))⟩
theorem merge_nodup : ∀ (more kvs : List (Key × V)), (∀ p ∈ more, p.1 ∉ kvs.map (·.1)) → (more.map (·.1)).Nodup → mergeK kvs more = kvs ++ more
  | [], kvs, _, _ => by simp [mergeK]
  | p :: r, kvs, h, n => by
    have e : putK kvs p.1 p.2 = kvs ++ [p] := by
      unfold putK
      rw [if_neg]
      intro z
      rw [List.any_eq_true] at z
      obtain ⟨q, hq, e⟩ := z
      exact h p (List.mem_cons_self ..) (by rw [← of_decide_eq_true e]; exact List.mem_map_of_mem hq)
    have n := List.nodup_cons.mp n
    show mergeK (putK kvs p.1 p.2) r = _
    rw [e, merge_nodup r (kvs ++ [p]) (fun q hq z => ?_) n.2]
    · simp
    · rw [List.map_append, List.mem_append] at z
      rcases z with z | z
      · exact h q (List.mem_cons_of_mem _ hq) z
      · have z : q.1 = p.1 := by simpa using z
        exact n.1 (List.mem_map.mpr ⟨q, hq, z⟩)
theorem keysT_ok : ∀ {ps : List (V × V)} {ts us : List T} {ks : List Key} {f : List Addr}, OwnL g F H (flat2 ps) ts f → keysT ts = some (ks, us) → ∃ kvs : List (Key × V), ps = kvs.map (fun kv => (kV kv.1, kv.2)) ∧ kvs.map (·.1) = ks ∧ ks.Nodup ∧ OwnL g F H (kvs.map (·.2)) us f
  | [], _, us, ks, _, .nil, e => by
    have e : (([] : List Key), ([] : List T)) = (ks, us) := Option.some.inj e
    cases e
    exact ⟨[], rfl, rfl, .nil, .nil⟩
  | (x, y) :: ps, _, us, ks, _, .cons (t := t1) h1 (.cons (t := t2) (ts := tr) (fp := f2) (fq := fr) h2 q), e => by
    cases t1 with
    | d dx =>
      unfold keysT at e
      split at e
      · rename_i k ks' us' e1 e2
        split at e
        · cases e
        · rename_i hc
          cases e
          obtain ⟨kvs, k1, k2, k3, k4⟩ := keysT_ok q e2
          have hk : x = kV k := by
            have h1 := own_d_is h1
            cases h1 with
            | int i => have e1 := Option.some.inj (show some _ = some k from e1); subst e1; rfl
            | str i => have e1 := Option.some.inj (show some _ = some k from e1); subst e1; rfl
            | _ => cases e1
          cases h1
          refine ⟨(k, y) :: kvs, by simp [hk, k1], by simp [k2], List.nodup_cons.mpr ⟨?_, k3⟩, by simpa using OwnL.cons h2 k4⟩
          exact fun z => hc (List.any_eq_true.mpr ⟨k, z, decide_eq_true rfl⟩)
      · cases e
    | _ => cases e
theorem de_dct {pos : Pos} {keys : List (Option Expr)} {values : List Expr} {ms : Env → R (List Op)} (h : DP X g pos keys values ms) (hall : keys.all (·.isSome) = true := by rfl) (hl : keys.length = values.length := by rfl) (h0 : keys ≠ [] := by exact List.cons_ne_nil _ _) (h15 : keys.length ≤ 15 := by decide) :
    DE X g (.Dict keys values pos) (mDct ms) := fun W tk => by
  obtain ⟨trs, h1, h2⟩ := h W tk
  refine pe_imp (pe_disp h1 hall hl h0 h15) fun σ H Q h => ?_
  obtain ⟨F, ρ, fp, st, h⟩ := h
  intro p hp
  have np : p ∉ fp := fresh_notin hp st.own.dom
  have fp0 := free_of st.le hp
  have st0 : Sta g F (upd H p (.dK [])) σ ρ fp := ⟨le_upd st.le hp, st.own.keep (Le.refl _) (fun a _ u e => keep_upd hp a u e), st.nd, st.out⟩
  have s0 : Stp F H fp F (upd H p (.dK [])) fp := ⟨Le.refl _, fun a u e _ => keep_upd hp a u e, fun a e => by
    by_cases ha : a = p
    · rw [ha]; exact hp
    · rw [upd_ne ha] at e; exact e, fun a ha => .inl ha, fun a u e => .inl ⟨u, e⟩⟩
  refine h2 σ (upd H p (.dK [])) _ ?_
  · refine ⟨F, ρ, fp, st0, ?_⟩
    unfold mDct at h
    cases hm : ms ρ with
    | bad => rw [hm] at h; exact h
    | exc c n d ρ' =>
      rw [hm] at h
      exact fun d' F2 H2 fp2 s2 st2 ex => h d' F2 H2 fp2 (s0.trans0 s2) st2 ex
    | ok os ρ1 p1 =>
      rw [hm] at h
      intro vs F1 H1 fq fp1 s1 n1 o1 st1 op1 pu1 ps eps
      subst eps
      dsimp only at h
      split at h
      · rename_i ks ts e
        split at h
        · rename_i h15
          obtain ⟨ts0, e1, e2⟩ := Option.bind_eq_some_iff.mp e
          obtain ⟨kvs, k1, k2, k3, k4⟩ := keysT_ok (tms_ok op1 e1) e2
          have hp1 : H1 p = some (.dK []) := s1.keep p _ upd_same np
          have fp1n : F1 p = none := by
            cases e : F1 p with
            | none => rfl
            | some u =>
              rcases s1.frz p u e with ⟨o, h⟩ | h | h
              · rw [fp0] at h; cases h
              · exact absurd h np
              · rw [upd_same] at h; cases h
          have npq : p ∉ fq ++ fp1 := fun z => by
            rcases s1.new p z with h | h
            · exact np h
            · rw [upd_same] at h; cases h
          refine ⟨hp1, kvs, k1, by rw [← k2, List.length_map] at h15; exact h15, ?_⟩
          rw [merge_nodup kvs [] (fun _ _ z => nomatch z) (by rw [k2]; exact k3), List.nil_append]
          have kp : ∀ {a : Addr}, a ≠ p → ∀ u, H1 a = some u → upd H1 p (.dK kvs) a = some u := fun {a} ha u e => by rw [upd_ne ha]; exact e
          have nd : ((p :: fq) ++ fp1).Nodup := List.nodup_cons.mpr ⟨npq, n1⟩
          refine h (.ref p) F1 (upd H1 p (.dK kvs)) (p :: fq) fp1 ?_ nd (fun a ha => ?_) ⟨fun a u e => kp (fun h => by rw [h, fp1n] at e; cases e) u (st1.le a u e), st1.own.keep (Le.refl _) (fun a ha => kp fun h => npq (List.mem_append_right _ (h ▸ ha))), st1.nd, st1.out⟩
            (.k upd_same k2 (k4.keep (Le.refl _) fun a ha => kp fun h => npq (List.mem_append_left _ (h ▸ ha)))) fun z => ?_
          · have s2 : Stp F1 H1 (p :: (fq ++ fp1)) F1 (upd H1 p (.dK kvs)) (p :: (fq ++ fp1)) := ⟨Le.refl _, fun a u e hn => kp (fun h => hn (by rw [h]; exact List.mem_cons_self ..)) u e, fun a e => by
              by_cases ha : a = p
              · rw [ha, upd_same] at e; cases e
              · rw [upd_ne ha] at e; exact e, fun a ha => .inl ha, fun a u e => .inl ⟨u, e⟩⟩
            have s01 : Stp F H fp F1 H1 (p :: (fq ++ fp1)) := by
              refine ⟨(s0.trans0 s1).le, (s0.trans0 s1).keep, (s0.trans0 s1).dom, fun a ha => ?_, (s0.trans0 s1).frz⟩
              rcases List.mem_cons.mp ha with h | h
              · rw [h]; exact .inr hp
              · exact (s0.trans0 s1).new a h
            exact s01.trans0 s2
          · rcases List.mem_cons.mp ha with h | h
            · rw [h]; exact fp1n
            · exact o1 a h
          · obtain ⟨e1, e2, e3⟩ := pu1 z
            refine ⟨e1, e2, fun a ha u e => ?_⟩
            have hne : a ≠ p := fun h => np (h ▸ ha)
            exact kp hne u (e3 a ha u (keep_upd hp a u e))
        · exact h.elim
      · exact h.elim
end
end MV
/-! MvU: how defs stand behind the top, how calls bind, what is never reached, the law's end. -/
namespace MV
open PySem PySem.Spec PyProof.Rows L2
section
variable {g : G} {F F' F1 F2 H H' H1 H2 : Hp} {σ σ' : L2.St} {ρ ρ1 : Env} {fp fq fs fp1 fp2 fq1 fq2 : List Addr} {W : WX} {X : Cx} {P : List Nat}
/-! ### what the law's run never reaches -/
def nevE : M := fun _ => .bad
def nevB : MB := fun _ => .bad
def nevS : MS := fun _ => .bad
theorem de_never {e : Expr} : DE X g e nevE := fun W tk => ⟨fun ps s σ H Q I h => by
  obtain ⟨F, ρ, fp, st, h⟩ := h
  exact absurd h not_false⟩
theorem dt_never {e : Expr} : DT X g e nevB := fun W tk => ⟨fun ps s σ H Q I h => by
  obtain ⟨F, ρ, fp, st, h⟩ := h
  exact absurd h not_false⟩
theorem ds_never {e : Stmt} : DS X g P e nevS := fun W tk pa => ⟨fun ps s σ H Q I h => by
  obtain ⟨F, ρ, fp, st, h⟩ := h
  exact absurd h not_false⟩
end
/-! ### binding -/
section
variable {K : PySem.W.Frag} {fd : FuncData} {ps ks : List Str} {arr : Arr} {n : Nat}
def fillA : Arr → List Value → List (Sum Nat Value)
  | .inl i :: r, mv => .inl i :: fillA r mv
  | .inr _ :: r, v :: mv => .inr v :: fillA r mv
  | .inr _ :: r, [] => .inr .none :: fillA r []
  | [], _ => []
def misA : Arr → List PyData
  | .inl _ :: r => misA r
  | .inr x :: r => x :: misA r
  | [] => []
theorem fill_pair {m : Nat} : ∀ {arr : Arr} {mv : List Value}, (∀ a ∈ arr, (∃ i, a = .inl i ∧ i < m) ∨ ∃ x, a = .inr x ∧ scalD x = true) → Vals ((misA arr).map toV) mv →
    Paired (fun (a : Sum Nat PyData) (b : Sum Nat Value) => (∃ i, a = .inl i ∧ b = .inl i ∧ i < m) ∨ ∃ x u, a = .inr x ∧ b = .inr u ∧ scalD x = true ∧ RelV (toV x) u) arr (fillA arr mv)
  | [], _, _, _ => .nil
  | .inl i :: r, mv, h, q => by
    refine .cons (.inl ⟨i, rfl, rfl, ?_⟩) (fill_pair (fun a ha => h a (List.mem_cons_of_mem _ ha)) q)
    rcases h (.inl i) (List.mem_cons_self ..) with ⟨j, e, hj⟩ | ⟨x, e, _⟩
    · cases e; exact hj
    · cases e
  | .inr x :: r, mv, h, q => by
    have q : Vals (toV x :: (misA r).map toV) mv := q
    cases q with
    | @cons _ u _ us r1 rr =>
      refine .cons (.inr ⟨x, u, rfl, rfl, ?_, r1⟩) (fill_pair (fun a ha => h a (List.mem_cons_of_mem _ ha)) rr)
      rcases h (.inr x) (List.mem_cons_self ..) with ⟨j, e, hj⟩ | ⟨y, e, hs⟩
      · cases e
      · cases e; exact hs
variable {x qual : Str} {params : Arguments} {body : List Stmt} {scope : Scope} {dvs : List V} {kws : List (Str × V)} {f : Addr}
/-- every parameter is written -/
theorem bn_all (F : FunD K x qual params body scope [] kws f fd) (hm : misA arr = []) (har : ∀ a ∈ arr, (∃ i, a = .inl i ∧ i < n + ks.length) ∨ ∃ x, a = .inr x ∧ scalD x = true)
    (h : ∀ (kV doc pm : Value) (an : Option Addr) (cdv ct : Value) (us ws : List Value), us.length = n → ws.length = ks.length → bindArgs (PySem.W.fnOf x qual params body scope .none kV doc pm an cdv ct) ⟨us, ks.zip ws⟩ = pure (ps.zip (arrG id (us ++ ws) .none (fillA arr [])))) : Bn K fd ps n ks arr := by
  obtain ⟨oc, od, dV, kV, doc, pm, an, cdv, ct, osl, rfl, lk, hcd, hD, hK⟩ := F.ex
  rcases hD with ⟨_, rfl⟩ | ⟨e, _⟩
  · exact ⟨fillA arr [], fill_pair har (by rw [hm]; exact .nil), fun s us ws X l1 l2 => .of_eq (h kV doc pm an cdv ct us ws l1 l2)⟩
  · exact absurd rfl e
/-- keyword-only parameters lack: their defaults -/
theorem bn_kwd (F : FunD K x qual params body scope [] kws f fd) (ms : List (Str × V)) (hms : ∀ q ∈ ms, q ∈ kws) (hm : (misA arr).map toV = ms.map (·.2)) (h0 : kws ≠ []) (har : ∀ a ∈ arr, (∃ i, a = .inl i ∧ i < n + ks.length) ∨ ∃ x, a = .inr x ∧ scalD x = true)
    (h : ∀ (D : Addr) (doc pm : Value) (an : Option Addr) (cdv ct : Value) (us ws mv : List Value), us.length = n → ws.length = ks.length → mv.length = ms.length →
      KwChain D ((ms.map (·.1)).zip mv) (bindArgs (PySem.W.fnOf x qual params body scope .none (.ref D) doc pm an cdv ct) ⟨us, ks.zip ws⟩) (ps.zip (arrG id (us ++ ws) .none (fillA arr mv)))) : Bn K fd ps n ks arr := by
  obtain ⟨oc, od, dV, kV, doc, pm, an, cdv, ct, osl, rfl, lk, hcd, hD, hK⟩ := F.ex
  rcases hK with e | ⟨D, rfl, hq⟩
  · exact absurd e h0
  · obtain ⟨mv, hl, rk, hks⟩ := kwd_vals (ms := ms) fun q z => hq q (hms q z)
    rcases hD with ⟨_, rfl⟩ | ⟨e, _⟩
    · exact ⟨fillA arr mv, fill_pair har (by rw [hm]; exact rk), fun s us ws X l1 l2 => BindsTo.of_looks fun M => KwChain.looks X hks (h D doc pm an cdv ct us ws mv l1 l2 hl)⟩
    · exact absurd rfl e
end
section
variable {P : Program} {w : World} {K : PySem.W.Frag} {mg : Str → Option Value} {base : Heap} {g : G}
/-- def_ok for a def with its defaults -/
theorem fun_ok {x qual : Str} {params : Arguments} {body : List Stmt} {scope : Scope} {dvs : List V} {kws : List (Str × V)} {f : Addr} {fd : FuncData} {N ps : List Str} {k : Nat} {ms : List Md} {b : Env → R Fl} (F : FunD K x qual params body scope dvs kws f fd) (S : FnScope N ps scope) (hp : ps.length = ms.length)
    (h : ∀ (cdv : Value) (A : Around) (outer : List PySem.Env) (s : Shared) (H : Hp) (E : XK), Room k (A.deeper (PyProof.Rows.envOfC qual scope s.heap.objs.size f cdv)) → A.guards = some [] →
      DSs (cxOf (L2.CX P w) P w K mg base N qual scope f cdv A outer s H E) g (pins 0 ms) body b) : FnG P w K mg base (k + 1) f fd ps (spM g ms.length (runF N.length ms b)) := by
  obtain ⟨oc, od, dV, kV, doc, pm, an, cdv, ct, osl, rfl, lk, hcd, _, _⟩ := F.ex
  exact def_ok lk hcd S hp fun A outer s H E hr hg => h cdv A outer s H E hr hg
/-! ### the law's own call -/
theorem only_ok {a : Addr} {s : Shared} {vs : List Value} {ns : List Int} (KX : K.In s.heap) (ha : s.heap.get? a = some { cls := .type "list", data := .seq vs.toArray }) (hi : IntsAre vs ns) (hl : ns.length ≤ sizeLine) :
    ∃ H : Hp, SqL K H a (ns.map V.int) ∧ HOk P w H s.heap ∧ (∀ b, H b = none ∨ ∃ o xs, H b = some (.frz o (.lst xs))) ∧ (∀ b, H b ≠ none → b = a) ∧ (H a ≠ none → K.lookup a = none) := by
  have rv := vals_ints hi
  have lv := hi.length
  cases hk : K.lookup a with
  | some o =>
    have e := KX a o hk
    rw [ha] at e
    cases e
    refine ⟨fun _ => none, .inr ⟨_, vs.toArray, _, hk, rfl, rfl, rfl, by rw [List.size_toArray, lv]; exact hl, by simpa using rv⟩, fun b u z => ?_, fun _ => .inl rfl, fun _ z => absurd rfl z, fun z => absurd rfl z⟩
    exact nomatch (show (none : Option HO) = some u from z)
  | none =>
    have at1 : ∀ b, b = a → (fun b : Addr => if b = a then some (HO.frz { cls := .type "list", data := .seq vs.toArray } (.lst (ns.map V.int))) else none) b = some (HO.frz { cls := .type "list", data := .seq vs.toArray } (.lst (ns.map V.int))) := fun b h => if_pos h
    have at2 : ∀ b, ¬ b = a → (fun b : Addr => if b = a then some (HO.frz { cls := .type "list", data := .seq vs.toArray } (.lst (ns.map V.int))) else none) b = none := fun b h => if_neg h
    refine ⟨fun b => if b = a then some (.frz { cls := .type "list", data := .seq vs.toArray } (.lst (ns.map V.int))) else none, .inl (.inr ⟨_, at1 a rfl⟩), fun b u z => ?_, fun b => ?_, fun b z => ?_, fun _ => rfl⟩
    · by_cases h : b = a
      · have e := (at1 b h).symm.trans z
        cases e
        subst h
        exact ⟨ha, by rw [List.length_map]; exact hl, vs, _, rv, ha⟩
      · have e := (at2 b h).symm.trans z
        cases e
    · by_cases h : b = a
      · exact .inr ⟨_, _, at1 b h⟩
      · exact .inl (at2 b h)
    · by_cases h : b = a
      · exact h
      · exact absurd (at2 b h) z
theorem law_run {mb : Str → Option Value} {k : Nat} {fa a : Addr} {fd : FuncData} {x : Str} {m : List T → RF} {s : Shared} {vs : List Value} {ns : List Int} {os : Env}
    (KX : K.In s.heap) (hns : s.heap.Ns mainGlobals mg) (hb : s.heap.Ns builtinsNs mb) (hbb : ∀ x : Str, x ≠ "__name__" → mb x = bootBuiltins x) (hlim : s.heap.NoLimit) (hg : s.gens = #[])
    (ha : s.heap.get? a = some { cls := .type "list", data := .seq vs.toArray }) (hi : IntsAre vs ns) (hl : ns.length ≤ sizeLine) (hr : Room k callerA) (hK : g.K = K)
    (F : ∀ base : Heap, K.In base → base.Ns mainGlobals mg → FnG P w K mg base k fa fd [x] (spM g 1 m)) (hbind : ∀ (s : Shared) (u : Value), BindsTo s fd ⟨[u], []⟩ [(x, u)])
    (hm : m [.scr ns] = .ret (.d (.bool true)) os) :
    codeAny (model P w) callerA (.call (.ref fa) ⟨[.ref a], []⟩) (fun r s' => r = .ok (.ret (.bool true)) ∧ OldK s.heap s'.heap ∧ s'.os = s.os ∧ AllBare s'.gens) s := by
  obtain ⟨H, hS, hok, hO, hA, hN⟩ := only_ok (P := P) (w := w) KX ha hi hl
  have away : ∀ {b : Addr} {o : Obj}, s.heap.get? b = some o → (b = a → False) → (hidT s.heap H).get? b = some o := fun {b o} e n => hidT_get e (Classical.byContradiction fun q => n (hA b q))
  have dict : ∀ {b : Addr} {q : Str → Option Value}, s.heap.Ns b q → (hidT s.heap H).Ns b q := fun {b q} ⟨o, es, ep, e, d, r⟩ => ⟨o, es, ep, away e (fun h => by
    subst h
    rw [ha] at e
    cases e
    have d : Data.seq vs.toArray _ = Data.dict es ep := d
    cases d), d, r⟩
  have kin : K.In (hidT s.heap H) := fun b o e => hidT_get (KX b o e) (Classical.byContradiction fun q => by
    have h := hA b q
    subst h
    rw [hN q] at e
    cases e)
  have mod : Mod K mg (hidT s.heap H) := ⟨kin, dict hns, ⟨mb, dict hb, hbb⟩, let ⟨mc, h1, h2⟩ := hlim; ⟨mc, dict h1, h2⟩⟩
  have e0 : Env0 P w K mg (hidT s.heap H) callerA [] s H := ⟨rfl, mod, fun b o e => of_hidT e, Nat.le_of_eq (hidT_size _ _), trivial, (fun b z => nomatch z), hok, .of_eq hg⟩
  have sp : spM g 1 m [.ref a] H (fun v _ => v = .bl true) (fun _ _ _ => False) := by
    refine ⟨rfl, H, [.scr ns], [], Le.refl H, OwnL.cons (fp := []) (.scr (by rw [hK]; exact hS)) .nil, List.nodup_nil, (fun _ z => nomatch z), ?_⟩
    rw [hm]
    intro v F' H' fq fo s1 le nd ho o os
    have is := own_d_is (show Own g F' H' v (.d (.bool true)) fq from o)
    cases is
    rfl
  have run := (F _ kin (dict hns)).run callerA [] s H ⟨[.ref a], []⟩ [.ref a] [.ref a] _ _ hr rfl e0 (hbind s (.ref a)) (.cons rfl .nil) sp
  refine codeAny_mono run fun r s' h => ?_
  cases r with
  | error e =>
    obtain ⟨_, _, _, _, _, _, _, _, _, _, _, _, z⟩ := h
    exact absurd z not_false
  | ok fl =>
    cases fl with
    | next => exact absurd h not_false
    | brk => exact absurd h not_false
    | cont => exact absurd h not_false
    | ret u =>
      obtain ⟨v, H', eos, bare, un, hok', rv, q⟩ := h
      have q : v = .bl true := q
      subst q
      have rv : u = Value.bool true := rv
      subst rv
      refine ⟨rfl, OldK.of_keep fun b o e => ?_, eos, bare⟩
      rcases hO b with z | ⟨ob, xs, z⟩
      · exact un.keep b o e z (fun h => nomatch h) (fun h => nomatch h)
      · obtain ⟨e1, _⟩ := hok b _ z
        obtain ⟨e2, _⟩ := hok' b _ (un.frzs b ob _ z)
        rw [e] at e1
        cases e1
        exact e2
/-- the law by its mirror -/
theorem walk_end {l : PySem.W.OpenLaw} {k : Nat} {q : Program} {loose : List Str} {XP : (Str → Option Value) → Heap → Prop} {YP : World → Heap → Prop} {d : DefRec} {K : Params → PySem.W.Frag} {x : Str} {adr : World → (Str → Option Value) → String → Addr} {m : World → (Str → Option Value) → List T → RF}
    (hn : l.most = some 63) (hdf : d.params.defaults = []) (hr : Room k callerA) (hY : ∀ (w : World) (h : Heap), YP w h → (K w.params).In h)
    (F : ∀ (w : World) (mg : Str → Option Value) (fa : Addr) (h : Heap), (K w.params).In h → h.Ns mainGlobals mg → mg d.name = some (.ref fa) →
      ∃ fd : FuncData, (∀ (s : Shared) (u : Value), BindsTo s fd ⟨[u], []⟩ [(x, u)]) ∧ ∀ base : Heap, (K w.params).In base → base.Ns mainGlobals mg → FnG l.prog w (K w.params) mg base k fa fd [x] (spM ⟨K w.params, adr w mg⟩ 1 (m w mg)))
    (hm : ∀ (w : World) (mg : Str → Option Value) (ns : List Int), ns.length ≤ 63 → ∃ os, m w mg [.scr ns] = .ret (.d (.bool true)) os) : PySem.W.WalkO q loose XP YP l.row.toRowW d [] (fun f vs => PySem.call f vs) := by
  refine Att.attach_call hn hdf fun w s₀ s₁ mg mb fa o pm cd doc a vs ns Gr Y ho hd hcd hmg hobj hints hlen hgen => ?_
  have KX := hY w _ Y
  obtain ⟨fd, hb, hF⟩ := F w mg fa _ KX Gr.T.g hmg
  obtain ⟨os, e⟩ := hm w mg ns hlen
  exact law_run (g := ⟨K w.params, adr w mg⟩) KX Gr.T.g Gr.T.b Gr.T.builtins Gr.T.nolimit hgen hobj hints (Nat.le_trans hlen (by decide)) hr rfl hF hb e
end
end MV
/-! MvV: the rules by the names that a printed walk uses. -/
namespace MV
open PySem L2
section
variable {g : G} {F F' F1 F2 H H' H1 H2 : Hp} {σ σ' : L2.St} {ρ ρ1 : Env} {fp fq fs fp1 fp2 fq1 fq2 : List Addr} {W : WX} {X : Cx} {P : List Nat}
section
variable {a b e o : Expr} {es : List Expr} {m n : M} {ms : Env → R (List Op)} {p pos : Pos} {k : Nat}
theorem de_add (ha : DE X g a m) (hb : DE X g b n) (hK : X.K = g.K := by rfl) : DE X g (.BinOp a .Add b pos) (m2 fAdd m n) := de_bin (hK ▸ op_addX) opN_add ha hb
theorem de_gI {x : Str} {i : Int} (hm : ∃ t, X.mg x = some (.int i t)) (hg : Gl X x := by rfl) (hd : (x == ("__debug__" : Str)) = false := by decide) : DE X g (.Name x pos) (mD (.int i)) := let ⟨t, h⟩ := hm; de_globI h ⟨t, rfl⟩ hg hd
theorem de_gS {x : Str} {i : Str} (hm : ∃ t, X.mg x = some (.str i t)) (hg : Gl X x := by rfl) (hd : (x == ("__debug__" : Str)) = false := by decide) : DE X g (.Name x pos) (mD (.str i)) := let ⟨t, h⟩ := hm; de_globS h ⟨t, rfl⟩ hg hd
theorem de_len (hm : X.mg "len" = none) (ha : DA X g [e] ms) (hK : X.K = g.K := by rfl) (hg : Gl X "len" := by rfl) (he : starEach [e] X.env = (false, eval e X.env) :: starEach [] X.env := by rfl) (hpl : (backTo pos (starEach [] X.env)).any (·.1) = false := by rfl) : DE X g (.Call (.Name "len" p) [e] [] pos) (mOpN fLen ms) :=
  de_callB (hK ▸ call_lenX) opN_len hm PySem.boot_len ha hg (by decide) (by decide) he hpl
theorem de_abs (hm : X.mg "abs" = none) (ha : DA X g [e] ms) (hg : Gl X "abs" := by rfl) (he : starEach [e] X.env = (false, eval e X.env) :: starEach [] X.env := by rfl) (hpl : (backTo pos (starEach [] X.env)).any (·.1) = false := by rfl) : DE X g (.Call (.Name "abs" p) [e] [] pos) (mOpN (fD hAbs) ms) :=
  de_callB call_abs opN_abs hm PyProof.Rows.boot_abs ha hg (by decide) (by decide) he hpl
theorem de_max2 (hc : X.calm = true) (hm : X.mg "max" = none) (ha : DA X g [a, b] ms) (hg : Gl X "max" := by rfl) (he : starEach [a, b] X.env = (false, eval a X.env) :: starEach [b] X.env := by rfl) (hpl : (backTo pos (starEach [b] X.env)).any (·.1) = false := by rfl) : DE X g (.Call (.Name "max" p) [a, b] [] pos) (mOpN (fD hMax2) ms) :=
  de_callB (call_max2 hc) opN_2F hm PyProof.Rows.boot_max ha hg (by decide) (by decide) he hpl
theorem de_min2 (hc : X.calm = true) (hm : X.mg "min" = none) (ha : DA X g [a, b] ms) (hg : Gl X "min" := by rfl) (he : starEach [a, b] X.env = (false, eval a X.env) :: starEach [b] X.env := by rfl) (hpl : (backTo pos (starEach [b] X.env)).any (·.1) = false := by rfl) : DE X g (.Call (.Name "min" p) [a, b] [] pos) (mOpN (fD hMin2) ms) :=
  de_callB (call_min2 hc) opN_2F hm PyProof.Rows.boot_min ha hg (by decide) (by decide) he hpl
theorem de_divmod (hm : X.mg "divmod" = none) (ha : DA X g [a, b] ms) (hg : Gl X "divmod" := by rfl) (he : starEach [a, b] X.env = (false, eval a X.env) :: starEach [b] X.env := by rfl) (hpl : (backTo pos (starEach [b] X.env)).any (·.1) = false := by rfl) : DE X g (.Call (.Name "divmod" p) [a, b] [] pos) (mOpN fDivmod ms) :=
  de_callB call_divmodW opN_divmod hm PyProof.Rows.boot_divmod ha hg (by decide) (by decide) he hpl
theorem de_all (hc : X.calm = true) (hm : X.mg "all" = none) (ha : DA X g [e] ms) (hK : X.K = g.K := by rfl) (hg : Gl X "all" := by rfl) (he : starEach [e] X.env = (false, eval e X.env) :: starEach [] X.env := by rfl) (hpl : (backTo pos (starEach [] X.env)).any (·.1) = false := by rfl) : DE X g (.Call (.Name "all" p) [e] [] pos) (mOpN (fD (hBls fun bs => bs.all id)) ms) :=
  de_callB (hK ▸ cr_all hc) opN_bls hm PyProof.Rows.boot_all ha hg (by decide) (by decide) he hpl
theorem de_any (hc : X.calm = true) (hm : X.mg "any" = none) (ha : DA X g [e] ms) (hK : X.K = g.K := by rfl) (hg : Gl X "any" := by rfl) (he : starEach [e] X.env = (false, eval e X.env) :: starEach [] X.env := by rfl) (hpl : (backTo pos (starEach [] X.env)).any (·.1) = false := by rfl) : DE X g (.Call (.Name "any" p) [e] [] pos) (mOpN (fD (hBls fun bs => bs.any id)) ms) :=
  de_callB (hK ▸ cr_any hc) opN_bls hm PyProof.Rows.boot_any ha hg (by decide) (by decide) he hpl
theorem de_sum (hc : X.calm = true) (hm : X.mg "sum" = none) (ha : DA X g [e] ms) (hK : X.K = g.K := by rfl) (hg : Gl X "sum" := by rfl) (he : starEach [e] X.env = (false, eval e X.env) :: starEach [] X.env := by rfl) (hpl : (backTo pos (starEach [] X.env)).any (·.1) = false := by rfl) : DE X g (.Call (.Name "sum" p) [e] [] pos) (mOpN (fD (hInts fun ns => some ns.sum)) ms) :=
  de_callB (hK ▸ cr_sum hc) opN_sum hm PyProof.Rows.boot_sum ha hg (by decide) (by decide) he hpl
theorem de_maxL (hc : X.calm = true) (hm : X.mg "max" = none) (ha : DA X g [e] ms) (hK : X.K = g.K := by rfl) (hg : Gl X "max" := by rfl) (he : starEach [e] X.env = (false, eval e X.env) :: starEach [] X.env := by rfl) (hpl : (backTo pos (starEach [] X.env)).any (·.1) = false := by rfl) : DE X g (.Call (.Name "max" p) [e] [] pos) (mOpN (fD (hInts List.max?)) ms) :=
  de_callB (hK ▸ cr_max hc) opN_maxL hm PyProof.Rows.boot_max ha hg (by decide) (by decide) he hpl
theorem de_minL (hc : X.calm = true) (hm : X.mg "min" = none) (ha : DA X g [e] ms) (hK : X.K = g.K := by rfl) (hg : Gl X "min" := by rfl) (he : starEach [e] X.env = (false, eval e X.env) :: starEach [] X.env := by rfl) (hpl : (backTo pos (starEach [] X.env)).any (·.1) = false := by rfl) : DE X g (.Call (.Name "min" p) [e] [] pos) (mOpN (fD (hInts List.min?)) ms) :=
  de_callB (hK ▸ cr_min hc) opN_minL hm PyProof.Rows.boot_min ha hg (by decide) (by decide) he hpl
theorem de_repr (hgd : X.A.guards = some []) (hu : X.A.units + 100 < cLine) (hm : X.mg "repr" = none) (ha : DA X g [e] ms) (hK : X.K = g.K := by rfl) (hg : Gl X "repr" := by rfl) (he : starEach [e] X.env = (false, eval e X.env) :: starEach [] X.env := by rfl) (hpl : (backTo pos (starEach [] X.env)).any (·.1) = false := by rfl) : DE X g (.Call (.Name "repr" p) [e] [] pos) (mOpN (fD hRepr) ms) :=
  de_callB (hK ▸ call_repr hgd hu) opN_repr hm PyProof.Rows.boot_repr ha hg (by decide) (by decide) he hpl
theorem de_isi (kt : KitTy g.K) (hm : X.mg "isinstance" = none) (ha : DA X g [a, b] ms) (hK : X.K = g.K := by rfl) (hg : Gl X "isinstance" := by rfl) (he : starEach [a, b] X.env = (false, eval a X.env) :: starEach [b] X.env := by rfl) (hpl : (backTo pos (starEach [b] X.env)).any (·.1) = false := by rfl) : DE X g (.Call (.Name "isinstance" p) [a, b] [] pos) (mOpN fIsi ms) :=
  de_callB (hK ▸ callr_or call_isi call_isiT) (opN_isi kt) hm PyProof.Rows.boot_isinstance ha hg (by decide) (by decide) he hpl
theorem de_int1 (hm : X.mg "int" = none) (ha : DA X g [e] ms) (hg : Gl X "int" := by rfl) (he : starEach [e] X.env = (false, eval e X.env) :: starEach [] X.env := by rfl) (hpl : (backTo pos (starEach [] X.env)).any (·.1) = false := by rfl) : DE X g (.Call (.Name "int" p) [e] [] pos) (mOpN (fD hInt1) ms) :=
  de_callTy call_int1 opN_int1 hm PyProof.Rows.boot_int ha hg (by decide) (by decide) he hpl
theorem de_list (hm : X.mg "list" = none) (ha : DA X g [e] ms) (hK : X.K = g.K := by rfl) (hg : Gl X "list" := by rfl) (he : starEach [e] X.env = (false, eval e X.env) :: starEach [] X.env := by rfl) (hpl : (backTo pos (starEach [] X.env)).any (·.1) = false := by rfl) : DE X g (.Call (.Name "list" p) [e] [] pos) (mOpN fList ms) :=
  de_callTy (hK ▸ call_list_of) opN_list hm PyProof.Rows.boot_list ha hg (by decide) (by decide) he hpl
theorem de_tuple (hm : X.mg "tuple" = none) (ha : DA X g [e] ms) (hK : X.K = g.K := by rfl) (hg : Gl X "tuple" := by rfl) (he : starEach [e] X.env = (false, eval e X.env) :: starEach [] X.env := by rfl) (hpl : (backTo pos (starEach [] X.env)).any (·.1) = false := by rfl) : DE X g (.Call (.Name "tuple" p) [e] [] pos) (mOpN fTuple ms) :=
  de_callTy (hK ▸ call_tuple_of) opN_tuple hm PyProof.Rows.boot_tuple ha hg (by decide) (by decide) he hpl
end
/-! ### a, b = x, y: plain local names -/
def mPar (P : List Nat) (i j : Nat) (ms : Env → R (List Op)) : MS := fun ρ => match ms ρ with
  | .ok [.tm t, .tm u] ρ1 _ => if (!P.contains i && !P.contains j && decide (i < ρ1.length) && decide (j < ρ1.length)) = true then .ok .nx ((ρ1.set i (some t)).set j (some u)) true else .bad
  | .ok _ _ _ => .bad
  | .exc c n d ρ' => .exc c n d ρ'
  | .bad => .bad
theorem sof_par {i j : Nat} {ms : Env → R (List Op)} {D : Ends} (h : SOf g W P (mPar P i j ms) D σ H) : tPar i j (AOf g W ms) D σ H := by
  obtain ⟨F, ρ, fp, st, h⟩ := h
  refine ⟨F, ρ, fp, st, ?_⟩
  unfold mPar at h
  cases hm : ms ρ with
  | bad => rw [hm] at h; exact h
  | exc c n d ρ' =>
    rw [hm] at h
    exact fun d' F2 H2 fp2 s2 st2 ex => h d' σ F2 H2 fp2 s2 st2 ex (Agree.refl P σ)
  | ok os ρ1 p =>
    rw [hm] at h
    intro vs F1 H1 fq fp1 s1 nd ho st1 op pu
    split at h
    · rename_i t u _ _ e
      cases e
      split at h
      · rename_i hc
        simp only [Bool.and_eq_true, Bool.not_eq_true', List.contains_eq_mem, decide_eq_false_iff_not, decide_eq_true_eq] at hc
        obtain ⟨⟨⟨c1, c2⟩, c3⟩, c4⟩ := hc
        cases op with
        | @cons _ _ v _ f0 fr o1 q =>
          cases q with
          | @cons _ _ w _ f1 fr2 o2 q =>
            cases q
            have o1 : Own g F1 H1 v t f0 := o1
            have o2 : Own g F1 H1 w u f1 := o2
            rw [List.append_nil] at nd ho s1
            have nd' : (f0 ++ (f1 ++ fp1)).Nodup := by rw [← List.append_assoc]; exact nd
            obtain ⟨n1, n2, n3⟩ := List.nodup_append.mp nd'
            obtain ⟨n4, n5, n6⟩ := List.nodup_append.mp n2
            obtain ⟨fa, k1, k2⟩ := st1.store c3 o1 (List.nodup_append.mpr ⟨n1, n5, fun a ha b hb => n3 a ha b (List.mem_append_right _ hb)⟩) fun a ha => ho a (List.mem_append_left _ ha)
            have dj : ∀ a ∈ f1, ∀ b ∈ fa, a ≠ b := fun a ha b hb e => by
              rcases List.mem_append.mp (k1 b hb) with h | h
              · exact n3 b h a (List.mem_append_left _ ha) e.symm
              · exact n6 a ha b h e
            obtain ⟨fb, k3, k4⟩ := k2.store (by rw [List.length_set]; exact c4) o2 (List.nodup_append.mpr ⟨n4, k2.nd, dj⟩) fun a ha => ho a (List.mem_append_right _ ha)
            refine ⟨v, w, rfl, h _ F1 H1 fb (s1.wid (fun _ z => z) fun a ha => .inl ?_) k4 fun l hl => ?_⟩
            · simp only [List.mem_append]
              rcases List.mem_append.mp (k3 a ha) with h | h
              · exact .inl (.inr h)
              · rcases List.mem_append.mp (k1 a h) with h | h
                · exact .inl (.inl h)
                · exact .inr h
            · have e1 : i ≠ l := fun e => c1 (by rw [e]; exact hl)
              have e2 : j ≠ l := fun e => c2 (by rw [e]; exact hl)
              rw [List.getElem?_set_ne e2, List.getElem?_set_ne e1]
      · exact h.elim
    · exact h.elim
    · rename_i e; cases e
    · rename_i e; cases e
theorem ds_par {i j : Nat} {x y : Str} {a b : Expr} {ms : Env → R (List Op)} {px py pt pos : Pos} {kt k2 pt2} (hc : X.calm = true) (hN : X.N.Nodup) (ha : DA X g [a, b] ms) (hi : X.N[i]? = some x := by rfl) (hj : X.N[j]? = some y := by rfl) (hij : i ≠ j := by decide)
    (hx : X.env.scope.names.lookup x = some .local := by rfl) (hy : X.env.scope.names.lookup y = some .local := by rfl)
    (hw : swappedStores [.Tuple [.Name x px, .Name y py] kt pt] (.Tuple [a, b] k2 pt2) X.env = pure (some [x, y]) := by rfl) (hs : swapsWithSole [.Tuple [.Name x px, .Name y py] kt pt] (.Tuple [a, b] k2 pt2) pos.line X.env = pure false := by rfl) :
    DS X g P (.Assign [.Tuple [.Name x px, .Name y py] kt pt] (.Tuple [a, b] k2 pt2) pos) (mPar P i j ms) := fun W tk pa => ps_imp (ps_par hc hN hi hj hij hx hy (ha W tk) hw hs) fun _ _ _ q => sof_par q
end
/-! ### small tests -/
def arrOk (m : Nat) (arr : Arr) : Bool := arr.all fun a => match a with
  | .inl i => decide (i < m)
  | .inr x => scalD x
theorem arr_ok {m : Nat} {arr : Arr} (h : arrOk m arr = true) : ∀ a ∈ arr, (∃ i, a = .inl i ∧ i < m) ∨ ∃ x, a = .inr x ∧ scalD x = true := fun a ha => by
  have := List.all_eq_true.mp h a ha
  cases a with
  | inl i => exact .inl ⟨i, rfl, of_decide_eq_true this⟩
  | inr x => exact .inr ⟨x, rfl, this⟩
theorem kitTy (K : PySem.W.Frag) : KitTy K := by
  intro t ht u hu
  simp only [tys, List.mem_cons, List.not_mem_nil, or_false] at ht hu
  rcases ht with h | h | h | h | h | h | h <;> rcases hu with k | k | k | k | k | k | k <;> subst h <;> subst k <;> rfl
def covers (n : Nat) (vs P : List Nat) : Bool := (List.range n).all fun j => vs.contains j || P.contains j
theorem covers_ok {n : Nat} {vs P : List Nat} (h : covers n vs P = true) : ∀ j, j < n → j ∈ vs ∨ j ∈ P := fun j hj => by
  have := List.all_eq_true.mp h j (List.mem_range.mpr hj)
  simpa [List.contains_eq_mem] using this
end MV
namespace MV
open PySem L2
section
variable {g : G} {H : Hp} {σ : L2.St} {W : WX} {X : Cx} {P : List Nat}
theorem eof_sh {m : M} {b : Bool} {Q : VK} (h : EOf g W (mSh b m) σ H Q) : EOf g W m σ H Q := by
  obtain ⟨F, ρ, fp, st, h⟩ := h
  refine ⟨F, ρ, fp, st, ?_⟩
  unfold mSh at h
  cases e : m ρ with
  | bad => rw [e] at h; exact h
  | exc c n d ρ' => rw [e] at h; exact h
  | ok o ρ1 p =>
    rw [e] at h
    intro v F1 H1 fq fp1 s1 n1 o1 st1 op1 pu1
    refine share_ok (W := W) (b := b) st1 op1 n1 o1 ?_
    dsimp only at h
    cases hs : share b ρ1 o with
    | bad => rw [hs] at h; exact h
    | exc c n d ρ' =>
      rw [hs] at h
      exact fun d' F2 H2 fp2 s2 st2 ex => h d' F2 H2 fp2 (s1.trans0 s2) st2 ex
    | ok o' ρ2 q =>
      rw [hs] at h
      intro v F2 H2 fq2 fp2 s2 n2 o2 st2 op2 pu2
      refine h v F2 H2 fq2 fp2 (s1.trans0 s2) n2 o2 st2 op2 fun z => ?_
      rw [Bool.and_eq_true] at z
      exact (pu1 z.1).trans (pu2 z.2)
section
variable {elt tg iter : Expr} {ifs : List Expr} {scope : Scope} {own : List (Str × Nat)} {pos : Pos} {n : Nat} {vs : List Nat} {mi : MI} {mg : MG} {mt : MB} {me : M}
/-- name = [..], shared at once where b says so -/
theorem ds_lcS {P0 : List Nat} {i : Nat} {y : Str} {py spos : Pos} (b : Bool) (hc : X.calm = true) (hN : X.N.Nodup) (ok : BlkOk X.N X.env.scope scope own) (hvs : own.map (·.2) = vs) (hP : ∀ j, j < n → j ∈ vs ∨ j ∈ P) (hi : DI X g tg iter mi)
    (hg : ∀ (s : Shared) (H : Hp) (C : Addr) (cl : List (Str × Addr)) (fp : List Addr), DG (X.blk s H scope (compEnvC scope cl C X.env) fp) g P tg mg) (ht : ∀ (s : Shared) (H : Hp) (C : Addr) (cl : List (Str × Addr)) (fp : List Addr), DTs (X.blk s H scope (compEnvC scope cl C X.env) fp) g ifs mt)
    (he : ∀ (s : Shared) (H : Hp) (C : Addr) (cl : List (Str × Addr)) (fp : List Addr), DE (X.blk s H scope (compEnvC scope cl C X.env) fp) g elt me) (hy : X.N[i]? = some y := by rfl) (hyl : X.env.scope.names.lookup y = some .local := by rfl)
    (hsw : swapsWith (.ListComp elt [⟨tg, iter, ifs, 0⟩] scope pos) (some (.Name y py)) spos.line X.env = pure true := by exact sw_true rfl rfl rfl rfl) (hs : ∀ x, foldedSetIterable iter X.env x = pure x := by intro _; rfl) :
    DS X g P0 (.Assign [.Name y py] (.ListComp elt [⟨tg, iter, ifs, 0⟩] scope pos) spos) (mAsg P0 i (mSh b (mLc n vs mi mg mt me))) := fun W tk pa =>
  ps_imp (ps_setLc hc hN hy hyl hsw (hi W tk) ok (fun s H C cl fp => hg s H C cl fp noW takes_no) (fun s H C cl fp => ht s H C cl fp noW takes_no) (fun s H C cl fp => he s H C cl fp noW takes_no) hs) fun D σ H h => by
    rw [hvs]
    have h2 := sof_asg h
    exact eof_lc hP (eof_sh h2)
end
/-- how a def without positional defaults stands behind the top -/
theorem funD_mk {K : PySem.W.Frag} {x : Str} {st : Stmt} {f : Addr} {oc kV doc pm cdv ct : Value} {od an : Option Addr} {osl : Array (Option Value)} {kws : List (Str × V)} (l : K.lookup f = some ⟨oc, od, .func (PySem.W.fnOf x x (defArgs st) (defBody st) (defScope st) .none kV doc pm an cdv ct), osl⟩)
    (c : PySem.W.codeIn K cdv x = true) (k : PySem.W.keepIn K (.ref f) = true) (hk : KwdV K kV kws) : FunD K x x (defArgs st) (defBody st) (defScope st) [] kws f (PySem.W.fnOf x x (defArgs st) (defBody st) (defScope st) .none kV doc pm an cdv ct) :=
  ⟨⟨oc, od, .none, kV, doc, pm, an, cdv, ct, osl, rfl, l, c, .inl ⟨rfl, rfl⟩, hk⟩, k⟩
end
end MV
/-! MvX: plain laws about mirrors: how long shown data is, comprehensions and loops by an invariant, sizes of ints. -/
namespace MV
open PySem L2
/-! ### how long data is when it is shown -/
mutual
def big : PyData → Nat
  | .none => 4
  | .bool _ => 5
  | .int i => i.natAbs.log2 + 2
  | .str x => 10 * x.length + 2
  | .list xs => bigAll xs + 2
  | .tuple xs => bigAll xs + 3
  | .dict kvs => bigKv kvs + 2
def bigAll : List PyData → Nat
  | [] => 0
  | x :: xs => big x + 2 + bigAll xs
def bigKv : List (PyData × PyData) → Nat
  | [] => 0
  | (k, v) :: r => big k + big v + 4 + bigKv r
end
mutual
def fine : PyData → Bool
  | .none | .bool _ => true
  | .int i => decide (i.natAbs.log2 < 1920)
  | .str x => x.cps.toList.all fun c => decide (c < 16 ^ 8)
  | .list xs => fineAll xs
  | .tuple xs => fineAll xs
  | .dict kvs => fineKv kvs
def fineAll : List PyData → Bool
  | [] => true
  | x :: xs => fine x && fineAll xs
def fineKv : List (PyData × PyData) → Bool
  | [] => true
  | (k, v) :: r => fine k && fine v && fineKv r
end
theorem piled_list (ts : List Str) : (listText ts).length ≤ piled ts + 2 := by
  cases ts with
  | nil => rw [listText_nil]; decide
  | cons t r =>
    have h := textFrom_length_pos r 1 (("[" : Str) ++ (if (0 : Nat) > 0 then ", " else "" : String) ++ t) Nat.one_pos
    have e1 : ((("[" : Str) ++ (if (0 : Nat) > 0 then ", " else "" : String) ++ t)).length = 1 + t.length := by
      rw [strLen_append, strLen_append]; rfl
    have e2 : (listText (t :: r)).length = (textFrom 1 (("[" : Str) ++ (if (0 : Nat) > 0 then ", " else "" : String) ++ t) r).length + 1 := by
      show (textFrom 1 (("[" : Str) ++ (if (0 : Nat) > 0 then ", " else "" : String) ++ t) r ++ "]").length = _
      rw [strLen_append]; rfl
    rw [e2, h, e1, piled_cons]
    omega
theorem piled_join (ts : List Str) : (Str.join ", " ts).length ≤ piled ts := by
  cases ts with
  | nil => exact Nat.zero_le _
  | cons t r =>
    have := join_length_add (t :: r) (List.cons_ne_nil _ _)
    omega
theorem piled_tuple (ts : List Str) : (tupleText ts).length ≤ piled ts + 3 := by
  have h := piled_join ts
  unfold tupleText
  rw [strLen_append, strLen_append]
  have e1 : ((("(" : String) : Str)).length = 1 := rfl
  have e3 : (((if ts.length == 1 then ",)" else ")" : String) : Str)).length ≤ 2 := by split <;> decide
  omega
theorem piled_dict (ts : List Str) : (dictText ts).length ≤ piled ts + 2 := by
  have h := piled_join ts
  unfold dictText
  rw [strLen_append, strLen_append]
  have e1 : ((("{" : String) : Str)).length = 1 := rfl
  have e3 : ((("}" : String) : Str)).length = 1 := rfl
  omega
mutual
theorem fine_ok : ∀ {d : PyData}, fine d = true → d.showable = true ∧ d.shown.length ≤ big d
  | .none, _ => ⟨by simp [PyData.showable], by simp only [PyData.shown, big]; decide⟩
  | .bool b, _ => ⟨by simp [PyData.showable], by cases b <;> (simp only [PyData.shown, big]; decide)⟩
  | .int i, h => by
    have h : i.natAbs.log2 < 1920 := by simpa [fine] using h
    refine ⟨by simpa [PyData.showable] using h, ?_⟩
    simp only [PyData.shown, big]
    have := int_text_length_le (a := i) (k := i.natAbs.log2 + 1) (Nat.succ_pos _) (Nat.lt_succ_self _)
    have e : (toString i : Str).length = (toString i).length := ofString_length _
    rw [e]
    omega
  | .str x, h => by
    have h : ∀ c ∈ x.cps.toList, c < 16 ^ 8 := fun c hc => by
      have := List.all_eq_true.mp (show (x.cps.toList.all fun c => decide (c < 16 ^ 8)) = true by simpa only [fine] using h) c hc
      exact of_decide_eq_true this
    refine ⟨by simp [PyData.showable], ?_⟩
    simp only [PyData.shown, big]
    exact PySem.StrLaws.reprText_len x h
  | .list xs, h => by
    obtain ⟨h1, h2⟩ := fine_all (show fineAll xs = true by simpa only [fine] using h)
    refine ⟨by simpa only [PyData.showable] using h1, ?_⟩
    simp only [PyData.shown, big]
    exact Nat.le_trans (piled_list _) (Nat.add_le_add_right h2 _)
  | .tuple xs, h => by
    obtain ⟨h1, h2⟩ := fine_all (show fineAll xs = true by simpa only [fine] using h)
    refine ⟨by simpa only [PyData.showable] using h1, ?_⟩
    simp only [PyData.shown, big]
    exact Nat.le_trans (piled_tuple _) (Nat.add_le_add_right h2 _)
  | .dict kvs, h => by
    obtain ⟨h1, h2⟩ := fine_kv (show fineKv kvs = true by simpa only [fine] using h)
    refine ⟨by simpa only [PyData.showable] using h1, ?_⟩
    simp only [PyData.shown, big]
    exact Nat.le_trans (piled_dict _) (Nat.add_le_add_right h2 _)
theorem fine_all : ∀ {ds : List PyData}, fineAll ds = true → PyData.showableAll ds = true ∧ piled (PyData.shownAll ds) ≤ bigAll ds
  | [], _ => ⟨by simp [PyData.showableAll], by simp [PyData.shownAll, piled, bigAll]⟩
  | d :: ds, h => by
    simp only [fineAll, Bool.and_eq_true] at h
    obtain ⟨h1, h2⟩ := fine_ok h.1
    obtain ⟨h3, h4⟩ := fine_all h.2
    refine ⟨by simp [PyData.showableAll, h1, h3], ?_⟩
    simp only [PyData.shownAll, piled_cons, bigAll]
    omega
theorem fine_kv : ∀ {ds : List (PyData × PyData)}, fineKv ds = true → PyData.showableKv ds = true ∧ piled (PyData.shownKv ds) ≤ bigKv ds
  | [], _ => ⟨by simp [PyData.showableKv], by simp [PyData.shownKv, piled, bigKv]⟩
  | (k, v) :: ds, h => by
    simp only [fineKv, Bool.and_eq_true] at h
    obtain ⟨h1, h2⟩ := fine_ok h.1.1
    obtain ⟨h5, h6⟩ := fine_ok h.1.2
    obtain ⟨h3, h4⟩ := fine_kv h.2
    refine ⟨by simp [PyData.showableKv, h1, h3, h5], ?_⟩
    have e : (k.shown ++ ": " ++ v.shown).length = k.shown.length + 2 + v.shown.length := by
      rw [strLen_append, strLen_append]; rfl
    simp only [PyData.shownKv, piled_cons, bigKv, e]
    omega
end
theorem hRepr_ok {d : PyData} (h : fine d = true) (hb : big d ≤ 16777216) (hd : d.depth ≤ 64) : hRepr [d] = some (.str d.shown) := by
  obtain ⟨h1, h2⟩ := fine_ok h
  unfold hRepr
  dsimp only
  rw [if_pos ⟨h1, Nat.le_trans h2 hb, hd⟩]
/-! ### sizes of ints -/
theorem bits_le {i : Int} {k : Nat} (h : i.natAbs < 2 ^ k) : Builtin.Int.intBits i ≤ k := by
  unfold Builtin.Int.intBits
  split
  · exact Nat.zero_le _
  · rename_i h0
    have h0 : i ≠ 0 := by simpa using h0
    have := (Nat.log2_lt (by omega)).mpr h
    omega
theorem bitsOk_of {i j : Int} (k : Nat) (hk : k ≤ 60000000) (h : i.natAbs < 2 ^ k) (h' : j.natAbs < 2 ^ k) : bitsOk i j = true := by
  unfold bitsOk
  have h1 := bits_le h
  have h2 := bits_le h'
  apply decide_eq_true
  omega
theorem log2_lt_of {n k : Nat} (hk : 0 < k) (h : n < 2 ^ k) : n.log2 < k := by
  by_cases h0 : n = 0
  · subst h0
    simpa using hk
  · exact (Nat.log2_lt h0).mpr h
theorem noPylong {i j : Int} (h : j.natAbs < 2 ^ 8999) : Builtin.divisionGoesByPylong i j = false := PyProof.noPylong_of_log2 (Nat.lt_of_lt_of_le (log2_lt_of (by decide) h) (by decide))
theorem divOk_of {i j : Int} (h0 : 0 < j) (h : j.natAbs < 2 ^ 8999) : divOk i j = true := by
  unfold divOk
  have : j ≠ 0 := by omega
  simp [this, noPylong h]
/-! ### comprehensions by an invariant -/
theorem lc_inv {vs : List Nat} {mg : MG} {mt : MB} {me : M} {ρ0 : Env} {ds : List PyData} (I : Nat → List T → Env → Prop) (h0 : I 0 [] ρ0) (hl : ds.length ≤ 10000) (hI : ∀ i acc ρ, I i acc ρ → acc.length ≤ i)
    (hs : ∀ i acc ρ d, ds[i]? = some d → I i acc ρ → ∃ ρ1 p1, mg (.d d) ρ = .ok () ρ1 p1 ∧ ((∃ ρ2 p2 t ρ3 p3, mt ρ1 = .ok true ρ2 p2 ∧ me ρ2 = .ok (.tm t) ρ3 p3 ∧ I (i + 1) (acc ++ [t]) (wipeE ρ3 vs)) ∨ ∃ ρ2 p2, mt ρ1 = .ok false ρ2 p2 ∧ I (i + 1) acc (wipeE ρ2 vs))) :
    ∃ ts ρ' p', mLcGo vs mg mt me ds [] ρ0 = .ok ts ρ' p' ∧ I ds.length ts ρ' := by
  suffices H : ∀ (n i : Nat) (acc : List T) (ρ : Env), ds.length - i = n → i ≤ ds.length → I i acc ρ → ∃ ts ρ' p', mLcGo vs mg mt me (ds.drop i) acc ρ = .ok ts ρ' p' ∧ I ds.length ts ρ' by
    have := H (ds.length - 0) 0 [] ρ0 rfl (Nat.zero_le _) h0
    simpa using this
  intro n
  induction n with
  | zero =>
    intro i acc ρ hn hi h
    have e : i = ds.length := by omega
    subst e
    rw [List.drop_length]
    exact ⟨acc, ρ, true, rfl, h⟩
  | succ n ih =>
    intro i acc ρ hn hi h
    have hlt : i < ds.length := by omega
    have e := List.drop_eq_getElem_cons hlt
    obtain ⟨ρ1, p1, h1, h2⟩ := hs i acc ρ ds[i] (by simp [hlt]) h
    rw [e]
    unfold mLcGo
    rw [h1]
    dsimp only
    rcases h2 with ⟨ρ2, p2, t, ρ3, p3, h2, h3, h4⟩ | ⟨ρ2, p2, h2, h4⟩
    · rw [h2]
      dsimp only
      rw [h3]
      dsimp only
      rw [if_pos (by have := hI i acc ρ h; omega)]
      exact ih (i + 1) _ _ (by omega) hlt h4
    · rw [h2]
      dsimp only
      exact ih (i + 1) _ _ (by omega) hlt h4
/-- the environment stays, item by item -/
theorem lc_map {vs : List Nat} {mg : MG} {mt : MB} {me : M} {ρ : Env} {ds : List PyData} (f : PyData → T) (hl : ds.length ≤ 10000)
    (hs : ∀ d ∈ ds, ∃ ρ1 p1 ρ2 p2 ρ3 p3, mg (.d d) ρ = .ok () ρ1 p1 ∧ mt ρ1 = .ok true ρ2 p2 ∧ me ρ2 = .ok (.tm (f d)) ρ3 p3 ∧ wipeE ρ3 vs = ρ) : mLcGo vs mg mt me ds [] ρ = .ok (ds.map f) ρ true := by
  suffices H : ∀ (ds : List PyData) (acc : List T), acc.length + ds.length ≤ 10000 → (∀ d ∈ ds, ∃ ρ1 p1 ρ2 p2 ρ3 p3, mg (.d d) ρ = .ok () ρ1 p1 ∧ mt ρ1 = .ok true ρ2 p2 ∧ me ρ2 = .ok (.tm (f d)) ρ3 p3 ∧ wipeE ρ3 vs = ρ) → mLcGo vs mg mt me ds acc ρ = .ok (acc ++ ds.map f) ρ true by
    simpa using H ds [] (by simpa using hl) hs
  intro ds
  induction ds with
  | nil => intro acc _ _; simp [mLcGo]
  | cons d ds ih =>
    intro acc hl hs
    simp only [List.length_cons] at hl
    obtain ⟨ρ1, p1, ρ2, p2, ρ3, p3, h1, h2, h3, h4⟩ := hs d (List.mem_cons_self ..)
    unfold mLcGo
    rw [h1]
    dsimp only
    rw [h2]
    dsimp only
    rw [h3]
    dsimp only
    rw [if_pos (by omega), h4, ih (acc ++ [f d]) (by simp; omega) fun x hx => hs x (List.mem_cons_of_mem _ hx)]
    simp
/-! ### loops by an invariant -/
theorem loop_inv {mg : MG} {mb : MS} {ρ0 : Env} {ds : List PyData} (I : Nat → Env → Prop) (h0 : I 0 ρ0) (hs : ∀ i ρ d, ds[i]? = some d → I i ρ → ∃ ρ1 p1 ρ2 p2, mg (.d d) ρ = .ok () ρ1 p1 ∧ (mb ρ1 = .ok .nx ρ2 p2 ∨ mb ρ1 = .ok .ct ρ2 p2) ∧ I (i + 1) ρ2) :
    ∃ ρ' p', mLoop mg mb ds ρ0 = .ok .nx ρ' p' ∧ I ds.length ρ' := by
  suffices H : ∀ (n i : Nat) (ρ : Env), ds.length - i = n → i ≤ ds.length → I i ρ → ∃ ρ' p', mLoop mg mb (ds.drop i) ρ = .ok .nx ρ' p' ∧ I ds.length ρ' by
    have := H (ds.length - 0) 0 ρ0 rfl (Nat.zero_le _) h0
    simpa using this
  intro n
  induction n with
  | zero =>
    intro i ρ hn hi h
    have e : i = ds.length := by omega
    subst e
    rw [List.drop_length]
    exact ⟨ρ, true, rfl, h⟩
  | succ n ih =>
    intro i ρ hn hi h
    have hlt : i < ds.length := by omega
    have e := List.drop_eq_getElem_cons hlt
    obtain ⟨ρ1, p1, ρ2, p2, h1, h2, h3⟩ := hs i ρ ds[i] (by simp [hlt]) h
    rw [e]
    unfold mLoop
    rw [h1]
    dsimp only
    rcases h2 with h2 | h2
    · rw [h2]
      exact ih (i + 1) _ (by omega) hlt h3
    · rw [h2]
      exact ih (i + 1) _ (by omega) hlt h3
theorem loop_nil {mg : MG} {mb : MS} {ρ : Env} : mLoop mg mb [] ρ = .ok .nx ρ true := rfl
end MV
/-! MvY: the mirrors step by step: named continuations, one equation a case (for simp). -/
namespace MV
open PySem L2
section
variable {ρ ρ1 ρ2 : Env} {p q b : Bool} {P vs : List Nat} {i j n s : Nat} {m m' : M} {c c' : MB} {x y : MS} {ms mk : Env → R (List Op)} {o o' : Op} {os us : List Op} {t u : T} {ts : List T} {f : Env → List Op → R Op} {h h' : List PyData → Option PyData} {mi : MI} {mg : MG} {gs : List T → Env → R Unit} {mt : MB} {me : M} {mb : MS} {d : PyData} {ds : List PyData} {md : List Md} {F : List T → RF} {arr : Arr} {e : String} {en : List Str} {ed : List PyData} {fi : Env → List Op → Option (List PyData)} {w : List Sel}
theorem ev_mVar  : mVar i ρ = (match ρ[i]? with | some (some _) => .ok (.pl i []) ρ true | _ => .bad) := rfl
theorem ev_mD  : mD d ρ = .ok (.tm (.d d)) ρ true := rfl
theorem ev_mV {v : V} : mV v ρ = .ok (.tm (.v v)) ρ true := rfl
theorem ev_mNil  : mNil ρ = .ok [] ρ true := rfl
theorem ev_mYes  : mYes ρ = .ok true ρ true := rfl
def kP (p : Bool) (r : R Op) : R Op := match r with
  | .ok o ρ q => .ok o ρ (p && q)
  | .exc c n d ρ => .exc c n d ρ
  | .bad => .bad
theorem kP_ok  : kP p (.ok o ρ q) = .ok o ρ (p && q) := rfl
theorem kP_exc  : kP p (.exc e en ed ρ) = .exc e en ed ρ := rfl
theorem kP_bad  : kP p .bad = .bad := rfl
def kB (p : Bool) (r : R Bool) : R Bool := match r with
  | .ok o ρ q => .ok o ρ (p && q)
  | .exc c n d ρ => .exc c n d ρ
  | .bad => .bad
theorem kB_ok  : kB p (.ok b ρ q) = .ok b ρ (p && q) := rfl
theorem kB_exc  : kB p (.exc e en ed ρ) = .exc e en ed ρ := rfl
theorem kB_bad  : kB p .bad = .bad := rfl
def kC2 (o : Op) (p : Bool) (r : R (List Op)) : R (List Op) := match r with
  | .ok os ρ q => if (o.deep && !q) = true then .bad else .ok (o :: os) ρ (p && q)
  | .exc c n d ρ => .exc c n d ρ
  | .bad => .bad
theorem kC2_ok  : kC2 o p (.ok os ρ q) = if (o.deep && !q) = true then .bad else .ok (o :: os) ρ (p && q) := rfl
theorem kC2_exc  : kC2 o p (.exc e en ed ρ) = .exc e en ed ρ := rfl
theorem kC2_bad  : kC2 o p .bad = .bad := rfl
def kC1 (ms : Env → R (List Op)) (r : R Op) : R (List Op) := match r with
  | .ok o ρ p => kC2 o p (ms ρ)
  | .exc c n d ρ => .exc c n d ρ
  | .bad => .bad
theorem kC1_ok  : kC1 ms (.ok o ρ p) = kC2 o p (ms ρ) := rfl
theorem kC1_exc  : kC1 ms (.exc e en ed ρ) = .exc e en ed ρ := rfl
theorem kC1_bad  : kC1 ms .bad = .bad := rfl
theorem ev_mCons : mCons m ms ρ = kC1 ms (m ρ) := by
  unfold mCons kC1
  cases m ρ with
  | ok o ρ1 p =>
    dsimp only
    unfold kC2
    cases ms ρ1 <;> rfl
  | exc => rfl
  | bad => rfl
def kOp (f : Env → List Op → R Op) (r : R (List Op)) : R Op := match r with
  | .ok os ρ p => kP p (f ρ os)
  | .exc c n d ρ => .exc c n d ρ
  | .bad => .bad
theorem kOp_ok  : kOp f (.ok os ρ p) = kP p (f ρ os) := rfl
theorem kOp_exc  : kOp f (.exc e en ed ρ) = .exc e en ed ρ := rfl
theorem kOp_bad  : kOp f .bad = .bad := rfl
theorem ev_mOpN : mOpN f ms ρ = kOp f (ms ρ) := by
  unfold mOpN kOp
  cases ms ρ with
  | ok o ρ1 p =>
    dsimp only
    unfold kP
    cases f ρ1 o <;> rfl
  | exc => rfl
  | bad => rfl
theorem ev_m2  : m2 f m m' ρ = mOpN f (mCons m (mCons m' mNil)) ρ := rfl
theorem ev_m1  : m1 f m ρ = mOpN f (mCons m mNil) ρ := rfl
def kSh (b : Bool) (r : R Op) : R Op := match r with
  | .ok o ρ p => kP p (share b ρ o)
  | .exc c n d ρ => .exc c n d ρ
  | .bad => .bad
theorem kSh_ok  : kSh b (.ok o ρ p) = kP p (share b ρ o) := rfl
theorem kSh_exc  : kSh b (.exc e en ed ρ) = .exc e en ed ρ := rfl
theorem kSh_bad  : kSh b .bad = .bad := rfl
theorem ev_mSh : mSh b m ρ = kSh b (m ρ) := by
  unfold mSh kSh
  cases m ρ with
  | ok o ρ1 p =>
    dsimp only
    unfold kP
    cases share b ρ1 o <;> rfl
  | exc => rfl
  | bad => rfl
def kD2 (ρ : Env) : Option PyData → R Op
  | some x => .ok (.tm (.d x)) ρ true
  | none => .bad
theorem kD2_some  : kD2 ρ (some d) = .ok (.tm (.d d)) ρ true := rfl
theorem kD2_none  : kD2 ρ none = .bad := rfl
def kD1 (h : List PyData → Option PyData) (ρ : Env) : Option (List PyData) → R Op
  | some xs => kD2 ρ (h xs)
  | none => .bad
theorem kD1_some  : kD1 h ρ (some ds) = kD2 ρ (h ds) := rfl
theorem kD1_none  : kD1 h ρ none = .bad := rfl
theorem ev_fD : fD h ρ os = kD1 h ρ (vws ρ os) := by
  unfold fD kD1
  cases vws ρ os with
  | none => rfl
  | some xs =>
    dsimp only
    unfold kD2
    cases h xs <;> rfl
def kT2 (ρ : Env) (p : Bool) : Option Bool → R Bool
  | some b => .ok b ρ p
  | none => .bad
theorem kT2_some  : kT2 ρ p (some b) = .ok b ρ p := rfl
theorem kT2_none  : kT2 ρ p none = .bad := rfl
def kTst  (r : R Op) : R Bool := match r with
  | .ok o ρ p => kT2 ρ p ((look ρ o).bind tru)
  | .exc c n d ρ => .exc c n d ρ
  | .bad => .bad
theorem kTst_ok  : kTst  (.ok o ρ p) = kT2 ρ p ((look ρ o).bind tru) := rfl
theorem kTst_exc  : kTst  (.exc e en ed ρ) = .exc e en ed ρ := rfl
theorem kTst_bad  : kTst  .bad = .bad := rfl
theorem ev_mTst : mTst m ρ = kTst (m ρ) := by
  unfold mTst kTst
  cases m ρ with
  | ok o ρ1 p =>
    dsimp only
    unfold kT2
    cases (look ρ1 o).bind tru <;> rfl
  | exc => rfl
  | bad => rfl
def boolT : Option T → Option Bool
  | some (.d (.bool b)) => some b
  | _ => none
theorem boolT_b  : boolT (some (.d (.bool b))) = some b := rfl
def kTb  (r : R Op) : R Bool := match r with
  | .ok o ρ p => kT2 ρ p (boolT (look ρ o))
  | .exc c n d ρ => .exc c n d ρ
  | .bad => .bad
theorem kTb_ok  : kTb  (.ok o ρ p) = kT2 ρ p (boolT (look ρ o)) := rfl
theorem kTb_exc  : kTb  (.exc e en ed ρ) = .exc e en ed ρ := rfl
theorem kTb_bad  : kTb  .bad = .bad := rfl
theorem ev_mTb : mTb m ρ = kTb (m ρ) := by
  unfold mTb kTb
  cases m ρ with
  | ok o ρ1 p =>
    dsimp only
    cases look ρ1 o with
    | none => rfl
    | some t =>
      cases t with
      | d x => cases x <;> rfl
      | _ => rfl
  | exc => rfl
  | bad => rfl
def kAnd (n : MB) (r : R Bool) : R Bool := match r with
  | .ok true ρ p => kB p (n ρ)
  | .ok false ρ p => .ok false ρ p
  | .exc c n d ρ => .exc c n d ρ
  | .bad => .bad
theorem kAnd_t  : kAnd c (.ok true ρ p) = kB p (c ρ) := rfl
theorem kAnd_f  : kAnd c (.ok false ρ p) = .ok false ρ p := rfl
theorem kAnd_exc  : kAnd c (.exc e en ed ρ) = .exc e en ed ρ := rfl
theorem kAnd_bad  : kAnd c .bad = .bad := rfl
theorem ev_mAndB : mAndB c c' ρ = kAnd c' (c ρ) := by
  unfold mAndB kAnd
  cases c ρ with
  | ok b ρ1 p =>
    cases b with
    | true =>
      dsimp only
      unfold kB
      cases c' ρ1 <;> rfl
    | false => rfl
  | exc => rfl
  | bad => rfl
def kOr (n : MB) (r : R Bool) : R Bool := match r with
  | .ok false ρ p => kB p (n ρ)
  | .ok true ρ p => .ok true ρ p
  | .exc c n d ρ => .exc c n d ρ
  | .bad => .bad
theorem kOr_f  : kOr c (.ok false ρ p) = kB p (c ρ) := rfl
theorem kOr_t  : kOr c (.ok true ρ p) = .ok true ρ p := rfl
theorem kOr_exc  : kOr c (.exc e en ed ρ) = .exc e en ed ρ := rfl
theorem kOr_bad  : kOr c .bad = .bad := rfl
theorem ev_mOrB : mOrB c c' ρ = kOr c' (c ρ) := by
  unfold mOrB kOr
  cases c ρ with
  | ok b ρ1 p =>
    cases b with
    | false =>
      dsimp only
      unfold kB
      cases c' ρ1 <;> rfl
    | true => rfl
  | exc => rfl
  | bad => rfl
def kNot  (r : R Bool) : R Bool := match r with
  | .ok b ρ p => .ok (!b) ρ p
  | .exc c n d ρ => .exc c n d ρ
  | .bad => .bad
theorem kNot_ok  : kNot  (.ok b ρ p) = .ok (!b) ρ p := rfl
theorem kNot_exc  : kNot  (.exc e en ed ρ) = .exc e en ed ρ := rfl
theorem kNot_bad  : kNot  .bad = .bad := rfl
theorem ev_mNotB : mNotB c ρ = kNot (c ρ) := by
  unfold mNotB kNot
  cases c ρ <;> rfl
def kNotV  (r : R Bool) : R Op := match r with
  | .ok b ρ p => .ok (.tm (.d (.bool (!b)))) ρ p
  | .exc c n d ρ => .exc c n d ρ
  | .bad => .bad
theorem kNotV_ok  : kNotV  (.ok b ρ p) = .ok (.tm (.d (.bool (!b)))) ρ p := rfl
theorem kNotV_exc  : kNotV  (.exc e en ed ρ) = .exc e en ed ρ := rfl
theorem kNotV_bad  : kNotV  .bad = .bad := rfl
theorem ev_mNotV : mNotV c ρ = kNotV (c ρ) := by
  unfold mNotV kNotV
  cases c ρ <;> rfl
def kAV2 (n : M) (ρ : Env) (p : Bool) : Option Bool → R Op
  | some true => kP p (n ρ)
  | some false => .ok (.tm (.d (.bool false))) ρ p
  | none => .bad
theorem kAV2_t  : kAV2 m ρ p (some true) = kP p (m ρ) := rfl
theorem kAV2_f  : kAV2 m ρ p (some false) = .ok (.tm (.d (.bool false))) ρ p := rfl
theorem kAV2_n  : kAV2 m ρ p none = .bad := rfl
def kAV (n : M) (r : R Op) : R Op := match r with
  | .ok o ρ p => kAV2 n ρ p (boolT (look ρ o))
  | .exc c n d ρ => .exc c n d ρ
  | .bad => .bad
theorem kAV_ok  : kAV m (.ok o ρ p) = kAV2 m ρ p (boolT (look ρ o)) := rfl
theorem kAV_exc  : kAV m (.exc e en ed ρ) = .exc e en ed ρ := rfl
theorem kAV_bad  : kAV m .bad = .bad := rfl
theorem ev_mAndV : mAndV m m' ρ = kAV m' (m ρ) := by
  unfold mAndV kAV
  cases m ρ with
  | ok o ρ1 p =>
    dsimp only
    cases look ρ1 o with
    | none => rfl
    | some t =>
      cases t with
      | d x =>
        cases x with
        | bool b =>
          cases b with
          | true =>
            show _ = kP p (m' ρ1)
            unfold kP
            dsimp only
            all_goals (cases m' ρ1 <;> rfl)
          | false => rfl
        | _ => rfl
      | _ => rfl
  | exc => rfl
  | bad => rfl
def kOV2 (n : M) (ρ : Env) (p : Bool) : Option Bool → R Op
  | some false => kP p (n ρ)
  | some true => .ok (.tm (.d (.bool true))) ρ p
  | none => .bad
theorem kOV2_f  : kOV2 m ρ p (some false) = kP p (m ρ) := rfl
theorem kOV2_t  : kOV2 m ρ p (some true) = .ok (.tm (.d (.bool true))) ρ p := rfl
theorem kOV2_n  : kOV2 m ρ p none = .bad := rfl
def kOV (n : M) (r : R Op) : R Op := match r with
  | .ok o ρ p => kOV2 n ρ p (boolT (look ρ o))
  | .exc c n d ρ => .exc c n d ρ
  | .bad => .bad
theorem kOV_ok  : kOV m (.ok o ρ p) = kOV2 m ρ p (boolT (look ρ o)) := rfl
theorem kOV_exc  : kOV m (.exc e en ed ρ) = .exc e en ed ρ := rfl
theorem kOV_bad  : kOV m .bad = .bad := rfl
theorem ev_mOrV : mOrV m m' ρ = kOV m' (m ρ) := by
  unfold mOrV kOV
  cases m ρ with
  | ok o ρ1 p =>
    dsimp only
    cases look ρ1 o with
    | none => rfl
    | some t =>
      cases t with
      | d x =>
        cases x with
        | bool b =>
          cases b with
          | false =>
            show _ = kP p (m' ρ1)
            unfold kP
            dsimp only
            all_goals (cases m' ρ1 <;> rfl)
          | true => rfl
        | _ => rfl
      | _ => rfl
  | exc => rfl
  | bad => rfl
def kIfE (m n : M) (r : R Bool) : R Op := match r with
  | .ok true ρ p => kP p (m ρ)
  | .ok false ρ p => kP p (n ρ)
  | .exc c n d ρ => .exc c n d ρ
  | .bad => .bad
theorem kIfE_t  : kIfE m m' (.ok true ρ p) = kP p (m ρ) := rfl
theorem kIfE_f  : kIfE m m' (.ok false ρ p) = kP p (m' ρ) := rfl
theorem kIfE_exc  : kIfE m m' (.exc e en ed ρ) = .exc e en ed ρ := rfl
theorem kIfE_bad  : kIfE m m' .bad = .bad := rfl
theorem ev_mIfE : mIfE c m m' ρ = kIfE m m' (c ρ) := by
  unfold mIfE kIfE
  cases c ρ with
  | ok b ρ1 p =>
    cases b with
    | true =>
      dsimp only
      rw [if_pos rfl]
      unfold kP
      cases m ρ1 <;> rfl
    | false =>
      dsimp only
      rw [if_neg (by decide)]
      unfold kP
      cases m' ρ1 <;> rfl
  | exc => rfl
  | bad => rfl
theorem ev_mSkip  : mSkip ρ = .ok .nx ρ true := rfl
theorem ev_mBrk  : mBrk ρ = .ok .bk ρ true := rfl
theorem ev_mCnt  : mCnt ρ = .ok .ct ρ true := rfl
def kSeq (y : MS) (r : R Fl) : R Fl := match r with
  | .ok .nx ρ _ => y ρ
  | r => r
theorem kSeq_nx  : kSeq y (.ok .nx ρ p) = y ρ := rfl
theorem kSeq_rt  : kSeq y (.ok (.rt t) ρ p) = .ok (.rt t) ρ p := rfl
theorem kSeq_bk  : kSeq y (.ok .bk ρ p) = .ok .bk ρ p := rfl
theorem kSeq_ct  : kSeq y (.ok .ct ρ p) = .ok .ct ρ p := rfl
theorem kSeq_exc  : kSeq y (.exc e en ed ρ) = .exc e en ed ρ := rfl
theorem kSeq_bad  : kSeq y .bad = .bad := rfl
theorem ev_mSeq  : mSeq x y ρ = kSeq y (x ρ) := rfl
def kIf (x y : MS) (r : R Bool) : R Fl := match r with
  | .ok true ρ _ => x ρ
  | .ok false ρ _ => y ρ
  | .exc c n d ρ => .exc c n d ρ
  | .bad => .bad
theorem kIf_t  : kIf x y (.ok true ρ p) = x ρ := rfl
theorem kIf_f  : kIf x y (.ok false ρ p) = y ρ := rfl
theorem kIf_exc  : kIf x y (.exc e en ed ρ) = .exc e en ed ρ := rfl
theorem kIf_bad  : kIf x y .bad = .bad := rfl
theorem ev_mIf : mIf c x y ρ = kIf x y (c ρ) := by
  unfold mIf kIf
  cases c ρ with
  | ok b ρ1 p => cases b <;> rfl
  | exc => rfl
  | bad => rfl
def kExpr  (r : R Op) : R Fl := match r with
  | .ok _ ρ _ => .ok .nx ρ true
  | .exc c n d ρ => .exc c n d ρ
  | .bad => .bad
theorem kExpr_ok  : kExpr  (.ok o ρ p) = .ok .nx ρ true := rfl
theorem kExpr_exc  : kExpr  (.exc e en ed ρ) = .exc e en ed ρ := rfl
theorem kExpr_bad  : kExpr  .bad = .bad := rfl
theorem ev_mExpr : mExpr m ρ = kExpr (m ρ) := by
  unfold mExpr kExpr
  cases m ρ <;> rfl
def kRet (r : R Op) : R Fl := match r with
  | .ok (.tm t) ρ _ => .ok (.rt t) ρ true
  | .ok (.pl i []) ρ _ => (match ρ[i]? with
    | some (some t) => .ok (.rt t) (ρ.set i none) true
    | _ => .bad)
  | .ok (.pl _ (_ :: _)) _ _ => .bad
  | .exc c n d ρ => .exc c n d ρ
  | .bad => .bad
theorem kRet_tm  : kRet (.ok (.tm t) ρ p) = .ok (.rt t) ρ true := rfl
theorem kRet_pl  : kRet (.ok (.pl i []) ρ p) = (match ρ[i]? with | some (some t) => .ok (.rt t) (ρ.set i none) true | _ => .bad) := rfl
theorem kRet_exc  : kRet  (.exc e en ed ρ) = .exc e en ed ρ := rfl
theorem kRet_bad  : kRet  .bad = .bad := rfl
theorem ev_mRet : mRet m ρ = kRet (m ρ) := by
  unfold mRet kRet
  cases m ρ with
  | ok o ρ1 p =>
    cases o with
    | tm t => rfl
    | pl i w => cases w <;> rfl
  | exc => rfl
  | bad => rfl
theorem ev_mRetN  : mRetN ρ = .ok (.rt (.d .none)) ρ true := rfl
def kAsg (P : List Nat) (i : Nat) (r : R Op) : R Fl := match r with
  | .ok (.tm t) ρ _ => if (!P.contains i && decide (i < ρ.length)) = true then .ok .nx (ρ.set i (some t)) true else .bad
  | .ok (.pl _ _) _ _ => .bad
  | .exc c n d ρ => .exc c n d ρ
  | .bad => .bad
theorem kAsg_tm  : kAsg P i (.ok (.tm t) ρ p) = if (!P.contains i && decide (i < ρ.length)) = true then .ok .nx (ρ.set i (some t)) true else .bad := rfl
theorem kAsg_exc  : kAsg P i (.exc e en ed ρ) = .exc e en ed ρ := rfl
theorem kAsg_bad  : kAsg P i .bad = .bad := rfl
theorem ev_mAsg : mAsg P i m ρ = kAsg P i (m ρ) := by
  unfold mAsg kAsg
  cases m ρ with
  | ok o ρ1 p => cases o <;> rfl
  | exc => rfl
  | bad => rfl
def kG (r : R Unit) : R Fl := match r with
  | .ok _ ρ _ => .ok .nx ρ true
  | _ => .bad
theorem kG_ok {z : Unit} : kG (.ok z ρ p) = .ok .nx ρ true := rfl
theorem kG_bad  : kG .bad = .bad := rfl
def kAsgG (mg : MG) (r : R Op) : R Fl := match r with
  | .ok (.tm t) ρ _ => kG (mg t ρ)
  | .ok (.pl _ _) _ _ => .bad
  | .exc c n d ρ => .exc c n d ρ
  | .bad => .bad
theorem kAsgG_tm  : kAsgG mg (.ok (.tm t) ρ p) = kG (mg t ρ) := rfl
theorem kAsgG_exc  : kAsgG mg (.exc e en ed ρ) = .exc e en ed ρ := rfl
theorem kAsgG_bad  : kAsgG mg .bad = .bad := rfl
theorem ev_mAsgG : mAsgG mg m ρ = kAsgG mg (m ρ) := by
  unfold mAsgG kAsgG
  cases m ρ with
  | ok o ρ1 p =>
    cases o with
    | tm t =>
      dsimp only
      unfold kG
      cases mg t ρ1 <;> rfl
    | pl => rfl
  | exc => rfl
  | bad => rfl
def kPar (P : List Nat) (i j : Nat) (r : R (List Op)) : R Fl := match r with
  | .ok [.tm t, .tm u] ρ _ => if (!P.contains i && !P.contains j && decide (i < ρ.length) && decide (j < ρ.length)) = true then .ok .nx ((ρ.set i (some t)).set j (some u)) true else .bad
  | .ok _ _ _ => .bad
  | .exc c n d ρ => .exc c n d ρ
  | .bad => .bad
theorem kPar_tm  : kPar P i j (.ok [.tm t, .tm u] ρ p) = if (!P.contains i && !P.contains j && decide (i < ρ.length) && decide (j < ρ.length)) = true then .ok .nx ((ρ.set i (some t)).set j (some u)) true else .bad := rfl
theorem kPar_exc  : kPar P i j (.exc e en ed ρ) = .exc e en ed ρ := rfl
theorem kPar_bad  : kPar P i j .bad = .bad := rfl
theorem ev_mPar  : mPar P i j ms ρ = kPar P i j (ms ρ) := rfl
def kFor (mg : MG) (mb : MS) (r : R (List PyData)) : R Fl := match r with
  | .ok ds ρ _ => mLoop mg mb ds ρ
  | .exc c n d ρ => .exc c n d ρ
  | .bad => .bad
theorem kFor_ok  : kFor mg mb (.ok ds ρ p) = mLoop mg mb ds ρ := rfl
theorem kFor_exc  : kFor mg mb (.exc e en ed ρ) = .exc e en ed ρ := rfl
theorem kFor_bad  : kFor mg mb .bad = .bad := rfl
theorem ev_mFor  : mFor mi mg mb ρ = kFor mg mb (mi ρ) := rfl
def kI2 (ρ : Env) (p : Bool) : Option (List PyData) → R (List PyData)
  | some ds => .ok ds ρ p
  | none => .bad
theorem kI2_some  : kI2 ρ p (some ds) = .ok ds ρ p := rfl
theorem kI2_none  : kI2 ρ p none = .bad := rfl
def kIOp (f : Env → List Op → Option (List PyData)) (r : R (List Op)) : R (List PyData) := match r with
  | .ok os ρ p => kI2 ρ p (f ρ os)
  | .exc c n d ρ => .exc c n d ρ
  | .bad => .bad
theorem kIOp_ok  : kIOp fi (.ok os ρ p) = kI2 ρ p (fi ρ os) := rfl
theorem kIOp_exc  : kIOp fi (.exc e en ed ρ) = .exc e en ed ρ := rfl
theorem kIOp_bad  : kIOp fi .bad = .bad := rfl
theorem ev_mIOp : mIOp fi ms ρ = kIOp fi (ms ρ) := by
  unfold mIOp kIOp
  cases ms ρ with
  | ok os ρ1 p =>
    dsimp only
    unfold kI2
    cases fi ρ1 os <;> rfl
  | exc => rfl
  | bad => rfl
def kSI (r : R Op) : R (List PyData) := match r with
  | .ok (.tm (.d x)) ρ p => kI2 ρ p (seqD x)
  | .ok _ _ _ => .bad
  | .exc c n d ρ => .exc c n d ρ
  | .bad => .bad
theorem kSI_ok  : kSI (.ok (.tm (.d d)) ρ p) = kI2 ρ p (seqD d) := rfl
theorem kSI_exc  : kSI  (.exc e en ed ρ) = .exc e en ed ρ := rfl
theorem kSI_bad  : kSI  .bad = .bad := rfl
theorem ev_mSeqI : mSeqI m ρ = kSI (mSh true m ρ) := by
  unfold mSeqI kSI
  cases mSh true m ρ with
  | ok o ρ1 p =>
    cases o with
    | tm t =>
      cases t with
      | d x =>
        dsimp only
        unfold kI2
        cases seqD x <;> rfl
      | _ => rfl
    | pl => rfl
  | exc => rfl
  | bad => rfl
def kL2 (vs : List Nat) (ρ : Env) (r : R (List T)) : R Op := match r with
  | .ok ts ρ2 _ => .ok (.tm (.l ts)) (unwipe ρ vs ρ2) false
  | _ => .bad
theorem kL2_ok  : kL2 vs ρ (.ok ts ρ2 p) = .ok (.tm (.l ts)) (unwipe ρ vs ρ2) false := rfl
def kLc (n : Nat) (vs : List Nat) (mg : MG) (mt : MB) (me : M) (r : R (List PyData)) : R Op := match r with
  | .ok ds ρ _ => if (wipable ρ vs && decide (ρ.length = n)) = true then kL2 vs ρ (mLcGo vs mg mt me ds [] (wipeE ρ vs)) else .bad
  | .exc c n d ρ => .exc c n d ρ
  | .bad => .bad
theorem kLc_ok  : kLc n vs mg mt me (.ok ds ρ p) = if (wipable ρ vs && decide (ρ.length = n)) = true then kL2 vs ρ (mLcGo vs mg mt me ds [] (wipeE ρ vs)) else .bad := rfl
theorem kLc_exc  : kLc n vs mg mt me (.exc e en ed ρ) = .exc e en ed ρ := rfl
theorem kLc_bad  : kLc n vs mg mt me .bad = .bad := rfl
theorem ev_mLc : mLc n vs mi mg mt me ρ = kLc n vs mg mt me (mi ρ) := by
  unfold mLc kLc
  cases mi ρ with
  | ok ds ρ1 p =>
    dsimp only
    unfold kL2
    cases mLcGo vs mg mt me ds [] (wipeE ρ1 vs) <;> rfl
  | exc => rfl
  | bad => rfl
theorem ev_mTgN  : mTgN P i t ρ = if (!P.contains i && decide (i < ρ.length)) = true then .ok () (ρ.set i (some t)) true else .bad := rfl
theorem ev_mGNil  : mGNil [] ρ = .ok () ρ true := rfl
def kGs (ms : List T → Env → R Unit) (ts : List T) (r : R Unit) : R Unit := match r with
  | .ok _ ρ _ => ms ts ρ
  | _ => .bad
theorem kGs_ok {z : Unit} : kGs gs ts (.ok z ρ p) = gs ts ρ := rfl
theorem ev_mGCons : mGCons mg gs (t :: ts) ρ = kGs gs ts (mg t ρ) := by
  unfold mGCons kGs
  dsimp only
  all_goals (cases mg t ρ <;> rfl)
def kTg (n : Nat) (ms : List T → Env → R Unit) (ρ : Env) : Option (List T) → R Unit
  | some ts => if ts.length = n then ms ts ρ else .bad
  | none => .bad
theorem kTg_some  : kTg n gs ρ (some ts) = if ts.length = n then gs ts ρ else .bad := rfl
theorem ev_mTgT : mTgT n gs t ρ = kTg n gs ρ (itemsT t) := by
  unfold mTgT kTg
  cases itemsT t <;> rfl
theorem ev_mTgL : mTgL n gs t ρ = kTg n gs ρ (itemsL t) := by
  unfold mTgL kTg
  cases itemsL t <;> rfl
def kS3 : Option Env → R Unit
  | some ρ => .ok () ρ true
  | none => .bad
theorem kS3_some  : kS3 (some ρ) = .ok () ρ true := rfl
def kS2 (ρ : Env) (s : Nat) (w : List Sel) (k : Int) (t : T) : Option T → R Unit
  | some (.l ts) => (match ixN ts.length k with
    | some j => kS3 (putT ρ s w (.l (ts.set j t)))
    | none => .bad)
  | _ => .bad
theorem kS2_l {k : Int} : kS2 ρ s w k t (some (.l ts)) = (match ixN ts.length k with | some j => kS3 (putT ρ s w (.l (ts.set j t))) | none => .bad) := rfl
def kS1 (t : T) (r : R (List Op)) : R Unit := match r with
  | .ok [.pl s w, .tm (.d (.int k))] ρ true => kS2 ρ s w k t (look ρ (.pl s w))
  | _ => .bad
theorem kS1_ok {k : Int} : kS1 t (.ok [.pl s w, .tm (.d (.int k))] ρ true) = kS2 ρ s w k t (look ρ (.pl s w)) := rfl
theorem ev_mTgS : mTgS m m' t ρ = kS1 t (mCons m (mCons m' mNil) ρ) := by
  unfold mTgS kS1
  cases mCons m (mCons m' mNil) ρ with
  | ok os ρ1 q =>
    split
    · rename_i s w k ρ2 q e
      cases e
      cases q with
      | true =>
        dsimp only
        rw [if_pos rfl]
        unfold kS2
        cases look ρ1 (.pl s w) with
        | none => rfl
        | some t0 =>
          cases t0 with
          | l ts =>
            dsimp only
            cases ixN ts.length k with
            | none => rfl
            | some j =>
              dsimp only
              unfold kS3
              cases putT ρ1 s w (.l (ts.set j t)) <;> rfl
          | _ => rfl
      | false => rfl
    · rename_i hne
      split
      · rename_i s w k ρ2 e
        cases e
        exact absurd rfl (hne _ _ _ _ _)
      · rfl
  | exc => rfl
  | bad => rfl
def kH4 (ρ : Env) (p : Bool) : Option PyData → R Op
  | some x => .ok (.tm (.d x)) ρ p
  | none => .bad
theorem kH4_some  : kH4 ρ p (some d) = .ok (.tm (.d d)) ρ p := rfl
def kH3 (h : List PyData → Option PyData) (y : PyData) (ρ : Env) (p : Bool) : Option PyData → R Op
  | some z => kH4 ρ p (h [y, z])
  | none => .bad
theorem kH3_some {z : PyData} : kH3 h z ρ p (some d) = kH4 ρ p (h [z, d]) := rfl
def kH2 (h : List PyData → Option PyData) (y : PyData) (p : Bool) (r : R Op) : R Op := match r with
  | .ok o ρ q => kH3 h y ρ (p && q) (vw ρ o)
  | .exc c n d ρ => .exc c n d ρ
  | .bad => .bad
theorem kH2_ok {z : PyData} : kH2 h z p (.ok o ρ q) = kH3 h z ρ (p && q) (vw ρ o) := rfl
def kH1 (h : List PyData → Option PyData) (c : M) (y : PyData) (ρ : Env) (p : Bool) : Option PyData → R Op
  | some (.bool true) => kH2 h y p (c ρ)
  | some (.bool false) => .ok (.tm (.d (.bool false))) ρ p
  | _ => .bad
theorem kH1_t {z : PyData} : kH1 h m z ρ p (some (.bool true)) = kH2 h z p (m ρ) := rfl
theorem kH1_f {z : PyData} : kH1 h m z ρ p (some (.bool false)) = .ok (.tm (.d (.bool false))) ρ p := rfl
def kH0 (h h' : List PyData → Option PyData) (c : M) (ρ : Env) (p : Bool) : Option (List PyData) → R Op
  | some [x, y] => kH1 h' c y ρ p (h [x, y])
  | _ => .bad
theorem kH0_ok {z : PyData} : kH0 h h' m ρ p (some [d, z]) = kH1 h' m z ρ p (h [d, z]) := rfl
def kH (h : List PyData → Option PyData) (h' : List PyData → Option PyData) (c : M) (r : R (List Op)) : R Op := match r with
  | .ok os ρ p => kH0 h h' c ρ p (vws ρ os)
  | .exc c n d ρ => .exc c n d ρ
  | .bad => .bad
theorem kH_ok  : kH h h' m (.ok os ρ p) = kH0 h h' m ρ p (vws ρ os) := rfl
theorem kH_exc  : kH h h' m (.exc e en ed ρ) = .exc e en ed ρ := rfl
theorem kH_bad  : kH h h' m .bad = .bad := rfl
theorem ev_mCh {a b' c' : M} : mCh h h' a b' c' ρ = kH h h' c' (mCons a (mCons b' mNil) ρ) := by
  unfold mCh kH
  cases mCons a (mCons b' mNil) ρ with
  | ok os ρ1 p =>
    dsimp only
    cases vws ρ1 os with
    | none => rfl
    | some l =>
      match l with
      | [] => rfl
      | [_] => rfl
      | _ :: _ :: _ :: _ => rfl
      | [x, y] =>
        show _ = kH1 h' c' y ρ1 p (h [x, y])
        dsimp only
        cases h [x, y] with
        | none => rfl
        | some d =>
          cases d with
          | bool b =>
            cases b with
            | true =>
              show _ = kH2 h' y p (c' ρ1)
              dsimp only
              unfold kH2
              cases c' ρ1 with
              | ok o ρ2 q =>
                dsimp only
                unfold kH3
                cases vw ρ2 o with
                | none => rfl
                | some z =>
                  dsimp only
                  unfold kH4
                  cases h' [y, z] <;> rfl
              | exc => rfl
              | bad => rfl
            | false => rfl
          | _ => rfl
  | exc => rfl
  | bad => rfl
def kInt (r : R Op) : R Op := match r with
  | .ok (.tm (.d (.int i))) ρ p => .ok (.tm (.d (.int i))) ρ p
  | .ok _ _ _ => .bad
  | .exc c n d ρ => .exc c n d ρ
  | .bad => .bad
theorem kInt_ok {k : Int} : kInt (.ok (.tm (.d (.int k))) ρ p) = .ok (.tm (.d (.int k))) ρ p := rfl
theorem ev_mInt  : mInt m ρ = kInt (mSh true m ρ) := rfl
def kStr2 (ρ : Env) (p : Bool) : Option T → R Op
  | some (.d (.str z)) => .ok (.tm (.d (.str z))) ρ p
  | _ => .bad
theorem kStr2_ok {z : Str} : kStr2 ρ p (some (.d (.str z))) = .ok (.tm (.d (.str z))) ρ p := rfl
def kStr  (r : R Op) : R Op := match r with
  | .ok o ρ p => kStr2 ρ p (look ρ o)
  | .exc c n d ρ => .exc c n d ρ
  | .bad => .bad
theorem kStr_ok  : kStr  (.ok o ρ p) = kStr2 ρ p (look ρ o) := rfl
theorem kStr_exc  : kStr  (.exc e en ed ρ) = .exc e en ed ρ := rfl
theorem kStr_bad  : kStr  .bad = .bad := rfl
theorem ev_mStr : mStr m ρ = kStr (m ρ) := by
  unfold mStr kStr
  cases m ρ with
  | ok o ρ1 p =>
    dsimp only
    cases look ρ1 o with
    | none => rfl
    | some t =>
      cases t with
      | d x => cases x <;> rfl
      | _ => rfl
  | exc => rfl
  | bad => rfl
def kLs2 (o : Op) (ρ : Env) (p : Bool) : Option Bool → R Op
  | some true => .ok o ρ p
  | _ => .bad
theorem kLs2_ok  : kLs2 o ρ p (some true) = .ok o ρ p := rfl
def kLs  (r : R Op) : R Op := match r with
  | .ok o ρ p => kLs2 o ρ p ((look ρ o).map isL)
  | .exc c n d ρ => .exc c n d ρ
  | .bad => .bad
theorem kLs_ok  : kLs  (.ok o ρ p) = kLs2 o ρ p ((look ρ o).map isL) := rfl
theorem kLs_exc  : kLs  (.exc e en ed ρ) = .exc e en ed ρ := rfl
theorem kLs_bad  : kLs  .bad = .bad := rfl
theorem ev_mLs : mLs m ρ = kLs (m ρ) := by
  unfold mLs kLs
  cases m ρ with
  | ok o ρ1 p =>
    dsimp only
    unfold kLs2
    cases (look ρ1 o).map isL with
    | none => rfl
    | some b => cases b <;> rfl
  | exc => rfl
  | bad => rfl
def kA2 (os : List Op) (p : Bool) (r : R (List Op)) : R (List Op) := match r with
  | .ok us ρ q => if (os.any Op.deep && !q) = true then .bad else .ok (os ++ us) ρ (p && q)
  | .exc c n d ρ => .exc c n d ρ
  | .bad => .bad
theorem kA2_ok  : kA2 os p (.ok us ρ q) = if (os.any Op.deep && !q) = true then .bad else .ok (os ++ us) ρ (p && q) := rfl
theorem kA2_exc  : kA2 os p (.exc e en ed ρ) = .exc e en ed ρ := rfl
theorem kA2_bad  : kA2 os p .bad = .bad := rfl
def kA1 (mk : Env → R (List Op)) (r : R (List Op)) : R (List Op) := match r with
  | .ok os ρ p => kA2 os p (mk ρ)
  | .exc c n d ρ => .exc c n d ρ
  | .bad => .bad
theorem kA1_ok  : kA1 mk (.ok os ρ p) = kA2 os p (mk ρ) := rfl
theorem kA1_exc  : kA1 mk (.exc e en ed ρ) = .exc e en ed ρ := rfl
theorem kA1_bad  : kA1 mk .bad = .bad := rfl
theorem ev_mApp : mApp ms mk ρ = kA1 mk (ms ρ) := by
  unfold mApp kA1
  cases ms ρ with
  | ok o ρ1 p =>
    dsimp only
    unfold kA2
    cases mk ρ1 <;> rfl
  | exc => rfl
  | bad => rfl
def kF3 (md : List Md) (t : T) : Option Env → R Op
  | some ρ => .ok (.tm t) ρ (noIo md)
  | none => .bad
theorem kF3_some  : kF3 md t (some ρ) = .ok (.tm t) ρ (noIo md) := rfl
def kF4 (c : String) (n : List Str) (d : List PyData) : Option Env → R Op
  | some ρ => .exc c n d ρ
  | none => .bad
theorem kF4_some  : kF4 e en ed (some ρ) = .exc e en ed ρ := rfl
def kF2 (md : List Md) (ρ : Env) (os : List Op) (r : RF) : R Op := match r with
  | .ret t us => kF3 md t (putBack ρ os us)
  | .exc c n d us => kF4 c n d (putBack ρ os us)
  | .bad => .bad
theorem kF2_ret {ro : Env} : kF2 md ρ os (.ret t ro) = kF3 md t (putBack ρ os ro) := rfl
theorem kF2_exc {ro : Env} : kF2 md ρ os (.exc e en ed ro) = kF4 e en ed (putBack ρ os ro) := rfl
def kF1 (md : List Md) (F : List T → RF) (os : List Op) : Option (List T × Env) → R Op
  | some (ts, ρ) => if holes ρ os = true then kF2 md ρ os (F ts) else .bad
  | none => .bad
theorem kF1_some  : kF1 md F os (some (ts, ρ)) = if holes ρ os = true then kF2 md ρ os (F ts) else .bad := rfl
theorem ev_fCall : fCall md F ρ os = kF1 md F os (moveOut md ρ os) := by
  unfold fCall kF1
  cases moveOut md ρ os with
  | none => rfl
  | some z =>
    obtain ⟨ts, ρh⟩ := z
    dsimp only
    split
    · unfold kF2
      cases F ts with
      | ret t us =>
        dsimp only
        unfold kF3
        cases putBack ρh os us <;> rfl
      | exc c n d us =>
        dsimp only
        unfold kF4
        cases putBack ρh os us <;> rfl
      | bad => rfl
    · rfl
def kK2 (ρ : Env) (r : RF) : R Op := match r with
  | .ret t _ => .ok (.tm t) ρ true
  | .exc c n d _ => .exc c n d ρ
  | .bad => .bad
theorem kK2_ret {ro : Env} : kK2 ρ (.ret t ro) = .ok (.tm t) ρ true := rfl
theorem kK2_exc {ro : Env} : kK2 ρ (.exc e en ed ro) = .exc e en ed ρ := rfl
def kK1 (arr : Arr) (F : List T → RF) (ρ : Env) : Option (List T × Env) → R Op
  | some (ts, _) => kK2 ρ (F (arrT arr ts))
  | none => .bad
theorem kK1_some  : kK1 arr F ρ (some (ts, ρ1)) = kK2 ρ (F (arrT arr ts)) := rfl
theorem ev_fCallK : fCallK n arr F ρ os = kK1 arr F ρ (moveOut (List.replicate n .sh) ρ os) := by
  unfold fCallK kK1
  cases moveOut (List.replicate n .sh) ρ os with
  | none => rfl
  | some z =>
    obtain ⟨ts, ρh⟩ := z
    dsimp only
    unfold kK2
    cases F (arrT arr ts) <;> rfl
def kRun (md : List Md) (r : R Fl) : RF := match r with
  | .ok .nx ρ _ => .ret (.d .none) (outs md ρ)
  | .ok (.rt t) ρ _ => .ret t (outs md ρ)
  | .exc c n d ρ => .exc c n d (outs md ρ)
  | _ => .bad
theorem kRun_nx  : kRun md (.ok .nx ρ p) = .ret (.d .none) (outs md ρ) := rfl
theorem kRun_rt  : kRun md (.ok (.rt t) ρ p) = .ret t (outs md ρ) := rfl
theorem kRun_exc  : kRun md (.exc e en ed ρ) = .exc e en ed (outs md ρ) := rfl
theorem kRun_bad  : kRun md .bad = .bad := rfl
theorem ev_runF : runF n md x ts = kRun md (x (ts.map some ++ List.replicate (n - ts.length) none)) := by
  unfold runF kRun
  cases x (ts.map some ++ List.replicate (n - ts.length) none) with
  | ok f ρ p => cases f <;> rfl
  | exc => rfl
  | bad => rfl
theorem ev_mDct0  : mDct0 ρ = .ok (.tm (.k [] [])) ρ true := rfl
def kDc2 (ρ : Env) (p : Bool) : Option (List Key × List T) → R Op
  | some (ks, ts) => if ks.length ≤ 15 then .ok (.tm (.k ks ts)) ρ p else .bad
  | none => .bad
theorem kDc2_some {ks : List Key} : kDc2 ρ p (some (ks, ts)) = if ks.length ≤ 15 then .ok (.tm (.k ks ts)) ρ p else .bad := rfl
def kDc  (r : R (List Op)) : R Op := match r with
  | .ok os ρ p => kDc2 ρ p ((tms os).bind keysT)
  | .exc c n d ρ => .exc c n d ρ
  | .bad => .bad
theorem kDc_ok  : kDc  (.ok os ρ p) = kDc2 ρ p ((tms os).bind keysT) := rfl
theorem kDc_exc  : kDc  (.exc e en ed ρ) = .exc e en ed ρ := rfl
theorem kDc_bad  : kDc  .bad = .bad := rfl
theorem ev_mDct : mDct ms ρ = kDc (ms ρ) := by
  unfold mDct kDc
  cases ms ρ with
  | ok os ρ1 p =>
    dsimp only
    unfold kDc2
    cases (tms os).bind keysT with
    | none => rfl
    | some z => rfl
  | exc => rfl
  | bad => rfl
end
end MV
/-! MvZ: small plain facts for the laws. -/
namespace MV
open PySem L2
theorem fzL_fn {α : Type} (f : α → PyData) (ds : List α) : T.fzL (ds.map fun d => T.d (f d)) = some (ds.map f) := by
  have := fzL_map_d (ds.map f)
  rwa [List.map_map] at this
theorem blsD_fn {α : Type} (f : α → Bool) (ds : List α) : blsD (ds.map fun d => .bool (f d)) = some (ds.map f) := by
  induction ds with
  | nil => rfl
  | cons d ds ih =>
    show (blsD (ds.map fun d => .bool (f d))).map (f d :: ·) = _
    rw [ih]
    rfl
theorem intsD_fn {α : Type} (f : α → Int) (ds : List α) : intsD (ds.map fun d => .int (f d)) = some (ds.map f) := by
  induction ds with
  | nil => rfl
  | cons d ds ih =>
    show (intsD (ds.map fun d => .int (f d))).map (f d :: ·) = _
    rw [ih]
    rfl
theorem strsD_fn {α : Type} (f : α → Str) (ds : List α) : strsD (ds.map fun d => .str (f d)) = some (ds.map f) := by
  induction ds with
  | nil => rfl
  | cons d ds ih =>
    show (strsD (ds.map fun d => .str (f d))).map (f d :: ·) = _
    rw [ih]
    rfl
theorem all_id_map {α : Type} (f : α → Bool) (ds : List α) : (ds.map f).all id = ds.all f := by
  induction ds with
  | nil => rfl
  | cons d ds ih => simp [ih]
def isI : PyData → Bool
  | .int _ => true
  | _ => false
end MV
/-! printed by gen.py: the walk of sumaudit_k10_names_integers_and_defaults -/
namespace K10
open PySem L2 MV
def top (i : Nat) : Stmt := PySem.Challenge.pw_sumaudit_k10_names_integers_and_defaults.main.body.getD i (.Pass ⟨0, 0, 0, 0⟩)
abbrev s__law_is_word : Stmt := top 24
abbrev s__law_digit : Stmt := top 20
abbrev s__law_integer : Stmt := top 22
abbrev s__law_pick : Stmt := top 21
abbrev s__law_thing : Stmt := top 23
abbrev s_is_integer : Stmt := top 3
abbrev s_is_name : Stmt := top 4
abbrev s__law_names_right : Stmt := top 25
abbrev s__law_pot : Stmt := top 19
abbrev s_are_integers : Stmt := top 12
abbrev s_is_width : Stmt := top 13
abbrev s_require_width : Stmt := top 14
abbrev s_is_row : Stmt := top 15
abbrev s_require_index : Stmt := top 16
abbrev s_unit_row : Stmt := top 17
abbrev s__law_rows_right : Stmt := top 26
abbrev s_law : Stmt := top 27
structure Tx (K : PySem.W.Frag) (mg : Str → Option Value) where
  n_abs : mg ("abs" : Str) = none
  n_all : mg ("all" : Str) = none
  n_bool : mg ("bool" : Str) = none
  n_divmod : mg ("divmod" : Str) = none
  n_int : mg ("int" : Str) = none
  n_isinstance : mg ("isinstance" : Str) = none
  n_len : mg ("len" : Str) = none
  n_list : mg ("list" : Str) = none
  n_max : mg ("max" : Str) = none
  n_min : mg ("min" : Str) = none
  n_range : mg ("range" : Str) = none
  n_repr : mg ("repr" : Str) = none
  n_str : mg ("str" : Str) = none
  n_tuple : mg ("tuple" : Str) = none
  c_LETTERS : ∃ t, mg ("LETTERS" : Str) = some (.str ("abcdefghijklmnopqrstuvwxyz" : Str) t)
  c_MAX_WIDTH : ∃ t, mg ("MAX_WIDTH" : Str) = some (.int (16) t)
  c_MOST_LETTERS : ∃ t, mg ("MOST_LETTERS" : Str) = some (.int (8) t)
  a__law_is_word : Addr
  d__law_is_word : FuncData
  f__law_is_word : FunD K ("_law_is_word" : Str) ("_law_is_word" : Str) (defArgs s__law_is_word) (defBody s__law_is_word) (defScope s__law_is_word) [] [] a__law_is_word d__law_is_word
  g__law_is_word : mg ("_law_is_word" : Str) = some (.ref a__law_is_word)
  a__law_digit : Addr
  d__law_digit : FuncData
  f__law_digit : FunD K ("_law_digit" : Str) ("_law_digit" : Str) (defArgs s__law_digit) (defBody s__law_digit) (defScope s__law_digit) [] [] a__law_digit d__law_digit
  g__law_digit : mg ("_law_digit" : Str) = some (.ref a__law_digit)
  a__law_integer : Addr
  d__law_integer : FuncData
  f__law_integer : FunD K ("_law_integer" : Str) ("_law_integer" : Str) (defArgs s__law_integer) (defBody s__law_integer) (defScope s__law_integer) [] [] a__law_integer d__law_integer
  g__law_integer : mg ("_law_integer" : Str) = some (.ref a__law_integer)
  a__law_pick : Addr
  d__law_pick : FuncData
  f__law_pick : FunD K ("_law_pick" : Str) ("_law_pick" : Str) (defArgs s__law_pick) (defBody s__law_pick) (defScope s__law_pick) [] [] a__law_pick d__law_pick
  g__law_pick : mg ("_law_pick" : Str) = some (.ref a__law_pick)
  a__law_thing : Addr
  d__law_thing : FuncData
  f__law_thing : FunD K ("_law_thing" : Str) ("_law_thing" : Str) (defArgs s__law_thing) (defBody s__law_thing) (defScope s__law_thing) [] [] a__law_thing d__law_thing
  g__law_thing : mg ("_law_thing" : Str) = some (.ref a__law_thing)
  a_is_integer : Addr
  d_is_integer : FuncData
  f_is_integer : FunD K ("is_integer" : Str) ("is_integer" : Str) (defArgs s_is_integer) (defBody s_is_integer) (defScope s_is_integer) [] [] a_is_integer d_is_integer
  g_is_integer : mg ("is_integer" : Str) = some (.ref a_is_integer)
  a_is_name : Addr
  d_is_name : FuncData
  f_is_name : FunD K ("is_name" : Str) ("is_name" : Str) (defArgs s_is_name) (defBody s_is_name) (defScope s_is_name) [] [] a_is_name d_is_name
  g_is_name : mg ("is_name" : Str) = some (.ref a_is_name)
  a__law_names_right : Addr
  d__law_names_right : FuncData
  f__law_names_right : FunD K ("_law_names_right" : Str) ("_law_names_right" : Str) (defArgs s__law_names_right) (defBody s__law_names_right) (defScope s__law_names_right) [] [] a__law_names_right d__law_names_right
  g__law_names_right : mg ("_law_names_right" : Str) = some (.ref a__law_names_right)
  a__law_pot : Addr
  d__law_pot : FuncData
  f__law_pot : FunD K ("_law_pot" : Str) ("_law_pot" : Str) (defArgs s__law_pot) (defBody s__law_pot) (defScope s__law_pot) [] [] a__law_pot d__law_pot
  g__law_pot : mg ("_law_pot" : Str) = some (.ref a__law_pot)
  a_are_integers : Addr
  d_are_integers : FuncData
  f_are_integers : FunD K ("are_integers" : Str) ("are_integers" : Str) (defArgs s_are_integers) (defBody s_are_integers) (defScope s_are_integers) [] [] a_are_integers d_are_integers
  g_are_integers : mg ("are_integers" : Str) = some (.ref a_are_integers)
  a_is_width : Addr
  d_is_width : FuncData
  f_is_width : FunD K ("is_width" : Str) ("is_width" : Str) (defArgs s_is_width) (defBody s_is_width) (defScope s_is_width) [] [] a_is_width d_is_width
  g_is_width : mg ("is_width" : Str) = some (.ref a_is_width)
  a_require_width : Addr
  d_require_width : FuncData
  f_require_width : FunD K ("require_width" : Str) ("require_width" : Str) (defArgs s_require_width) (defBody s_require_width) (defScope s_require_width) [] [] a_require_width d_require_width
  g_require_width : mg ("require_width" : Str) = some (.ref a_require_width)
  a_is_row : Addr
  d_is_row : FuncData
  f_is_row : FunD K ("is_row" : Str) ("is_row" : Str) (defArgs s_is_row) (defBody s_is_row) (defScope s_is_row) [] [(("width" : Str), .non)] a_is_row d_is_row
  g_is_row : mg ("is_row" : Str) = some (.ref a_is_row)
  a_require_index : Addr
  d_require_index : FuncData
  f_require_index : FunD K ("require_index" : Str) ("require_index" : Str) (defArgs s_require_index) (defBody s_require_index) (defScope s_require_index) [] [] a_require_index d_require_index
  g_require_index : mg ("require_index" : Str) = some (.ref a_require_index)
  a_unit_row : Addr
  d_unit_row : FuncData
  f_unit_row : FunD K ("unit_row" : Str) ("unit_row" : Str) (defArgs s_unit_row) (defBody s_unit_row) (defScope s_unit_row) [] [(("factor" : Str), (.int 1))] a_unit_row d_unit_row
  g_unit_row : mg ("unit_row" : Str) = some (.ref a_unit_row)
  a__law_rows_right : Addr
  d__law_rows_right : FuncData
  f__law_rows_right : FunD K ("_law_rows_right" : Str) ("_law_rows_right" : Str) (defArgs s__law_rows_right) (defBody s__law_rows_right) (defScope s__law_rows_right) [] [] a__law_rows_right d__law_rows_right
  g__law_rows_right : mg ("_law_rows_right" : Str) = some (.ref a__law_rows_right)
  a_law : Addr
  d_law : FuncData
  f_law : FunD K ("law" : Str) ("law" : Str) (defArgs s_law) (defBody s_law) (defScope s_law) [] [] a_law d_law
  g_law : mg ("law" : Str) = some (.ref a_law)
section
variable {P : Program} {w : World} {K : PySem.W.Frag} {mg : Str → Option Value} {base : Heap} {ad : String → Addr}
theorem bn0 (T : Tx K mg) : Bn K T.d__law_digit [("pot" : Str), ("many" : Str)] 2 [] (idArr 2) := bn_all T.f__law_digit rfl (arr_ok rfl) fun kV doc pm an cdv ct us ws l1 l2 => match us, ws, l1, l2 with | [u0, u1], [], _, _ => rfl
theorem bn1 (T : Tx K mg) : Bn K T.d__law_integer [("pot" : Str)] 1 [] (idArr 1) := bn_all T.f__law_integer rfl (arr_ok rfl) fun kV doc pm an cdv ct us ws l1 l2 => match us, ws, l1, l2 with | [u0], [], _, _ => rfl
theorem bn2 (T : Tx K mg) : Bn K T.d__law_pick [("pot" : Str), ("some" : Str)] 2 [] (idArr 2) := bn_all T.f__law_pick rfl (arr_ok rfl) fun kV doc pm an cdv ct us ws l1 l2 => match us, ws, l1, l2 with | [u0, u1], [], _, _ => rfl
theorem bn3 (T : Tx K mg) : Bn K T.d__law_thing [("pot" : Str)] 1 [] (idArr 1) := bn_all T.f__law_thing rfl (arr_ok rfl) fun kV doc pm an cdv ct us ws l1 l2 => match us, ws, l1, l2 with | [u0], [], _, _ => rfl
theorem bn4 (T : Tx K mg) : Bn K T.d__law_is_word [("thing" : Str)] 1 [] (idArr 1) := bn_all T.f__law_is_word rfl (arr_ok rfl) fun kV doc pm an cdv ct us ws l1 l2 => match us, ws, l1, l2 with | [u0], [], _, _ => rfl
theorem bn5 (T : Tx K mg) : Bn K T.d_is_name [("value" : Str)] 1 [] (idArr 1) := bn_all T.f_is_name rfl (arr_ok rfl) fun kV doc pm an cdv ct us ws l1 l2 => match us, ws, l1, l2 with | [u0], [], _, _ => rfl
theorem bn6 (T : Tx K mg) : Bn K T.d_is_integer [("value" : Str)] 1 [] (idArr 1) := bn_all T.f_is_integer rfl (arr_ok rfl) fun kV doc pm an cdv ct us ws l1 l2 => match us, ws, l1, l2 with | [u0], [], _, _ => rfl
theorem bn7 (T : Tx K mg) : Bn K T.d_is_name [("value" : Str)] 0 [("value" : Str)] [.inl 0] := bn_all T.f_is_name rfl (arr_ok rfl) fun kV doc pm an cdv ct us ws l1 l2 => match us, ws, l1, l2 with | [], [w0], _, _ => rfl
theorem bn8 (T : Tx K mg) : Bn K T.d_is_integer [("value" : Str)] 0 [("value" : Str)] [.inl 0] := bn_all T.f_is_integer rfl (arr_ok rfl) fun kV doc pm an cdv ct us ws l1 l2 => match us, ws, l1, l2 with | [], [w0], _, _ => rfl
theorem bn9 (T : Tx K mg) : Bn K T.d_is_width [("value" : Str)] 1 [] (idArr 1) := bn_all T.f_is_width rfl (arr_ok rfl) fun kV doc pm an cdv ct us ws l1 l2 => match us, ws, l1, l2 with | [u0], [], _, _ => rfl
theorem bn10 (T : Tx K mg) : Bn K T.d_require_width [("width" : Str)] 1 [] (idArr 1) := bn_all T.f_require_width rfl (arr_ok rfl) fun kV doc pm an cdv ct us ws l1 l2 => match us, ws, l1, l2 with | [u0], [], _, _ => rfl
theorem bn11 (T : Tx K mg) : Bn K T.d_are_integers [("values" : Str)] 1 [] (idArr 1) := bn_all T.f_are_integers rfl (arr_ok rfl) fun kV doc pm an cdv ct us ws l1 l2 => match us, ws, l1, l2 with | [u0], [], _, _ => rfl
theorem bn12 (T : Tx K mg) : Bn K T.d_require_index [("index" : Str), ("width" : Str)] 2 [] (idArr 2) := bn_all T.f_require_index rfl (arr_ok rfl) fun kV doc pm an cdv ct us ws l1 l2 => match us, ws, l1, l2 with | [u0, u1], [], _, _ => rfl
theorem bn13 (T : Tx K mg) : Bn K T.d_is_row [("value" : Str), ("width" : Str)] 1 [] [.inl 0, .inr .none] := bn_kwd T.f_is_row [(("width" : Str), .non)] (by simp) rfl (List.cons_ne_nil _ _) (arr_ok rfl) fun D doc pm an cdv ct us ws mv l1 l2 l3 => match us, ws, mv, l1, l2, l3 with | [u0], [], [m0], _, _, _ => ⟨_, _, _, _, _, _, rfl, rfl, rfl⟩
theorem bn14 (T : Tx K mg) : Bn K T.d_is_row [("value" : Str), ("width" : Str)] 1 [("width" : Str)] [.inl 0, .inl 1] := bn_all T.f_is_row rfl (arr_ok rfl) fun kV doc pm an cdv ct us ws l1 l2 => match us, ws, l1, l2 with | [u0], [w0], _, _ => rfl
theorem bn15 (T : Tx K mg) : Bn K T.d_unit_row [("index" : Str), ("width" : Str), ("factor" : Str)] 1 [("width" : Str)] [.inl 0, .inl 1, .inr (.int 1)] := bn_kwd T.f_unit_row [(("factor" : Str), (.int 1))] (by simp) rfl (List.cons_ne_nil _ _) (arr_ok rfl) fun D doc pm an cdv ct us ws mv l1 l2 l3 => match us, ws, mv, l1, l2, l3 with | [u0], [w0], [m0], _, _, _ => ⟨_, _, _, _, _, _, rfl, rfl, rfl⟩
theorem bn16 (T : Tx K mg) : Bn K T.d_unit_row [("index" : Str), ("width" : Str), ("factor" : Str)] 1 [("width" : Str), ("factor" : Str)] [.inl 0, .inl 1, .inl 2] := bn_all T.f_unit_row rfl (arr_ok rfl) fun kV doc pm an cdv ct us ws l1 l2 => match us, ws, l1, l2 with | [u0], [w0, w1], _, _ => rfl
theorem bn17 (T : Tx K mg) : Bn K T.d_unit_row [("index" : Str), ("width" : Str), ("factor" : Str)] 1 [("factor" : Str), ("width" : Str)] [.inl 0, .inl 2, .inl 1] := bn_all T.f_unit_row rfl (arr_ok rfl) fun kV doc pm an cdv ct us ws l1 l2 => match us, ws, l1, l2 with | [u0], [w0, w1], _, _ => rfl
theorem bn18 (T : Tx K mg) : Bn K T.d__law_pot [("script" : Str), ("k" : Str)] 2 [] (idArr 2) := bn_all T.f__law_pot rfl (arr_ok rfl) fun kV doc pm an cdv ct us ws l1 l2 => match us, ws, l1, l2 with | [u0, u1], [], _, _ => rfl
theorem bn19 (T : Tx K mg) : Bn K T.d__law_names_right [("pot" : Str)] 1 [] (idArr 1) := bn_all T.f__law_names_right rfl (arr_ok rfl) fun kV doc pm an cdv ct us ws l1 l2 => match us, ws, l1, l2 with | [u0], [], _, _ => rfl
theorem bn20 (T : Tx K mg) : Bn K T.d__law_rows_right [("pot" : Str)] 1 [] (idArr 1) := bn_all T.f__law_rows_right rfl (arr_ok rfl) fun kV doc pm an cdv ct us ws l1 l2 => match us, ws, l1, l2 with | [u0], [], _, _ => rfl
def N__law_is_word : List Str := [("thing" : Str), ("sign" : Str)]
def z__law_is_word_0 : MS := (mRet (mD (.bool false)))
def z__law_is_word_1 : MS := (mIf (mOrB (mNotB (mTst (mOpN fIsi (mCons (mVar 0) (mCons (mV (.ty "str")) mNil))))) (mOrB (mTb (m2 (fD hLt) (mOpN fLen (mCons (mVar 0) mNil)) (mD (.int 1)))) (mTb (m2 (fD hGt) (mOpN fLen (mCons (mVar 0) mNil)) (mD (.int 8)))))) z__law_is_word_0 mSkip)
def q__law_is_word_0 : MI := (mSeqI (mVar 0))
def g__law_is_word_0 : MG := (mTgN [0] 1)
def e__law_is_word_0 : M := (mSh false (mCh hLe hLe (mD (.str ("a" : Str))) (mVar 1) (mD (.str ("z" : Str)))))
def z__law_is_word_2 : MS := (mRet (mSh true (mOpN (fD (hBls fun bs => bs.all id)) (mCons (mLc 2 [1] q__law_is_word_0 g__law_is_word_0 mYes e__law_is_word_0) mNil))))
def b__law_is_word : MS := (mSeq z__law_is_word_1
    z__law_is_word_2)
def m__law_is_word : List T → RF := runF 2 [.sh] b__law_is_word
theorem sc__law_is_word : FnScope N__law_is_word [("thing" : Str)] (defScope s__law_is_word) := ⟨rfl, rfl, rfl, by decide +kernel, rfl, by decide +kernel, by decide +kernel⟩
theorem ok__law_is_word (T : Tx K mg) : FnG P w K mg base 1 T.a__law_is_word T.d__law_is_word [("thing" : Str)] (spM (⟨K, ad⟩ : G) 1 m__law_is_word) := by
  have S := sc__law_is_word
  refine fun_ok (ms := [.sh]) (N := N__law_is_word) T.f__law_is_word S rfl fun cdv A outer s H E hr hg => ?_
  have hg : (A.deeper (PyProof.Rows.envOfC ("_law_is_word" : Str) (defScope s__law_is_word) s.heap.objs.size T.a__law_is_word cdv)).guards = some [] := hg
  have hu : (A.deeper (PyProof.Rows.envOfC ("_law_is_word" : Str) (defScope s__law_is_word) s.heap.objs.size T.a__law_is_word cdv)).units + 100 < cLine := by have := hr.un; omega
  exact (dss_cons (ds_if (dt_w (dw_or (dt_not (dt_val (de_isi (kitTy _) T.n_isinstance (da_cons (de_var (i := 0)) (da_cons (de_ty T.n_str PyProof.Rows.boot_str) da_nil))))) (dw_or (dt_lt (de_len T.n_len (da_cons (de_var (i := 0)) da_nil)) de_int) (dw_or1 (dt_gt (de_len T.n_len (da_cons (de_var (i := 0)) da_nil)) de_int))))) (dss_one (ds_ret de_bl)) dss_nil)
    (dss_one (ds_ret (de_sh true (de_all rfl T.n_all (da_cons (de_lc (P := [0]) (own := [(("sign" : Str), 1)]) rfl S.nd (blkOk_by rfl) rfl (covers_ok (P := [0]) rfl) (di_seq (de_var (i := 0))) (fun _ _ _ _ _ => (dg_name (i := 1) S.nd)) (fun _ _ _ _ _ => dts_nil) (fun _ _ _ _ _ => (de_sh false (de_ch op_leX op_leX de_str (de_var (i := 1)) de_str)))) da_nil))))))
def N__law_digit : List Str := [("pot" : Str), ("many" : Str), ("digit" : Str)]
def z__law_digit_0 : MS := (mAsgG (mTgT 2 (mGCons (mTgS (mVar 0) (mD (.int 0))) (mGCons (mTgN [0] 2) mGNil))) (mSh false (mOpN fDivmod (mCons (m2 fIx (mVar 0) (mSh true (mD (.int 0)))) (mCons (mVar 1) mNil)))))
def z__law_digit_1 : MS := (mRet (mVar 2))
def z__law_digit_2 : MS := (mIf (mTb (m2 (fD hGt) (m2 fIx (mVar 0) (mSh true (mD (.int 0)))) (mD (.int 0)))) (mSeq z__law_digit_0
    z__law_digit_1) mSkip)
def z__law_digit_3 : MS := (mAsgG (mTgS (mVar 0) (mD (.int 1))) (mSh false (m2 (fD hMod) (m2 fAdd (m2 fMul (m2 fIx (mVar 0) (mSh true (mD (.int 1)))) (mD (.int 39373))) (mD (.int 12227))) (mD (.int 2147483629)))))
def z__law_digit_4 : MS := (mRet (mSh true (m2 (fD hMod) (m2 (fD hDiv) (m2 (fD hMod) (m2 fMul (m2 fIx (mVar 0) (mSh true (mD (.int 1)))) (m2 fIx (mVar 0) (mSh true (mD (.int 1))))) (mD (.int 2147483563))) (mD (.int 13))) (mVar 1))))
def b__law_digit : MS := (mSeq z__law_digit_2
    (mSeq z__law_digit_3
    z__law_digit_4))
def m__law_digit : List T → RF := runF 3 [.io, .sh] b__law_digit
theorem sc__law_digit : FnScope N__law_digit [("pot" : Str), ("many" : Str)] (defScope s__law_digit) := ⟨rfl, rfl, rfl, by decide +kernel, rfl, by decide +kernel, by decide +kernel⟩
theorem ok__law_digit (T : Tx K mg) : FnG P w K mg base 1 T.a__law_digit T.d__law_digit [("pot" : Str), ("many" : Str)] (spM (⟨K, ad⟩ : G) 2 m__law_digit) := by
  have S := sc__law_digit
  refine fun_ok (ms := [.io, .sh]) (N := N__law_digit) T.f__law_digit S rfl fun cdv A outer s H E hr hg => ?_
  have hg : (A.deeper (PyProof.Rows.envOfC ("_law_digit" : Str) (defScope s__law_digit) s.heap.objs.size T.a__law_digit cdv)).guards = some [] := hg
  have hu : (A.deeper (PyProof.Rows.envOfC ("_law_digit" : Str) (defScope s__law_digit) s.heap.objs.size T.a__law_digit cdv)).units + 100 < cLine := by have := hr.un; omega
  exact (dss_cons (ds_if (dt_gt (de_sub_ix (de_var (i := 0)) de_int) de_int) (dss_cons (ds_asgG (de_sh false (de_divmod T.n_divmod (da_cons (de_sub_ix (de_var (i := 0)) de_int) (da_cons (de_var (i := 1)) da_nil)))) (dg_tup rfl (dgs_cons (dg_sub (de_var (i := 0)) de_int) (dgs_cons (dg_name (i := 2) S.nd) dgs_nil))))
    (dss_one (ds_ret (de_var (i := 2))))) dss_nil)
    (dss_cons (ds_asgG (de_sh false (de_mod (de_add (de_mul (de_sub_ix (de_var (i := 0)) de_int) de_int) de_int) de_int)) (dg_sub (de_var (i := 0)) de_int))
    (dss_one (ds_ret (de_sh true (de_mod (de_div (de_mod (de_mul (de_sub_ix (de_var (i := 0)) de_int) (de_sub_ix (de_var (i := 0)) de_int)) de_int) de_int) (de_var (i := 1))))))))
def N__law_integer : List Str := [("pot" : Str), ("way" : Str)]
def z__law_integer_0 : MS := (mAsg [0] 1 (mSh true (mOpN (fCall [.io, .sh] m__law_digit) (mCons (mVar 0) (mCons (mD (.int 8)) mNil)))))
def z__law_integer_1 : MS := (mRet (mSh true (m2 fIx (mSh true (mOpN fLst (mCons (mD (.int 0)) (mCons (mD (.int 1)) (mCons (mD (.int 1)) (mCons (mSh false (m1 (fD hNeg) (mD (.int 1)))) (mCons (mD (.int 2)) mNil))))))) (mSh true (mVar 1)))))
def z__law_integer_2 : MS := (mIf (mTb (m2 (fD hLt) (mVar 1) (mD (.int 5)))) z__law_integer_1 mSkip)
def z__law_integer_3 : MS := (mRet (mSh true (m2 (fD hSub) (mOpN (fCall [.io, .sh] m__law_digit) (mCons (mVar 0) (mCons (mD (.int 41)) mNil))) (mD (.int 20)))))
def z__law_integer_4 : MS := (mIf (mTb (m2 (fD hEq) (mVar 1) (mD (.int 5)))) z__law_integer_3 mSkip)
def z__law_integer_5 : MS := (mRet (mSh true (m2 fIx (mSh true (mOpN fLst (mCons (mSh false (m2 (fD hSub) (mOpN (fCall [.io, .sh] m__law_digit) (mCons (mVar 0) (mCons (mSh true (m2 (fD hPow) (mD (.int 10)) (mD (.int 12)))) mNil))) (m2 fMul (mD (.int 5)) (m2 (fD hPow) (mD (.int 10)) (mD (.int 11)))))) (mCons (mSh false (m2 fAdd (m2 (fD hSub) (mOpN (fCall [.io, .sh] m__law_digit) (mCons (mVar 0) (mCons (mSh true (m2 (fD hSub) (m2 fMul (mD (.int 2)) (m2 (fD hPow) (mD (.int 10)) (mD (.int 40)))) (mD (.int 1)))) mNil))) (m2 (fD hPow) (mD (.int 10)) (mD (.int 40)))) (mD (.int 1)))) mNil)))) (mSh true (m2 (fD hSub) (mVar 1) (mD (.int 6)))))))
def b__law_integer : MS := (mSeq z__law_integer_0
    (mSeq z__law_integer_2
    (mSeq z__law_integer_4
    z__law_integer_5)))
def m__law_integer : List T → RF := runF 2 [.io] b__law_integer
theorem sc__law_integer : FnScope N__law_integer [("pot" : Str)] (defScope s__law_integer) := ⟨rfl, rfl, rfl, by decide +kernel, rfl, by decide +kernel, by decide +kernel⟩
theorem ok__law_integer (T : Tx K mg) : FnG P w K mg base 2 T.a__law_integer T.d__law_integer [("pot" : Str)] (spM (⟨K, ad⟩ : G) 1 m__law_integer) := by
  have S := sc__law_integer
  refine fun_ok (ms := [.io]) (N := N__law_integer) T.f__law_integer S rfl fun cdv A outer s H E hr hg => ?_
  have hg : (A.deeper (PyProof.Rows.envOfC ("_law_integer" : Str) (defScope s__law_integer) s.heap.objs.size T.a__law_integer cdv)).guards = some [] := hg
  have hu : (A.deeper (PyProof.Rows.envOfC ("_law_integer" : Str) (defScope s__law_integer) s.heap.objs.size T.a__law_integer cdv)).units + 100 < cLine := by have := hr.un; omega
  exact (dss_cons (ds_asg (i := 1) (de_sh true (de_call (ms := [.io, .sh]) (m := m__law_digit) (ok__law_digit T) (hr.mono (by decide)) hg T.g__law_digit T.f__law_digit.kp (bn0 T) (da_cons (de_var (i := 0)) (da_cons de_int da_nil)) (len_cons (len_cons len_nil)))) S.nd)
    (dss_cons (ds_if (dt_lt (de_var (i := 1)) de_int) (dss_one (ds_ret (de_sh true (de_sub_ix (de_sh true (de_lst (da_cons de_int (da_cons de_int (da_cons de_int (da_cons (de_sh false (de_neg de_int)) (da_cons de_int da_nil))))))) (de_var (i := 1)))))) dss_nil)
    (dss_cons (ds_if (dt_eq hu (de_var (i := 1)) de_int) (dss_one (ds_ret (de_sh true (de_sub (de_call (ms := [.io, .sh]) (m := m__law_digit) (ok__law_digit T) (hr.mono (by decide)) hg T.g__law_digit T.f__law_digit.kp (bn0 T) (da_cons (de_var (i := 0)) (da_cons de_int da_nil)) (len_cons (len_cons len_nil))) de_int)))) dss_nil)
    (dss_one (ds_ret (de_sh true (de_sub_ix (de_sh true (de_lst (da_cons (de_sh false (de_sub (de_call (ms := [.io, .sh]) (m := m__law_digit) (ok__law_digit T) (hr.mono (by decide)) hg T.g__law_digit T.f__law_digit.kp (bn0 T) (da_cons (de_var (i := 0)) (da_cons (de_sh true (de_pow de_int de_int)) da_nil)) (len_cons (len_cons len_nil))) (de_mul de_int (de_pow de_int de_int)))) (da_cons (de_sh false (de_add (de_sub (de_call (ms := [.io, .sh]) (m := m__law_digit) (ok__law_digit T) (hr.mono (by decide)) hg T.g__law_digit T.f__law_digit.kp (bn0 T) (da_cons (de_var (i := 0)) (da_cons (de_sh true (de_sub (de_mul de_int (de_pow de_int de_int)) de_int)) da_nil)) (len_cons (len_cons len_nil))) (de_pow de_int de_int)) de_int)) da_nil)))) (de_sub (de_var (i := 1)) de_int))))))))
def N__law_pick : List Str := [("pot" : Str), ("some" : Str)]
def z__law_pick_0 : MS := (mRet (mSh true (m2 fIx (mVar 1) (mSh true (mOpN (fCall [.io, .sh] m__law_digit) (mCons (mVar 0) (mCons (mSh true (mOpN fLen (mCons (mVar 1) mNil))) mNil)))))))
def b__law_pick : MS := z__law_pick_0
def m__law_pick : List T → RF := runF 2 [.io, .sh] b__law_pick
theorem sc__law_pick : FnScope N__law_pick [("pot" : Str), ("some" : Str)] (defScope s__law_pick) := ⟨rfl, rfl, rfl, by decide +kernel, rfl, by decide +kernel, by decide +kernel⟩
theorem ok__law_pick (T : Tx K mg) : FnG P w K mg base 2 T.a__law_pick T.d__law_pick [("pot" : Str), ("some" : Str)] (spM (⟨K, ad⟩ : G) 2 m__law_pick) := by
  have S := sc__law_pick
  refine fun_ok (ms := [.io, .sh]) (N := N__law_pick) T.f__law_pick S rfl fun cdv A outer s H E hr hg => ?_
  have hg : (A.deeper (PyProof.Rows.envOfC ("_law_pick" : Str) (defScope s__law_pick) s.heap.objs.size T.a__law_pick cdv)).guards = some [] := hg
  have hu : (A.deeper (PyProof.Rows.envOfC ("_law_pick" : Str) (defScope s__law_pick) s.heap.objs.size T.a__law_pick cdv)).units + 100 < cLine := by have := hr.un; omega
  exact (dss_one (ds_ret (de_sh true (de_sub_ix (de_var (i := 1)) (de_call (ms := [.io, .sh]) (m := m__law_digit) (ok__law_digit T) (hr.mono (by decide)) hg T.g__law_digit T.f__law_digit.kp (bn0 T) (da_cons (de_var (i := 0)) (da_cons (de_sh true (de_len T.n_len (da_cons (de_var (i := 1)) da_nil))) da_nil)) (len_cons (len_cons len_nil)))))))
def N__law_thing : List Str := [("pot" : Str), ("letters" : Str), ("size" : Str), ("word" : Str), ("way" : Str), ("at" : Str), ("some" : Str), ("k" : Str)]
def z__law_thing_0 : MS := (mAsg [0] 1 (mD (.str ("abcdefghijklmnopqrstuvwxyz" : Str))))
def z__law_thing_1 : MS := (mAsg [0] 2 (mSh true (m2 fIx (mSh true (mOpN fLst (mCons (mSh false (mOpN (fCall [.io, .sh] m__law_digit) (mCons (mVar 0) (mCons (mD (.int 11)) mNil)))) (mCons (mD (.int 1)) (mCons (mD (.int 8)) (mCons (mD (.int 9)) mNil)))))) (mSh true (mOpN (fCall [.io, .sh] m__law_digit) (mCons (mVar 0) (mCons (mD (.int 4)) mNil)))))))
def q__law_thing_0 : MI := (mIOp fRng1 (mCons (mVar 2) mNil))
def g__law_thing_0 : MG := (mTgN [0, 1, 2, 3, 4, 5, 6] 7)
def e__law_thing_0 : M := (mSh false (m2 fIx (mVar 1) (mSh true (mOpN (fCall [.io, .sh] m__law_digit) (mCons (mVar 0) (mCons (mD (.int 26)) mNil))))))
def z__law_thing_2 : MS := (mAsg [0] 3 (mSh true (m2 (fD hJoin) (mStr (mD (.str ("" : Str)))) (mLc 8 [7] q__law_thing_0 g__law_thing_0 mYes e__law_thing_0))))
def z__law_thing_3 : MS := (mAsg [0] 4 (mSh true (mOpN (fCall [.io, .sh] m__law_digit) (mCons (mVar 0) (mCons (mD (.int 5)) mNil)))))
def z__law_thing_4 : MS := (mAsg [0] 5 (mSh true (mOpN (fCall [.io, .sh] m__law_digit) (mCons (mVar 0) (mCons (mSh true (mOpN fLen (mCons (mVar 3) mNil))) mNil)))))
def z__law_thing_5 : MS := (mRet (mSh true (m2 fAdd (m2 fAdd (mOpN fSl01 (mCons (mVar 3) (mCons (mInt (mVar 5)) mNil))) (m2 fIx (mD (.str ("ABYZ09 _-`{~@.,\n" : Str))) (mSh true (mOpN (fCall [.io, .sh] m__law_digit) (mCons (mVar 0) (mCons (mD (.int 16)) mNil)))))) (mOpN fSl10 (mCons (mVar 3) (mCons (mInt (m2 fAdd (mVar 5) (mD (.int 1)))) mNil))))))
def z__law_thing_6 : MS := (mIf (mAndB (mTb (m2 (fD hLt) (mVar 4) (mD (.int 2)))) (mTb (m2 (fD hNe) (mVar 3) (mD (.str ("" : Str)))))) (mSeq z__law_thing_4
    z__law_thing_5) mSkip)
def z__law_thing_7 : MS := (mRet (mVar 3))
def z__law_thing_8 : MS := (mIf (mTb (m2 (fD hLt) (mVar 4) (mD (.int 4)))) z__law_thing_7 mSkip)
def z__law_thing_9 : MS := (mAsg [0] 6 (mSh true (mOpN fLst (mCons (mD .none) (mCons (mD (.bool true)) (mCons (mD (.bool false)) (mCons (mD (.int 0)) (mCons (mSh false (m1 (fD hNeg) (mD (.int 1)))) (mCons (mSh false (mOpN (fCall [.io] m__law_integer) (mCons (mVar 0) mNil))) (mCons (mSh false (mOpN fLst mNil)) (mCons (mSh false (mOpN fTup mNil)) (mCons (mSh false mDct0) (mCons (mSh false (mOpN fLst (mCons (mSh false (mVar 3)) mNil))) (mCons (mSh false (mOpN fTup (mCons (mSh false (mVar 3)) mNil))) (mCons (mSh false (mDct (mCons (mSh true (mVar 3)) (mCons (mD (.int 1)) mNil)))) (mCons (mSh false (mOpN fTup (mCons (mD (.str ("a" : Str))) (mCons (mD (.str ("b" : Str))) mNil)))) mNil))))))))))))))))
def z__law_thing_10 : MS := (mRet (mSh true (mOpN (fCall [.io, .sh] m__law_pick) (mCons (mVar 0) (mCons (mSh true (mVar 6)) mNil)))))
def b__law_thing : MS := (mSeq z__law_thing_0
    (mSeq z__law_thing_1
    (mSeq z__law_thing_2
    (mSeq z__law_thing_3
    (mSeq z__law_thing_6
    (mSeq z__law_thing_8
    (mSeq z__law_thing_9
    z__law_thing_10)))))))
def m__law_thing : List T → RF := runF 8 [.io] b__law_thing
theorem sc__law_thing : FnScope N__law_thing [("pot" : Str)] (defScope s__law_thing) := ⟨rfl, rfl, rfl, by decide +kernel, rfl, by decide +kernel, by decide +kernel⟩
theorem ok__law_thing (T : Tx K mg) : FnG P w K mg base 3 T.a__law_thing T.d__law_thing [("pot" : Str)] (spM (⟨K, ad⟩ : G) 1 m__law_thing) := by
  have S := sc__law_thing
  refine fun_ok (ms := [.io]) (N := N__law_thing) T.f__law_thing S rfl fun cdv A outer s H E hr hg => ?_
  have hg : (A.deeper (PyProof.Rows.envOfC ("_law_thing" : Str) (defScope s__law_thing) s.heap.objs.size T.a__law_thing cdv)).guards = some [] := hg
  have hu : (A.deeper (PyProof.Rows.envOfC ("_law_thing" : Str) (defScope s__law_thing) s.heap.objs.size T.a__law_thing cdv)).units + 100 < cLine := by have := hr.un; omega
  exact (dss_cons (ds_asg (i := 1) de_str S.nd)
    (dss_cons (ds_asg (i := 2) (de_sh true (de_sub_ix (de_sh true (de_lst (da_cons (de_sh false (de_call (ms := [.io, .sh]) (m := m__law_digit) (ok__law_digit T) (hr.mono (by decide)) hg T.g__law_digit T.f__law_digit.kp (bn0 T) (da_cons (de_var (i := 0)) (da_cons de_int da_nil)) (len_cons (len_cons len_nil)))) (da_cons de_int (da_cons de_int (da_cons de_int da_nil)))))) (de_call (ms := [.io, .sh]) (m := m__law_digit) (ok__law_digit T) (hr.mono (by decide)) hg T.g__law_digit T.f__law_digit.kp (bn0 T) (da_cons (de_var (i := 0)) (da_cons de_int da_nil)) (len_cons (len_cons len_nil))))) S.nd)
    (dss_cons (ds_asg (i := 3) (de_sh true (de_join de_str (de_lc (P := [0, 1, 2, 3, 4, 5, 6]) (own := [(("k" : Str), 7)]) rfl S.nd (blkOk_by rfl) rfl (covers_ok (P := [0, 1, 2, 3, 4, 5, 6]) rfl) (di_range1 T.n_range (de_var (i := 2))) (fun _ _ _ _ _ => (dg_name (i := 7) S.nd)) (fun _ _ _ _ _ => dts_nil) (fun _ _ _ _ _ => (de_sh false (de_sub_ix (de_var (i := 1)) (de_call (ms := [.io, .sh]) (m := m__law_digit) (ok__law_digit T) (hr.mono (by decide)) hg T.g__law_digit T.f__law_digit.kp (bn0 T) (da_cons (de_var (i := 0)) (da_cons de_int da_nil)) (len_cons (len_cons len_nil))))))))) S.nd)
    (dss_cons (ds_asg (i := 4) (de_sh true (de_call (ms := [.io, .sh]) (m := m__law_digit) (ok__law_digit T) (hr.mono (by decide)) hg T.g__law_digit T.f__law_digit.kp (bn0 T) (da_cons (de_var (i := 0)) (da_cons de_int da_nil)) (len_cons (len_cons len_nil)))) S.nd)
    (dss_cons (ds_if (dt_w (dw_and (dt_lt (de_var (i := 4)) de_int) (dw_and1 (dt_ne hu (de_var (i := 3)) de_str)))) (dss_cons (ds_asg (i := 5) (de_sh true (de_call (ms := [.io, .sh]) (m := m__law_digit) (ok__law_digit T) (hr.mono (by decide)) hg T.g__law_digit T.f__law_digit.kp (bn0 T) (da_cons (de_var (i := 0)) (da_cons (de_sh true (de_len T.n_len (da_cons (de_var (i := 3)) da_nil))) da_nil)) (len_cons (len_cons len_nil)))) S.nd)
    (dss_one (ds_ret (de_sh true (de_add (de_add (de_sl01 (de_var (i := 3)) (de_var (i := 5))) (de_sub_ix de_str (de_call (ms := [.io, .sh]) (m := m__law_digit) (ok__law_digit T) (hr.mono (by decide)) hg T.g__law_digit T.f__law_digit.kp (bn0 T) (da_cons (de_var (i := 0)) (da_cons de_int da_nil)) (len_cons (len_cons len_nil))))) (de_sl10 (de_var (i := 3)) (de_add (de_var (i := 5)) de_int))))))) dss_nil)
    (dss_cons (ds_if (dt_lt (de_var (i := 4)) de_int) (dss_one (ds_ret (de_var (i := 3)))) dss_nil)
    (dss_cons (ds_asg (i := 6) (de_sh true (de_lst (da_cons de_non (da_cons de_bl (da_cons de_bl (da_cons de_int (da_cons (de_sh false (de_neg de_int)) (da_cons (de_sh false (de_call (ms := [.io]) (m := m__law_integer) (ok__law_integer T) (hr.mono (by decide)) hg T.g__law_integer T.f__law_integer.kp (bn1 T) (da_cons (de_var (i := 0)) da_nil) (len_cons len_nil))) (da_cons (de_sh false (de_lst da_nil)) (da_cons (de_sh false (de_tup da_nil)) (da_cons (de_sh false de_dct0) (da_cons (de_sh false (de_lst (da_cons (de_sh false (de_var (i := 3))) da_nil))) (da_cons (de_sh false (de_tup (da_cons (de_sh false (de_var (i := 3))) da_nil))) (da_cons (de_sh false (de_dct (dp_cons (de_sh true (de_var (i := 3))) de_int dp_nil))) (da_cons (de_sh false (de_tup (da_cons de_str (da_cons de_str da_nil)))) da_nil))))))))))))))) S.nd)
    (dss_one (ds_ret (de_sh true (de_call (ms := [.io, .sh]) (m := m__law_pick) (ok__law_pick T) (hr.mono (by decide)) hg T.g__law_pick T.f__law_pick.kp (bn2 T) (da_cons (de_var (i := 0)) (da_cons (de_sh true (de_var (i := 6))) da_nil)) (len_cons (len_cons len_nil)))))))))))))
def N_is_integer : List Str := [("value" : Str)]
def z_is_integer_0 : MS := (mRet (mSh true (mAndV (mOpN fIsi (mCons (mVar 0) (mCons (mV (.ty "int")) mNil))) (mNotV (mTb (mOpN fIsi (mCons (mVar 0) (mCons (mV (.ty "bool")) mNil))))))))
def b_is_integer : MS := z_is_integer_0
def m_is_integer : List T → RF := runF 1 [.sh] b_is_integer
theorem sc_is_integer : FnScope N_is_integer [("value" : Str)] (defScope s_is_integer) := ⟨rfl, rfl, rfl, by decide +kernel, rfl, by decide +kernel, by decide +kernel⟩
theorem ok_is_integer (T : Tx K mg) : FnG P w K mg base 1 T.a_is_integer T.d_is_integer [("value" : Str)] (spM (⟨K, ad⟩ : G) 1 m_is_integer) := by
  have S := sc_is_integer
  refine fun_ok (ms := [.sh]) (N := N_is_integer) T.f_is_integer S rfl fun cdv A outer s H E hr hg => ?_
  have hg : (A.deeper (PyProof.Rows.envOfC ("is_integer" : Str) (defScope s_is_integer) s.heap.objs.size T.a_is_integer cdv)).guards = some [] := hg
  have hu : (A.deeper (PyProof.Rows.envOfC ("is_integer" : Str) (defScope s_is_integer) s.heap.objs.size T.a_is_integer cdv)).units + 100 < cLine := by have := hr.un; omega
  exact (dss_one (ds_ret (de_sh true (de_and (de_isi (kitTy _) T.n_isinstance (da_cons (de_var (i := 0)) (da_cons (de_ty T.n_int PyProof.Rows.boot_int) da_nil))) (de_and1 (de_not (de_isi (kitTy _) T.n_isinstance (da_cons (de_var (i := 0)) (da_cons (de_ty T.n_bool PyProof.Rows.boot_bool) da_nil)))))))))
def N_is_name : List Str := [("value" : Str), ("letter" : Str)]
def z_is_name_0 : MS := (mRet (mD (.bool false)))
def z_is_name_1 : MS := (mIf (mOrB (mNotB (mTst (mOpN fIsi (mCons (mVar 0) (mCons (mV (.ty "str")) mNil))))) (mNotB (mTb (mCh hLe hLe (mD (.int 1)) (mOpN fLen (mCons (mVar 0) mNil)) (mD (.int 8)))))) z_is_name_0 mSkip)
def q_is_name_0 : MI := (mSeqI (mVar 0))
def g_is_name_0 : MG := (mTgN [0] 1)
def e_is_name_0 : M := (mSh false (m2 (fD (hIn false)) (mVar 1) (mD (.str ("abcdefghijklmnopqrstuvwxyz" : Str)))))
def z_is_name_2 : MS := (mRet (mSh true (mOpN (fD (hBls fun bs => bs.all id)) (mCons (mLc 2 [1] q_is_name_0 g_is_name_0 mYes e_is_name_0) mNil))))
def b_is_name : MS := (mSeq z_is_name_1
    z_is_name_2)
def m_is_name : List T → RF := runF 2 [.sh] b_is_name
theorem sc_is_name : FnScope N_is_name [("value" : Str)] (defScope s_is_name) := ⟨rfl, rfl, rfl, by decide +kernel, rfl, by decide +kernel, by decide +kernel⟩
theorem ok_is_name (T : Tx K mg) : FnG P w K mg base 1 T.a_is_name T.d_is_name [("value" : Str)] (spM (⟨K, ad⟩ : G) 1 m_is_name) := by
  have S := sc_is_name
  refine fun_ok (ms := [.sh]) (N := N_is_name) T.f_is_name S rfl fun cdv A outer s H E hr hg => ?_
  have hg : (A.deeper (PyProof.Rows.envOfC ("is_name" : Str) (defScope s_is_name) s.heap.objs.size T.a_is_name cdv)).guards = some [] := hg
  have hu : (A.deeper (PyProof.Rows.envOfC ("is_name" : Str) (defScope s_is_name) s.heap.objs.size T.a_is_name cdv)).units + 100 < cLine := by have := hr.un; omega
  exact (dss_cons (ds_if (dt_w (dw_or (dt_not (dt_val (de_isi (kitTy _) T.n_isinstance (da_cons (de_var (i := 0)) (da_cons (de_ty T.n_str PyProof.Rows.boot_str) da_nil))))) (dw_or1 (dt_not (dt_ch op_leX op_leX de_int (de_len T.n_len (da_cons (de_var (i := 0)) da_nil)) (de_gI T.c_MOST_LETTERS)))))) (dss_one (ds_ret de_bl)) dss_nil)
    (dss_one (ds_ret (de_sh true (de_all rfl T.n_all (da_cons (de_lc (P := [0]) (own := [(("letter" : Str), 1)]) rfl S.nd (blkOk_by rfl) rfl (covers_ok (P := [0]) rfl) (di_seq (de_var (i := 0))) (fun _ _ _ _ _ => (dg_name (i := 1) S.nd)) (fun _ _ _ _ _ => dts_nil) (fun _ _ _ _ _ => (de_sh false (de_in hu (de_var (i := 1)) (de_gS T.c_LETTERS))))) da_nil))))))
def N__law_names_right : List Str := [("pot" : Str), ("thing" : Str), ("is_whole" : Str), ("shown" : Str), ("due" : Str), ("told" : Str), ("again" : Str)]
def z__law_names_right_0 : MS := (mAsg [0] 1 (mSh true (mOpN (fCall [.io] m__law_thing) (mCons (mVar 0) mNil))))
def z__law_names_right_1 : MS := (mAsg [0] 2 (mSh true (mAndV (mOpN fIsi (mCons (mVar 1) (mCons (mV (.ty "int")) mNil))) (mNotV (mTb (mOpN fIsi (mCons (mVar 1) (mCons (mV (.ty "bool")) mNil))))))))
def z__law_names_right_2 : MS := (mPar [0] 3 4 (mCons (mSh true (mOpN (fD hRepr) (mCons (mVar 1) mNil))) (mCons (mSh true (mOpN fLst (mCons (mSh false (mOpN (fCall [.sh] m__law_is_word) (mCons (mSh true (mVar 1)) mNil))) (mCons (mSh false (mVar 2)) mNil)))) mNil)))
def z__law_names_right_3 : MS := (mAsg [0] 5 (mSh true (mOpN fLst (mCons (mSh false (mOpN (fCall [.sh] m_is_name) (mCons (mSh true (mVar 1)) mNil))) (mCons (mSh false (mOpN (fCall [.sh] m_is_integer) (mCons (mSh true (mVar 1)) mNil))) mNil)))))
def z__law_names_right_4 : MS := (mAsg [0] 6 (mSh true (mOpN fLst (mCons (mSh false (mOpN (fCallK 1 [.inl 0] m_is_name) (mCons (mSh true (mVar 1)) mNil))) (mCons (mSh false (mOpN (fCallK 1 [.inl 0] m_is_integer) (mCons (mSh true (mVar 1)) mNil))) mNil)))))
def z__law_names_right_5 : MS := (mRet (mSh true (mAndV (m2 (fD hEq) (mOpN (fD hRepr) (mCons (mOpN fLst (mCons (mSh false (mVar 5)) (mCons (mSh false (mVar 6)) mNil))) mNil)) (mOpN (fD hRepr) (mCons (mOpN fLst (mCons (mSh false (mVar 4)) (mCons (mSh false (mVar 4)) mNil))) mNil))) (m2 (fD hEq) (mOpN (fD hRepr) (mCons (mVar 1) mNil)) (mVar 3)))))
def b__law_names_right : MS := (mSeq z__law_names_right_0
    (mSeq z__law_names_right_1
    (mSeq z__law_names_right_2
    (mSeq z__law_names_right_3
    (mSeq z__law_names_right_4
    z__law_names_right_5)))))
def m__law_names_right : List T → RF := runF 7 [.io] b__law_names_right
theorem sc__law_names_right : FnScope N__law_names_right [("pot" : Str)] (defScope s__law_names_right) := ⟨rfl, rfl, rfl, by decide +kernel, rfl, by decide +kernel, by decide +kernel⟩
theorem ok__law_names_right (T : Tx K mg) : FnG P w K mg base 4 T.a__law_names_right T.d__law_names_right [("pot" : Str)] (spM (⟨K, ad⟩ : G) 1 m__law_names_right) := by
  have S := sc__law_names_right
  refine fun_ok (ms := [.io]) (N := N__law_names_right) T.f__law_names_right S rfl fun cdv A outer s H E hr hg => ?_
  have hg : (A.deeper (PyProof.Rows.envOfC ("_law_names_right" : Str) (defScope s__law_names_right) s.heap.objs.size T.a__law_names_right cdv)).guards = some [] := hg
  have hu : (A.deeper (PyProof.Rows.envOfC ("_law_names_right" : Str) (defScope s__law_names_right) s.heap.objs.size T.a__law_names_right cdv)).units + 100 < cLine := by have := hr.un; omega
  exact (dss_cons (ds_asg (i := 1) (de_sh true (de_call (ms := [.io]) (m := m__law_thing) (ok__law_thing T) (hr.mono (by decide)) hg T.g__law_thing T.f__law_thing.kp (bn3 T) (da_cons (de_var (i := 0)) da_nil) (len_cons len_nil))) S.nd)
    (dss_cons (ds_asg (i := 2) (de_sh true (de_and (de_isi (kitTy _) T.n_isinstance (da_cons (de_var (i := 1)) (da_cons (de_ty T.n_int PyProof.Rows.boot_int) da_nil))) (de_and1 (de_not (de_isi (kitTy _) T.n_isinstance (da_cons (de_var (i := 1)) (da_cons (de_ty T.n_bool PyProof.Rows.boot_bool) da_nil))))))) S.nd)
    (dss_cons (ds_par (i := 3) (j := 4) rfl S.nd (da_cons (de_sh true (de_repr hg hu T.n_repr (da_cons (de_var (i := 1)) da_nil))) (da_cons (de_sh true (de_lst (da_cons (de_sh false (de_call (ms := [.sh]) (m := m__law_is_word) (ok__law_is_word T) (hr.mono (by decide)) hg T.g__law_is_word T.f__law_is_word.kp (bn4 T) (da_cons (de_sh true (de_var (i := 1))) da_nil) (len_cons len_nil))) (da_cons (de_sh false (de_var (i := 2))) da_nil)))) da_nil)))
    (dss_cons (ds_asg (i := 5) (de_sh true (de_lst (da_cons (de_sh false (de_call (ms := [.sh]) (m := m_is_name) (ok_is_name T) (hr.mono (by decide)) hg T.g_is_name T.f_is_name.kp (bn5 T) (da_cons (de_sh true (de_var (i := 1))) da_nil) (len_cons len_nil))) (da_cons (de_sh false (de_call (ms := [.sh]) (m := m_is_integer) (ok_is_integer T) (hr.mono (by decide)) hg T.g_is_integer T.f_is_integer.kp (bn6 T) (da_cons (de_sh true (de_var (i := 1))) da_nil) (len_cons len_nil))) da_nil)))) S.nd)
    (dss_cons (ds_asg (i := 6) (de_sh true (de_lst (da_cons (de_sh false (de_callW (ks := [("value" : Str)]) (arr := [.inl 0]) (m := m_is_name) (ok_is_name T) (hr.mono (by decide)) hg T.g_is_name T.f_is_name.kp (bn7 T) (arr_ok rfl) (dk_cons (de_sh true (de_var (i := 1))) dk_nil) (len_cons len_nil))) (da_cons (de_sh false (de_callW (ks := [("value" : Str)]) (arr := [.inl 0]) (m := m_is_integer) (ok_is_integer T) (hr.mono (by decide)) hg T.g_is_integer T.f_is_integer.kp (bn8 T) (arr_ok rfl) (dk_cons (de_sh true (de_var (i := 1))) dk_nil) (len_cons len_nil))) da_nil)))) S.nd)
    (dss_one (ds_ret (de_sh true (de_and (de_eq hu (de_repr hg hu T.n_repr (da_cons (de_lst (da_cons (de_sh false (de_var (i := 5))) (da_cons (de_sh false (de_var (i := 6))) da_nil))) da_nil)) (de_repr hg hu T.n_repr (da_cons (de_lst (da_cons (de_sh false (de_var (i := 4))) (da_cons (de_sh false (de_var (i := 4))) da_nil))) da_nil))) (de_and1 (de_eq hu (de_repr hg hu T.n_repr (da_cons (de_var (i := 1)) da_nil)) (de_var (i := 3)))))))))))))
def N__law_pot : List Str := [("script" : Str), ("k" : Str), ("cell" : Str)]
def z__law_pot_0 : MS := (mAsg [0] 2 (mSh true (mIfE (mTb (m2 (fD hLt) (mVar 1) (mOpN fLen (mCons (mVar 0) mNil)))) (m2 fIx (mVar 0) (mSh true (mVar 1))) (mD (.int 0)))))
def z__law_pot_1 : MS := (mRet (mOpN fLst (mCons (mSh false (mOpN (fD hMax2) (mCons (mD (.int 0)) (mCons (m2 (fD hSub) (mOpN (fD hAbs) (mCons (mVar 2) mNil)) (m2 (fD hPow) (mD (.int 10)) (mD (.int 18)))) mNil)))) (mCons (mSh false (m2 (fD hMod) (m2 fAdd (m2 fAdd (m2 fMul (m2 (fD hMod) (mOpN (fD hAbs) (mCons (mVar 2) mNil)) (mD (.int 2147483587))) (mD (.int 48271))) (m2 fMul (mD (.int 60013)) (mVar 1))) (mD (.int 41))) (mD (.int 2147483647)))) mNil))))
def b__law_pot : MS := (mSeq z__law_pot_0
    z__law_pot_1)
def m__law_pot : List T → RF := runF 3 [.io, .sh] b__law_pot
theorem sc__law_pot : FnScope N__law_pot [("script" : Str), ("k" : Str)] (defScope s__law_pot) := ⟨rfl, rfl, rfl, by decide +kernel, rfl, by decide +kernel, by decide +kernel⟩
theorem ok__law_pot (T : Tx K mg) : FnG P w K mg base 1 T.a__law_pot T.d__law_pot [("script" : Str), ("k" : Str)] (spM (⟨K, ad⟩ : G) 2 m__law_pot) := by
  have S := sc__law_pot
  refine fun_ok (ms := [.io, .sh]) (N := N__law_pot) T.f__law_pot S rfl fun cdv A outer s H E hr hg => ?_
  have hg : (A.deeper (PyProof.Rows.envOfC ("_law_pot" : Str) (defScope s__law_pot) s.heap.objs.size T.a__law_pot cdv)).guards = some [] := hg
  have hu : (A.deeper (PyProof.Rows.envOfC ("_law_pot" : Str) (defScope s__law_pot) s.heap.objs.size T.a__law_pot cdv)).units + 100 < cLine := by have := hr.un; omega
  exact (dss_cons (ds_asg (i := 2) (de_sh true (de_if (dt_lt (de_var (i := 1)) (de_len T.n_len (da_cons (de_var (i := 0)) da_nil))) (de_sub_ix (de_var (i := 0)) (de_var (i := 1))) de_int)) S.nd)
    (dss_one (ds_ret (de_lst (da_cons (de_sh false (de_max2 rfl T.n_max (da_cons de_int (da_cons (de_sub (de_abs T.n_abs (da_cons (de_var (i := 2)) da_nil)) (de_pow de_int de_int)) da_nil)))) (da_cons (de_sh false (de_mod (de_add (de_add (de_mul (de_mod (de_abs T.n_abs (da_cons (de_var (i := 2)) da_nil)) de_int) de_int) (de_mul de_int (de_var (i := 1)))) de_int) de_int)) da_nil))))))
def N_are_integers : List Str := [("values" : Str), ("value" : Str)]
def q_are_integers_0 : MI := (mSeqI (mVar 0))
def g_are_integers_0 : MG := (mTgN [0] 1)
def e_are_integers_0 : M := (mSh false (mOpN (fCall [.sh] m_is_integer) (mCons (mSh true (mVar 1)) mNil)))
def z_are_integers_0 : MS := (mRet (mSh true (mAndV (mOpN fIsi (mCons (mVar 0) (mCons (mOpN fTup (mCons (mSh false (mV (.ty "list"))) (mCons (mSh false (mV (.ty "tuple"))) mNil))) mNil))) (mOpN (fD (hBls fun bs => bs.all id)) (mCons (mLc 2 [1] q_are_integers_0 g_are_integers_0 mYes e_are_integers_0) mNil)))))
def b_are_integers : MS := z_are_integers_0
def m_are_integers : List T → RF := runF 2 [.sh] b_are_integers
theorem sc_are_integers : FnScope N_are_integers [("values" : Str)] (defScope s_are_integers) := ⟨rfl, rfl, rfl, by decide +kernel, rfl, by decide +kernel, by decide +kernel⟩
theorem ok_are_integers (T : Tx K mg) : FnG P w K mg base 2 T.a_are_integers T.d_are_integers [("values" : Str)] (spM (⟨K, ad⟩ : G) 1 m_are_integers) := by
  have S := sc_are_integers
  refine fun_ok (ms := [.sh]) (N := N_are_integers) T.f_are_integers S rfl fun cdv A outer s H E hr hg => ?_
  have hg : (A.deeper (PyProof.Rows.envOfC ("are_integers" : Str) (defScope s_are_integers) s.heap.objs.size T.a_are_integers cdv)).guards = some [] := hg
  have hu : (A.deeper (PyProof.Rows.envOfC ("are_integers" : Str) (defScope s_are_integers) s.heap.objs.size T.a_are_integers cdv)).units + 100 < cLine := by have := hr.un; omega
  exact (dss_one (ds_ret (de_sh true (de_and (de_isi (kitTy _) T.n_isinstance (da_cons (de_var (i := 0)) (da_cons (de_tup (da_cons (de_sh false (de_ty T.n_list PyProof.Rows.boot_list)) (da_cons (de_sh false (de_ty T.n_tuple PyProof.Rows.boot_tuple)) da_nil))) da_nil))) (de_and1 (de_all rfl T.n_all (da_cons (de_lc (P := [0]) (own := [(("value" : Str), 1)]) rfl S.nd (blkOk_by rfl) rfl (covers_ok (P := [0]) rfl) (di_seq (de_var (i := 0))) (fun _ _ _ _ _ => (dg_name (i := 1) S.nd)) (fun _ _ _ _ _ => dts_nil) (fun _ _ _ _ _ => (de_sh false (de_call (ms := [.sh]) (m := m_is_integer) (ok_is_integer T) (hr.mono (by decide)) hg T.g_is_integer T.f_is_integer.kp (bn6 T) (da_cons (de_sh true (de_var (i := 1))) da_nil) (len_cons len_nil))))) da_nil)))))))
def N_is_width : List Str := [("value" : Str)]
def z_is_width_0 : MS := (mRet (mSh true (mAndV (mOpN (fCall [.sh] m_is_integer) (mCons (mSh true (mVar 0)) mNil)) (mCh hLe hLe (mD (.int 1)) (mVar 0) (mD (.int 16))))))
def b_is_width : MS := z_is_width_0
def m_is_width : List T → RF := runF 1 [.sh] b_is_width
theorem sc_is_width : FnScope N_is_width [("value" : Str)] (defScope s_is_width) := ⟨rfl, rfl, rfl, by decide +kernel, rfl, by decide +kernel, by decide +kernel⟩
theorem ok_is_width (T : Tx K mg) : FnG P w K mg base 2 T.a_is_width T.d_is_width [("value" : Str)] (spM (⟨K, ad⟩ : G) 1 m_is_width) := by
  have S := sc_is_width
  refine fun_ok (ms := [.sh]) (N := N_is_width) T.f_is_width S rfl fun cdv A outer s H E hr hg => ?_
  have hg : (A.deeper (PyProof.Rows.envOfC ("is_width" : Str) (defScope s_is_width) s.heap.objs.size T.a_is_width cdv)).guards = some [] := hg
  have hu : (A.deeper (PyProof.Rows.envOfC ("is_width" : Str) (defScope s_is_width) s.heap.objs.size T.a_is_width cdv)).units + 100 < cLine := by have := hr.un; omega
  exact (dss_one (ds_ret (de_sh true (de_and (de_call (ms := [.sh]) (m := m_is_integer) (ok_is_integer T) (hr.mono (by decide)) hg T.g_is_integer T.f_is_integer.kp (bn6 T) (da_cons (de_sh true (de_var (i := 0))) da_nil) (len_cons len_nil)) (de_and1 (de_ch op_leX op_leX de_int (de_var (i := 0)) (de_gI T.c_MAX_WIDTH)))))))
def N_require_width : List Str := [("width" : Str)]
def z_require_width_0 : MS := (mIf (mNotB (mTst (mOpN (fCall [.sh] m_is_width) (mCons (mSh true (mVar 0)) mNil)))) nevS mSkip)
def b_require_width : MS := z_require_width_0
def m_require_width : List T → RF := runF 1 [.sh] b_require_width
theorem sc_require_width : FnScope N_require_width [("width" : Str)] (defScope s_require_width) := ⟨rfl, rfl, rfl, by decide +kernel, rfl, by decide +kernel, by decide +kernel⟩
theorem ok_require_width (T : Tx K mg) : FnG P w K mg base 3 T.a_require_width T.d_require_width [("width" : Str)] (spM (⟨K, ad⟩ : G) 1 m_require_width) := by
  have S := sc_require_width
  refine fun_ok (ms := [.sh]) (N := N_require_width) T.f_require_width S rfl fun cdv A outer s H E hr hg => ?_
  have hg : (A.deeper (PyProof.Rows.envOfC ("require_width" : Str) (defScope s_require_width) s.heap.objs.size T.a_require_width cdv)).guards = some [] := hg
  have hu : (A.deeper (PyProof.Rows.envOfC ("require_width" : Str) (defScope s_require_width) s.heap.objs.size T.a_require_width cdv)).units + 100 < cLine := by have := hr.un; omega
  exact (dss_one (ds_if (dt_not (dt_val (de_call (ms := [.sh]) (m := m_is_width) (ok_is_width T) (hr.mono (by decide)) hg T.g_is_width T.f_is_width.kp (bn9 T) (da_cons (de_sh true (de_var (i := 0))) da_nil) (len_cons len_nil)))) (dss_one ds_never) dss_nil))
def N_is_row : List Str := [("value" : Str), ("width" : Str)]
def z_is_row_0 : MS := (mExpr (mOpN (fCall [.sh] m_require_width) (mCons (mSh true (mVar 1)) mNil)))
def z_is_row_1 : MS := (mIf (mTb (m2 (fIsN true) (mVar 1) (mD .none))) z_is_row_0 mSkip)
def z_is_row_2 : MS := (mRet (mD (.bool false)))
def z_is_row_3 : MS := (mIf (mNotB (mTst (mOpN (fCall [.sh] m_are_integers) (mCons (mSh true (mVar 0)) mNil)))) z_is_row_2 mSkip)
def z_is_row_4 : MS := (mRet (mSh true (mIfE (mTb (m2 (fIsN false) (mVar 1) (mD .none))) (mOpN (fCall [.sh] m_is_width) (mCons (mSh true (mOpN fLen (mCons (mVar 0) mNil))) mNil)) (m2 (fD hEq) (mOpN fLen (mCons (mVar 0) mNil)) (mVar 1)))))
def b_is_row : MS := (mSeq z_is_row_1
    (mSeq z_is_row_3
    z_is_row_4))
def m_is_row : List T → RF := runF 2 [.sh, .sh] b_is_row
theorem sc_is_row : FnScope N_is_row [("value" : Str), ("width" : Str)] (defScope s_is_row) := ⟨rfl, rfl, rfl, by decide +kernel, rfl, by decide +kernel, by decide +kernel⟩
theorem ok_is_row (T : Tx K mg) : FnG P w K mg base 4 T.a_is_row T.d_is_row [("value" : Str), ("width" : Str)] (spM (⟨K, ad⟩ : G) 2 m_is_row) := by
  have S := sc_is_row
  refine fun_ok (ms := [.sh, .sh]) (N := N_is_row) T.f_is_row S rfl fun cdv A outer s H E hr hg => ?_
  have hg : (A.deeper (PyProof.Rows.envOfC ("is_row" : Str) (defScope s_is_row) s.heap.objs.size T.a_is_row cdv)).guards = some [] := hg
  have hu : (A.deeper (PyProof.Rows.envOfC ("is_row" : Str) (defScope s_is_row) s.heap.objs.size T.a_is_row cdv)).units + 100 < cLine := by have := hr.un; omega
  exact (dss_cons (ds_if (dt_notN (de_var (i := 1)) de_non) (dss_one (ds_expr (de_call (ms := [.sh]) (m := m_require_width) (ok_require_width T) (hr.mono (by decide)) hg T.g_require_width T.f_require_width.kp (bn10 T) (da_cons (de_sh true (de_var (i := 1))) da_nil) (len_cons len_nil)))) dss_nil)
    (dss_cons (ds_if (dt_not (dt_val (de_call (ms := [.sh]) (m := m_are_integers) (ok_are_integers T) (hr.mono (by decide)) hg T.g_are_integers T.f_are_integers.kp (bn11 T) (da_cons (de_sh true (de_var (i := 0))) da_nil) (len_cons len_nil)))) (dss_one (ds_ret de_bl)) dss_nil)
    (dss_one (ds_ret (de_sh true (de_if (dt_isN (de_var (i := 1)) de_non) (de_call (ms := [.sh]) (m := m_is_width) (ok_is_width T) (hr.mono (by decide)) hg T.g_is_width T.f_is_width.kp (bn9 T) (da_cons (de_sh true (de_len T.n_len (da_cons (de_var (i := 0)) da_nil))) da_nil) (len_cons len_nil)) (de_eq hu (de_len T.n_len (da_cons (de_var (i := 0)) da_nil)) (de_var (i := 1)))))))))
def N_require_index : List Str := [("index" : Str), ("width" : Str)]
def z_require_index_0 : MS := (mIf (mOrB (mNotB (mTst (mOpN (fCall [.sh] m_is_integer) (mCons (mSh true (mVar 0)) mNil)))) (mNotB (mTb (mCh hLe hLt (mD (.int 0)) (mVar 0) (mVar 1))))) nevS mSkip)
def b_require_index : MS := z_require_index_0
def m_require_index : List T → RF := runF 2 [.sh, .sh] b_require_index
theorem sc_require_index : FnScope N_require_index [("index" : Str), ("width" : Str)] (defScope s_require_index) := ⟨rfl, rfl, rfl, by decide +kernel, rfl, by decide +kernel, by decide +kernel⟩
theorem ok_require_index (T : Tx K mg) : FnG P w K mg base 2 T.a_require_index T.d_require_index [("index" : Str), ("width" : Str)] (spM (⟨K, ad⟩ : G) 2 m_require_index) := by
  have S := sc_require_index
  refine fun_ok (ms := [.sh, .sh]) (N := N_require_index) T.f_require_index S rfl fun cdv A outer s H E hr hg => ?_
  have hg : (A.deeper (PyProof.Rows.envOfC ("require_index" : Str) (defScope s_require_index) s.heap.objs.size T.a_require_index cdv)).guards = some [] := hg
  have hu : (A.deeper (PyProof.Rows.envOfC ("require_index" : Str) (defScope s_require_index) s.heap.objs.size T.a_require_index cdv)).units + 100 < cLine := by have := hr.un; omega
  exact (dss_one (ds_if (dt_w (dw_or (dt_not (dt_val (de_call (ms := [.sh]) (m := m_is_integer) (ok_is_integer T) (hr.mono (by decide)) hg T.g_is_integer T.f_is_integer.kp (bn6 T) (da_cons (de_sh true (de_var (i := 0))) da_nil) (len_cons len_nil)))) (dw_or1 (dt_not (dt_ch op_leX op_ltX de_int (de_var (i := 0)) (de_var (i := 1))))))) (dss_one ds_never) dss_nil))
def N_unit_row : List Str := [("index" : Str), ("width" : Str), ("factor" : Str), ("at" : Str)]
def z_unit_row_0 : MS := (mExpr (mOpN (fCall [.sh] m_require_width) (mCons (mSh true (mVar 1)) mNil)))
def z_unit_row_1 : MS := (mExpr (mOpN (fCall [.sh, .sh] m_require_index) (mCons (mSh true (mVar 0)) (mCons (mSh true (mVar 1)) mNil))))
def z_unit_row_2 : MS := (mIf (mNotB (mTst (mOpN (fCall [.sh] m_is_integer) (mCons (mSh true (mVar 2)) mNil)))) nevS mSkip)
def q_unit_row_0 : MI := (mIOp fRng1 (mCons (mVar 1) mNil))
def g_unit_row_0 : MG := (mTgN [0, 1, 2] 3)
def e_unit_row_0 : M := (mSh false (mIfE (mTb (m2 (fD hEq) (mVar 3) (mVar 0))) (mVar 2) (mD (.int 0))))
def z_unit_row_3 : MS := (mRet (mSh true (mLc 4 [3] q_unit_row_0 g_unit_row_0 mYes e_unit_row_0)))
def b_unit_row : MS := (mSeq z_unit_row_0
    (mSeq z_unit_row_1
    (mSeq z_unit_row_2
    z_unit_row_3)))
def m_unit_row : List T → RF := runF 4 [.sh, .sh, .sh] b_unit_row
theorem sc_unit_row : FnScope N_unit_row [("index" : Str), ("width" : Str), ("factor" : Str)] (defScope s_unit_row) := ⟨rfl, rfl, rfl, by decide +kernel, rfl, by decide +kernel, by decide +kernel⟩
theorem ok_unit_row (T : Tx K mg) : FnG P w K mg base 4 T.a_unit_row T.d_unit_row [("index" : Str), ("width" : Str), ("factor" : Str)] (spM (⟨K, ad⟩ : G) 3 m_unit_row) := by
  have S := sc_unit_row
  refine fun_ok (ms := [.sh, .sh, .sh]) (N := N_unit_row) T.f_unit_row S rfl fun cdv A outer s H E hr hg => ?_
  have hg : (A.deeper (PyProof.Rows.envOfC ("unit_row" : Str) (defScope s_unit_row) s.heap.objs.size T.a_unit_row cdv)).guards = some [] := hg
  have hu : (A.deeper (PyProof.Rows.envOfC ("unit_row" : Str) (defScope s_unit_row) s.heap.objs.size T.a_unit_row cdv)).units + 100 < cLine := by have := hr.un; omega
  exact (dss_cons (ds_expr (de_call (ms := [.sh]) (m := m_require_width) (ok_require_width T) (hr.mono (by decide)) hg T.g_require_width T.f_require_width.kp (bn10 T) (da_cons (de_sh true (de_var (i := 1))) da_nil) (len_cons len_nil)))
    (dss_cons (ds_expr (de_call (ms := [.sh, .sh]) (m := m_require_index) (ok_require_index T) (hr.mono (by decide)) hg T.g_require_index T.f_require_index.kp (bn12 T) (da_cons (de_sh true (de_var (i := 0))) (da_cons (de_sh true (de_var (i := 1))) da_nil)) (len_cons (len_cons len_nil))))
    (dss_cons (ds_if (dt_not (dt_val (de_call (ms := [.sh]) (m := m_is_integer) (ok_is_integer T) (hr.mono (by decide)) hg T.g_is_integer T.f_is_integer.kp (bn6 T) (da_cons (de_sh true (de_var (i := 2))) da_nil) (len_cons len_nil)))) (dss_one ds_never) dss_nil)
    (dss_one (ds_ret (de_sh true (de_lc (P := [0, 1, 2]) (own := [(("at" : Str), 3)]) rfl S.nd (blkOk_by rfl) rfl (covers_ok (P := [0, 1, 2]) rfl) (di_range1 T.n_range (de_var (i := 1))) (fun _ _ _ _ _ => (dg_name (i := 3) S.nd)) (fun _ _ _ _ _ => dts_nil) (fun _ _ _ _ _ => (de_sh false (de_if (dt_eq hu (de_var (i := 3)) (de_var (i := 0))) (de_var (i := 2)) de_int))))))))))
def N__law_rows_right : List Str := [("pot" : Str), ("wide" : Str), ("row" : Str), ("spoilt" : Str), ("at" : Str), ("due" : Str), ("told" : Str), ("full" : Str), ("k" : Str)]
def z__law_rows_right_0 : MS := (mAsg [0] 1 (mSh true (m2 fAdd (mD (.int 1)) (mOpN (fCall [.io, .sh] m__law_digit) (mCons (mVar 0) (mCons (mD (.int 16)) mNil))))))
def q__law_rows_right_0 : MI := (mIOp fRng1 (mCons (mVar 1) mNil))
def g__law_rows_right_0 : MG := (mTgN [0, 1, 2, 3, 4, 5, 6, 7] 8)
def e__law_rows_right_0 : M := (mSh false (mOpN (fCall [.io] m__law_integer) (mCons (mVar 0) mNil)))
def z__law_rows_right_1 : MS := (mAsg [0] 2 (mSh true (mLc 9 [8] q__law_rows_right_0 g__law_rows_right_0 mYes e__law_rows_right_0)))
def z__law_rows_right_2 : MS := (mAsg [0] 3 (mSh true (m2 fIx (mSh true (mOpN fLst (mCons (mSh false (mVar 2)) (mCons (mSh false (mOpN fTuple (mCons (mVar 2) mNil))) (mCons (mSh false (m2 fAdd (mVar 2) (mOpN fLst (mCons (mD (.bool true)) mNil)))) (mCons (mSh false (m2 fAdd (mVar 2) (mOpN fLst (mCons (mD .none) mNil)))) (mCons (mD (.str ("1" : Str))) (mCons (mD .none) (mCons (mSh false (mOpN fLst mNil)) (mCons (mSh false (mOpN fLst (mCons (mSh false (mVar 2)) mNil))) mNil)))))))))) (mSh true (mOpN (fCall [.io, .sh] m__law_digit) (mCons (mVar 0) (mCons (mD (.int 8)) mNil)))))))
def z__law_rows_right_3 : MS := (mRet (mD (.bool false)))
def z__law_rows_right_4 : MS := (mIf (mTb (m2 (fD hNe) (mOpN (fD hRepr) (mCons (mOpN (fCallK 1 [.inl 0, .inr .none] m_is_row) (mCons (mSh true (mVar 3)) mNil)) mNil)) (mOpN (fD hRepr) (mCons (mOpN (fCallK 2 [.inl 0, .inl 1] m_is_row) (mApp (mCons (mSh true (mVar 3)) mNil) (mCons (mD .none) mNil))) mNil)))) z__law_rows_right_3 mSkip)
def z__law_rows_right_5 : MS := (mAsg [0] 4 (mSh true (mOpN (fCall [.io, .sh] m__law_digit) (mCons (mVar 0) (mCons (mSh true (mVar 1)) mNil)))))
def q__law_rows_right_1 : MI := (mIOp fRng1 (mCons (mVar 1) mNil))
def g__law_rows_right_1 : MG := (mTgN [0, 1, 2, 3, 4, 5, 6, 7] 8)
def e__law_rows_right_1 : M := (mSh false (mOpN (fD hInt1) (mCons (m2 (fD hEq) (mVar 8) (mVar 4)) mNil)))
def z__law_rows_right_6 : MS := (mAsg [0] 5 (mSh true (mLc 9 [8] q__law_rows_right_1 g__law_rows_right_1 mYes e__law_rows_right_1)))
def z__law_rows_right_7 : MS := (mAsg [0] 6 (mSh true (mOpN fLst (mCons (mSh false (mOpN (fCallK 2 [.inl 0, .inl 1, .inr (.int 1)] m_unit_row) (mApp (mCons (mSh true (mVar 4)) mNil) (mCons (mSh true (mVar 1)) mNil)))) (mCons (mSh false (mOpN (fCallK 3 [.inl 0, .inl 1, .inl 2] m_unit_row) (mApp (mCons (mSh true (mVar 4)) mNil) (mCons (mSh true (mVar 1)) (mCons (mD (.int 1)) mNil))))) (mCons (mSh false (mOpN (fCallK 3 [.inl 0, .inl 2, .inl 1] m_unit_row) (mApp (mCons (mSh true (mVar 4)) mNil) (mCons (mD (.int 1)) (mCons (mSh true (mVar 1)) mNil))))) mNil))))))
def z__law_rows_right_8 : MS := (mRet (mD (.bool false)))
def z__law_rows_right_9 : MS := (mIf (mTb (m2 (fD hNe) (mOpN (fD hRepr) (mCons (mVar 6) mNil)) (mOpN (fD hRepr) (mCons (mOpN fLst (mCons (mSh false (mVar 5)) (mCons (mSh false (mVar 5)) (mCons (mSh false (mVar 5)) mNil)))) mNil)))) z__law_rows_right_8 mSkip)
def q__law_rows_right_2 : MI := (mIOp fRng1 (mCons (mD (.int 16)) mNil))
def g__law_rows_right_2 : MG := (mTgN [0, 1, 2, 3, 4, 5, 6, 7] 8)
def e__law_rows_right_2 : M := (mSh false (mOpN (fCall [.io] m__law_integer) (mCons (mVar 0) mNil)))
def z__law_rows_right_10 : MS := (mAsg [0] 7 (mSh true (mLc 9 [8] q__law_rows_right_2 g__law_rows_right_2 mYes e__law_rows_right_2)))
def z__law_rows_right_11 : MS := (mRet (mSh true (m2 (fD hEq) (mOpN fLst (mCons (mSh false (mOpN (fCallK 1 [.inl 0, .inr .none] m_is_row) (mCons (mSh true (mVar 7)) mNil))) (mCons (mSh false (mOpN (fCallK 1 [.inl 0, .inr .none] m_is_row) (mCons (mSh true (m2 fAdd (mVar 7) (mOpN fLst (mCons (mD (.int 1)) mNil)))) mNil))) (mCons (mSh false (mOpN (fCallK 1 [.inl 0, .inr .none] m_is_row) (mCons (mSh true (mOpN fSl01 (mCons (mVar 7) (mCons (mInt (mD (.int 0))) mNil)))) mNil))) (mCons (mSh false (mOpN (fCallK 1 [.inl 0, .inr .none] m_is_row) (mCons (mSh true (mOpN fSl01 (mCons (mVar 7) (mCons (mInt (mD (.int 1))) mNil)))) mNil))) mNil))))) (mOpN fLst (mCons (mD (.bool true)) (mCons (mD (.bool false)) (mCons (mD (.bool false)) (mCons (mD (.bool true)) mNil))))))))
def b__law_rows_right : MS := (mSeq z__law_rows_right_0
    (mSeq z__law_rows_right_1
    (mSeq z__law_rows_right_2
    (mSeq z__law_rows_right_4
    (mSeq z__law_rows_right_5
    (mSeq z__law_rows_right_6
    (mSeq z__law_rows_right_7
    (mSeq z__law_rows_right_9
    (mSeq z__law_rows_right_10
    z__law_rows_right_11)))))))))
def m__law_rows_right : List T → RF := runF 9 [.io] b__law_rows_right
theorem sc__law_rows_right : FnScope N__law_rows_right [("pot" : Str)] (defScope s__law_rows_right) := ⟨rfl, rfl, rfl, by decide +kernel, rfl, by decide +kernel, by decide +kernel⟩
theorem ok__law_rows_right (T : Tx K mg) : FnG P w K mg base 5 T.a__law_rows_right T.d__law_rows_right [("pot" : Str)] (spM (⟨K, ad⟩ : G) 1 m__law_rows_right) := by
  have S := sc__law_rows_right
  refine fun_ok (ms := [.io]) (N := N__law_rows_right) T.f__law_rows_right S rfl fun cdv A outer s H E hr hg => ?_
  have hg : (A.deeper (PyProof.Rows.envOfC ("_law_rows_right" : Str) (defScope s__law_rows_right) s.heap.objs.size T.a__law_rows_right cdv)).guards = some [] := hg
  have hu : (A.deeper (PyProof.Rows.envOfC ("_law_rows_right" : Str) (defScope s__law_rows_right) s.heap.objs.size T.a__law_rows_right cdv)).units + 100 < cLine := by have := hr.un; omega
  exact (dss_cons (ds_asg (i := 1) (de_sh true (de_add de_int (de_call (ms := [.io, .sh]) (m := m__law_digit) (ok__law_digit T) (hr.mono (by decide)) hg T.g__law_digit T.f__law_digit.kp (bn0 T) (da_cons (de_var (i := 0)) (da_cons de_int da_nil)) (len_cons (len_cons len_nil))))) S.nd)
    (dss_cons (ds_lcS (P0 := [0]) (i := 2) true (P := [0, 1, 2, 3, 4, 5, 6, 7]) (own := [(("k" : Str), 8)]) rfl S.nd (blkOk_by rfl) rfl (covers_ok (P := [0, 1, 2, 3, 4, 5, 6, 7]) rfl) (di_range1 T.n_range (de_var (i := 1))) (fun _ _ _ _ _ => (dg_name (i := 8) S.nd)) (fun _ _ _ _ _ => dts_nil) (fun _ _ _ _ _ => (de_sh false (de_call (ms := [.io]) (m := m__law_integer) (ok__law_integer T) (hr.mono (by decide)) hg T.g__law_integer T.f__law_integer.kp (bn1 T) (da_cons (de_var (i := 0)) da_nil) (len_cons len_nil)))))
    (dss_cons (ds_asg (i := 3) (de_sh true (de_sub_ix (de_sh true (de_lst (da_cons (de_sh false (de_var (i := 2))) (da_cons (de_sh false (de_tuple T.n_tuple (da_cons (de_var (i := 2)) da_nil))) (da_cons (de_sh false (de_add (de_var (i := 2)) (de_lst (da_cons de_bl da_nil)))) (da_cons (de_sh false (de_add (de_var (i := 2)) (de_lst (da_cons de_non da_nil)))) (da_cons de_str (da_cons de_non (da_cons (de_sh false (de_lst da_nil)) (da_cons (de_sh false (de_lst (da_cons (de_sh false (de_var (i := 2))) da_nil))) da_nil)))))))))) (de_call (ms := [.io, .sh]) (m := m__law_digit) (ok__law_digit T) (hr.mono (by decide)) hg T.g__law_digit T.f__law_digit.kp (bn0 T) (da_cons (de_var (i := 0)) (da_cons de_int da_nil)) (len_cons (len_cons len_nil))))) S.nd)
    (dss_cons (ds_if (dt_ne hu (de_repr hg hu T.n_repr (da_cons (de_callP (n := 1) (arr := [.inl 0, .inr .none]) (m := m_is_row) (ok_is_row T) (hr.mono (by decide)) hg T.g_is_row T.f_is_row.kp (bn13 T) (arr_ok rfl) (da_cons (de_sh true (de_var (i := 3))) da_nil) (len_cons len_nil)) da_nil)) (de_repr hg hu T.n_repr (da_cons (de_callK (n := 1) (ks := [("width" : Str)]) (arr := [.inl 0, .inl 1]) (m := m_is_row) (ok_is_row T) (hr.mono (by decide)) hg T.g_is_row T.f_is_row.kp (bn14 T) (arr_ok rfl) (da_cons (de_sh true (de_var (i := 3))) da_nil) (len_cons len_nil) (dk_cons de_non dk_nil) (len_cons len_nil)) da_nil))) (dss_one (ds_ret de_bl)) dss_nil)
    (dss_cons (ds_asg (i := 4) (de_sh true (de_call (ms := [.io, .sh]) (m := m__law_digit) (ok__law_digit T) (hr.mono (by decide)) hg T.g__law_digit T.f__law_digit.kp (bn0 T) (da_cons (de_var (i := 0)) (da_cons (de_sh true (de_var (i := 1))) da_nil)) (len_cons (len_cons len_nil)))) S.nd)
    (dss_cons (ds_lcS (P0 := [0]) (i := 5) true (P := [0, 1, 2, 3, 4, 5, 6, 7]) (own := [(("k" : Str), 8)]) rfl S.nd (blkOk_by rfl) rfl (covers_ok (P := [0, 1, 2, 3, 4, 5, 6, 7]) rfl) (di_range1 T.n_range (de_var (i := 1))) (fun _ _ _ _ _ => (dg_name (i := 8) S.nd)) (fun _ _ _ _ _ => dts_nil) (fun _ _ _ _ _ => (de_sh false (de_int1 T.n_int (da_cons (de_eq hu (de_var (i := 8)) (de_var (i := 4))) da_nil)))))
    (dss_cons (ds_asg (i := 6) (de_sh true (de_lst (da_cons (de_sh false (de_callK (n := 1) (ks := [("width" : Str)]) (arr := [.inl 0, .inl 1, .inr (.int 1)]) (m := m_unit_row) (ok_unit_row T) (hr.mono (by decide)) hg T.g_unit_row T.f_unit_row.kp (bn15 T) (arr_ok rfl) (da_cons (de_sh true (de_var (i := 4))) da_nil) (len_cons len_nil) (dk_cons (de_sh true (de_var (i := 1))) dk_nil) (len_cons len_nil))) (da_cons (de_sh false (de_callK (n := 1) (ks := [("width" : Str), ("factor" : Str)]) (arr := [.inl 0, .inl 1, .inl 2]) (m := m_unit_row) (ok_unit_row T) (hr.mono (by decide)) hg T.g_unit_row T.f_unit_row.kp (bn16 T) (arr_ok rfl) (da_cons (de_sh true (de_var (i := 4))) da_nil) (len_cons len_nil) (dk_cons (de_sh true (de_var (i := 1))) (dk_cons de_int dk_nil)) (len_cons (len_cons len_nil)))) (da_cons (de_sh false (de_callK (n := 1) (ks := [("factor" : Str), ("width" : Str)]) (arr := [.inl 0, .inl 2, .inl 1]) (m := m_unit_row) (ok_unit_row T) (hr.mono (by decide)) hg T.g_unit_row T.f_unit_row.kp (bn17 T) (arr_ok rfl) (da_cons (de_sh true (de_var (i := 4))) da_nil) (len_cons len_nil) (dk_cons de_int (dk_cons (de_sh true (de_var (i := 1))) dk_nil)) (len_cons (len_cons len_nil)))) da_nil))))) S.nd)
    (dss_cons (ds_if (dt_ne hu (de_repr hg hu T.n_repr (da_cons (de_var (i := 6)) da_nil)) (de_repr hg hu T.n_repr (da_cons (de_lst (da_cons (de_sh false (de_var (i := 5))) (da_cons (de_sh false (de_var (i := 5))) (da_cons (de_sh false (de_var (i := 5))) da_nil)))) da_nil))) (dss_one (ds_ret de_bl)) dss_nil)
    (dss_cons (ds_lcS (P0 := [0]) (i := 7) true (P := [0, 1, 2, 3, 4, 5, 6, 7]) (own := [(("k" : Str), 8)]) rfl S.nd (blkOk_by rfl) rfl (covers_ok (P := [0, 1, 2, 3, 4, 5, 6, 7]) rfl) (di_range1 T.n_range de_int) (fun _ _ _ _ _ => (dg_name (i := 8) S.nd)) (fun _ _ _ _ _ => dts_nil) (fun _ _ _ _ _ => (de_sh false (de_call (ms := [.io]) (m := m__law_integer) (ok__law_integer T) (hr.mono (by decide)) hg T.g__law_integer T.f__law_integer.kp (bn1 T) (da_cons (de_var (i := 0)) da_nil) (len_cons len_nil)))))
    (dss_one (ds_ret (de_sh true (de_eq hu (de_lst (da_cons (de_sh false (de_callP (n := 1) (arr := [.inl 0, .inr .none]) (m := m_is_row) (ok_is_row T) (hr.mono (by decide)) hg T.g_is_row T.f_is_row.kp (bn13 T) (arr_ok rfl) (da_cons (de_sh true (de_var (i := 7))) da_nil) (len_cons len_nil))) (da_cons (de_sh false (de_callP (n := 1) (arr := [.inl 0, .inr .none]) (m := m_is_row) (ok_is_row T) (hr.mono (by decide)) hg T.g_is_row T.f_is_row.kp (bn13 T) (arr_ok rfl) (da_cons (de_sh true (de_add (de_var (i := 7)) (de_lst (da_cons de_int da_nil)))) da_nil) (len_cons len_nil))) (da_cons (de_sh false (de_callP (n := 1) (arr := [.inl 0, .inr .none]) (m := m_is_row) (ok_is_row T) (hr.mono (by decide)) hg T.g_is_row T.f_is_row.kp (bn13 T) (arr_ok rfl) (da_cons (de_sh true (de_sl01 (de_var (i := 7)) de_int)) da_nil) (len_cons len_nil))) (da_cons (de_sh false (de_callP (n := 1) (arr := [.inl 0, .inr .none]) (m := m_is_row) (ok_is_row T) (hr.mono (by decide)) hg T.g_is_row T.f_is_row.kp (bn13 T) (arr_ok rfl) (da_cons (de_sh true (de_sl01 (de_var (i := 7)) de_int)) da_nil) (len_cons len_nil))) da_nil))))) (de_lst (da_cons de_bl (da_cons de_bl (da_cons de_bl (da_cons de_bl da_nil))))))))))))))))))
def N_law : List Str := [("script" : Str), ("k" : Str), ("pot" : Str), ("turn" : Str)]
def z_law_0 : MS := (mRet (mD (.bool false)))
def z_law_1 : MS := (mIf (mTb (m2 (fD hNe) (mOpN (fD hRepr) (mCons (mD (.int 16)) mNil)) (mD (.str ("16" : Str))))) z_law_0 mSkip)
def z_law_2 : MS := (mAsg [0] 2 (mSh false (mOpN (fCall [.io, .sh] m__law_pot) (mCons (mVar 0) (mCons (mSh true (mVar 1)) mNil)))))
def q_law_0 : MI := (mIOp fRng1 (mCons (mD (.int 8)) mNil))
def g_law_0 : MG := (mTgN [0, 1, 2] 3)
def e_law_0 : M := (mSh false (mOpN (fCall [.io] m__law_names_right) (mCons (mVar 2) mNil)))
def z_law_3 : MS := (mRet (mD (.bool false)))
def z_law_4 : MS := (mIf (mOrB (mNotB (mTst (mOpN (fD (hBls fun bs => bs.all id)) (mCons (mLc 4 [3] q_law_0 g_law_0 mYes e_law_0) mNil)))) (mNotB (mTst (mOpN (fCall [.io] m__law_rows_right) (mCons (mVar 2) mNil))))) z_law_3 mSkip)
def q_law_1 : MI := (mIOp fRng1 (mCons (mOpN (fD hMax2) (mCons (mD (.int 1)) (mCons (mOpN (fD hMin2) (mCons (mOpN fLen (mCons (mVar 0) mNil)) (mCons (mD (.int 4)) mNil))) mNil))) mNil))
def g_law_1 : MG := (mTgN [0] 1)
def w_law_1 : MS := (mSeq z_law_2
    z_law_4)
def z_law_5 : MS := (mFor q_law_1 g_law_1 w_law_1)
def z_law_6 : MS := (mRet (mD (.bool true)))
def b_law : MS := (mSeq z_law_1
    (mSeq z_law_5
    z_law_6))
def m_law : List T → RF := runF 4 [.io] b_law
theorem sc_law : FnScope N_law [("script" : Str)] (defScope s_law) := ⟨rfl, rfl, rfl, by decide +kernel, rfl, by decide +kernel, by decide +kernel⟩
theorem ok_law (T : Tx K mg) : FnG P w K mg base 6 T.a_law T.d_law [("script" : Str)] (spM (⟨K, ad⟩ : G) 1 m_law) := by
  have S := sc_law
  refine fun_ok (ms := [.io]) (N := N_law) T.f_law S rfl fun cdv A outer s H E hr hg => ?_
  have hg : (A.deeper (PyProof.Rows.envOfC ("law" : Str) (defScope s_law) s.heap.objs.size T.a_law cdv)).guards = some [] := hg
  have hu : (A.deeper (PyProof.Rows.envOfC ("law" : Str) (defScope s_law) s.heap.objs.size T.a_law cdv)).units + 100 < cLine := by have := hr.un; omega
  exact (dss_cons (ds_if (dt_ne hu (de_repr hg hu T.n_repr (da_cons (de_gI T.c_MAX_WIDTH) da_nil)) de_str) (dss_one (ds_ret de_bl)) dss_nil)
    (dss_cons (ds_for rfl (di_range1 T.n_range (de_max2 rfl T.n_max (da_cons de_int (da_cons (de_min2 rfl T.n_min (da_cons (de_len T.n_len (da_cons (de_var (i := 0)) da_nil)) (da_cons de_int da_nil))) da_nil)))) (dg_name (i := 1) S.nd) (dss_cons (ds_asg (i := 2) (de_sh false (de_call (ms := [.io, .sh]) (m := m__law_pot) (ok__law_pot T) (hr.mono (by decide)) hg T.g__law_pot T.f__law_pot.kp (bn18 T) (da_cons (de_var (i := 0)) (da_cons (de_sh true (de_var (i := 1))) da_nil)) (len_cons (len_cons len_nil)))) S.nd)
    (dss_one (ds_if (dt_w (dw_or (dt_not (dt_val (de_all rfl T.n_all (da_cons (de_lc (P := [0, 1, 2]) (own := [(("turn" : Str), 3)]) rfl S.nd (blkOk_by rfl) rfl (covers_ok (P := [0, 1, 2]) rfl) (di_range1 T.n_range de_int) (fun _ _ _ _ _ => (dg_name (i := 3) S.nd)) (fun _ _ _ _ _ => dts_nil) (fun _ _ _ _ _ => (de_sh false (de_call (ms := [.io]) (m := m__law_names_right) (ok__law_names_right T) (hr.mono (by decide)) hg T.g__law_names_right T.f__law_names_right.kp (bn19 T) (da_cons (de_var (i := 2)) da_nil) (len_cons len_nil))))) da_nil)))) (dw_or1 (dt_not (dt_val (de_call (ms := [.io]) (m := m__law_rows_right) (ok__law_rows_right T) (hr.mono (by decide)) hg T.g__law_rows_right T.f__law_rows_right.kp (bn20 T) (da_cons (de_var (i := 2)) da_nil) (len_cons len_nil))))))) (dss_one (ds_ret de_bl)) dss_nil))))
    (dss_one (ds_ret de_bl))))
end
end K10
namespace K10
open PySem L2 MV
/-! ### the pot that a law draws from -/
def P (p : Int × Int) : T := .l [.d (.int p.1), .d (.int p.2)]
def Ok (p : Int × Int) : Prop := 0 ≤ p.2 ∧ p.2 < 2147483647
def nxt (p : Int × Int) : Int := Int.fmod (p.2 * 39373 + 12227) 2147483629
def dg (p : Int × Int) (n : Int) : Int := if 0 < p.1 then p.1 % n else Int.fmod (Int.fdiv (Int.fmod (nxt p * nxt p) 2147483563) 13) n
def ps (p : Int × Int) (n : Int) : Int × Int := if 0 < p.1 then (p.1 / n, p.2) else (p.1, nxt p)
theorem nxt_ok {p : Int × Int} (h : Ok p) : 0 ≤ nxt p ∧ nxt p < 2147483629 := by
  unfold nxt
  rw [Int.fmod_eq_emod_of_nonneg _ (by decide)]
  exact ⟨Int.emod_nonneg _ (by decide), Int.emod_lt_of_pos _ (by decide)⟩
theorem ps_ok {p : Int × Int} {n : Int} (h : Ok p) : Ok (ps p n) := by
  unfold ps
  split
  · exact h
  · have := nxt_ok h
    exact ⟨this.1, by show nxt p < _; omega⟩
theorem dg_ok {p : Int × Int} {n : Int} (hn : 0 < n) : 0 ≤ dg p n ∧ dg p n < n := by
  unfold dg
  split
  · exact ⟨Int.emod_nonneg _ (by omega), Int.emod_lt_of_pos _ hn⟩
  · rw [Int.fmod_eq_emod_of_nonneg _ (by omega)]
    exact ⟨Int.emod_nonneg _ (by omega), Int.emod_lt_of_pos _ hn⟩
theorem e_digit {p : Int × Int} {n : Int} (hp : Ok p) (hn : 0 < n) (hb : n < 2 ^ 200) : m__law_digit [P p, .d (.int n)] = .ret (.d (.int (dg p n))) [some (P (ps p n)), none] := by
  obtain ⟨a, b⟩ := p
  have hq := nxt_ok hp
  have hb1 : n.natAbs < 2 ^ 8999 := by
    have h1 : n.natAbs < 2 ^ 200 := by omega
    exact Nat.lt_of_lt_of_le h1 (Nat.pow_le_pow_right (by decide) (by decide))
  have hd : Builtin.divisionGoesByPylong a n = false := noPylong hb1
  clear hb1 hb
  have hn0 : n ≠ 0 := by omega
  show runF 3 [.io, .sh] (mSeq z__law_digit_2 (mSeq z__law_digit_3 z__law_digit_4)) _ = _
  rw [ev_runF]
  show kRun [.io, .sh] (mSeq z__law_digit_2 (mSeq z__law_digit_3 z__law_digit_4) [some (P (a, b)), some (.d (.int n)), none]) = _
  by_cases ha : 0 < a
  · have h0 : z__law_digit_0 [some (P (a, b)), some (.d (.int n)), none] = .ok .nx [some (P (a / n, b)), some (.d (.int n)), some (.d (.int (a % n)))] true := by
      unfold z__law_digit_0 P
      simp [ev_mVar, ev_mD, ev_mV, ev_mNil, ev_mYes, kP_ok, kP_exc, kP_bad, kB_ok, kB_exc, kB_bad, kC2_ok, kC2_exc, kC2_bad, kC1_ok, kC1_exc, kC1_bad, ev_mCons, kOp_ok, kOp_exc, kOp_bad, ev_mOpN, ev_m2, ev_m1, kSh_ok, kSh_exc, kSh_bad, ev_mSh, kD2_some, kD2_none, kD1_some, kD1_none, ev_fD, kT2_some, kT2_none, kTst_ok, kTst_exc, kTst_bad, ev_mTst, boolT_b, kTb_ok, kTb_exc, kTb_bad, ev_mTb, kAnd_t, kAnd_f, kAnd_exc, kAnd_bad, ev_mAndB, kOr_f, kOr_t, kOr_exc, kOr_bad, ev_mOrB, kNot_ok, kNot_exc, kNot_bad, ev_mNotB, kNotV_ok, kNotV_exc, kNotV_bad, ev_mNotV, kAV2_t, kAV2_f, kAV2_n, kAV_ok, kAV_exc, kAV_bad, ev_mAndV, kOV2_f, kOV2_t, kOV2_n, kOV_ok, kOV_exc, kOV_bad, ev_mOrV, kIfE_t, kIfE_f, kIfE_exc, kIfE_bad, ev_mIfE, ev_mSkip, ev_mBrk, ev_mCnt, kSeq_nx, kSeq_rt, kSeq_bk, kSeq_ct, kSeq_exc, kSeq_bad, ev_mSeq, kIf_t, kIf_f, kIf_exc, kIf_bad, ev_mIf, kExpr_ok, kExpr_exc, kExpr_bad, ev_mExpr, kRet_tm, kRet_pl, kRet_exc, kRet_bad, ev_mRet, ev_mRetN, kAsg_tm, kAsg_exc, kAsg_bad, ev_mAsg, kG_ok, kG_bad, kAsgG_tm, kAsgG_exc, kAsgG_bad, ev_mAsgG, kPar_tm, kPar_exc, kPar_bad, ev_mPar, kFor_ok, kFor_exc, kFor_bad, ev_mFor, kI2_some, kI2_none, kIOp_ok, kIOp_exc, kIOp_bad, ev_mIOp, kSI_ok, kSI_exc, kSI_bad, ev_mSeqI, kL2_ok, kLc_ok, kLc_exc, kLc_bad, ev_mLc, ev_mTgN, ev_mGNil, kGs_ok, ev_mGCons, kTg_some, ev_mTgT, ev_mTgL, kS3_some, kS2_l, kS1_ok, ev_mTgS, kH4_some, kH3_some, kH2_ok, kH1_t, kH1_f, kH0_ok, kH_ok, kH_exc, kH_bad, ev_mCh, kInt_ok, ev_mInt, kStr2_ok, kStr_ok, kStr_exc, kStr_bad, ev_mStr, kLs2_ok, kLs_ok, kLs_exc, kLs_bad, ev_mLs, kA2_ok, kA2_exc, kA2_bad, kA1_ok, kA1_exc, kA1_bad, ev_mApp, kF3_some, kF4_some, kF2_ret, kF2_exc, kF1_some, ev_fCall, kK2_ret, kK2_exc, kK1_some, ev_fCallK, kRun_nx, kRun_rt, kRun_exc, kRun_bad, ev_runF, ev_mDct0, kDc2_some, kDc_ok, kDc_exc, kDc_bad, ev_mDct, fIx, fAdd, fMul, fDivmod, fList, fTuple, fLst, fTup, fLen, fIsi, fApp, fSl10, fSl01, fSl11, fSl00, fRng1, fRng2, fIsN, share, look, vw, vws, T.at, T.sub, T.put, T.putS, putT, T.fz, T.fzL, tru, itemAt, atI, ixN, shL, shT, allD, tms, lenT, tyT, tyNs, tyD, subT, tys, nonT, hEq, hNe, hLt, hLe, hGt, hGe, hCmp, hIn, hAbs, h2F, hMax2, hMin2, h2I, hSub, hMod, hDiv, hPow, hNeg, hInt1, hBls, hInts, blsD, intsD, strsD, hJoin, fSl1, seqD, wipable, wipeE, unwipe, outs, isL, keysT, keyD, moveOut, putBack, holes, noIo, isH, arrT, arrG, Op.deep, itemsT, itemsL, SeqAt.shaped, PyData.canLay0, PyData.canLayAll0, PyData.depth, PyData.depthAll, PyData.eqv, PyData.eqvAll, hn, hd]
    have h1 : z__law_digit_1 [some (P (a / n, b)), some (.d (.int n)), some (.d (.int (a % n)))] = .ok (.rt (.d (.int (a % n)))) [some (P (a / n, b)), some (.d (.int n)), none] true := rfl
    have h2 : z__law_digit_2 [some (P (a, b)), some (.d (.int n)), none] = .ok (.rt (.d (.int (a % n)))) [some (P (a / n, b)), some (.d (.int n)), none] true := by
      have hc : mTb (m2 (fD hGt) (m2 fIx (mVar 0) (mSh true (mD (.int 0)))) (mD (.int 0))) [some (P (a, b)), some (.d (.int n)), none] = .ok true [some (P (a, b)), some (.d (.int n)), none] true := by
        unfold P
        simp [ev_mVar, ev_mD, ev_mV, ev_mNil, ev_mYes, kP_ok, kP_exc, kP_bad, kB_ok, kB_exc, kB_bad, kC2_ok, kC2_exc, kC2_bad, kC1_ok, kC1_exc, kC1_bad, ev_mCons, kOp_ok, kOp_exc, kOp_bad, ev_mOpN, ev_m2, ev_m1, kSh_ok, kSh_exc, kSh_bad, ev_mSh, kD2_some, kD2_none, kD1_some, kD1_none, ev_fD, kT2_some, kT2_none, kTst_ok, kTst_exc, kTst_bad, ev_mTst, boolT_b, kTb_ok, kTb_exc, kTb_bad, ev_mTb, kAnd_t, kAnd_f, kAnd_exc, kAnd_bad, ev_mAndB, kOr_f, kOr_t, kOr_exc, kOr_bad, ev_mOrB, kNot_ok, kNot_exc, kNot_bad, ev_mNotB, kNotV_ok, kNotV_exc, kNotV_bad, ev_mNotV, kAV2_t, kAV2_f, kAV2_n, kAV_ok, kAV_exc, kAV_bad, ev_mAndV, kOV2_f, kOV2_t, kOV2_n, kOV_ok, kOV_exc, kOV_bad, ev_mOrV, kIfE_t, kIfE_f, kIfE_exc, kIfE_bad, ev_mIfE, ev_mSkip, ev_mBrk, ev_mCnt, kSeq_nx, kSeq_rt, kSeq_bk, kSeq_ct, kSeq_exc, kSeq_bad, ev_mSeq, kIf_t, kIf_f, kIf_exc, kIf_bad, ev_mIf, kExpr_ok, kExpr_exc, kExpr_bad, ev_mExpr, kRet_tm, kRet_pl, kRet_exc, kRet_bad, ev_mRet, ev_mRetN, kAsg_tm, kAsg_exc, kAsg_bad, ev_mAsg, kG_ok, kG_bad, kAsgG_tm, kAsgG_exc, kAsgG_bad, ev_mAsgG, kPar_tm, kPar_exc, kPar_bad, ev_mPar, kFor_ok, kFor_exc, kFor_bad, ev_mFor, kI2_some, kI2_none, kIOp_ok, kIOp_exc, kIOp_bad, ev_mIOp, kSI_ok, kSI_exc, kSI_bad, ev_mSeqI, kL2_ok, kLc_ok, kLc_exc, kLc_bad, ev_mLc, ev_mTgN, ev_mGNil, kGs_ok, ev_mGCons, kTg_some, ev_mTgT, ev_mTgL, kS3_some, kS2_l, kS1_ok, ev_mTgS, kH4_some, kH3_some, kH2_ok, kH1_t, kH1_f, kH0_ok, kH_ok, kH_exc, kH_bad, ev_mCh, kInt_ok, ev_mInt, kStr2_ok, kStr_ok, kStr_exc, kStr_bad, ev_mStr, kLs2_ok, kLs_ok, kLs_exc, kLs_bad, ev_mLs, kA2_ok, kA2_exc, kA2_bad, kA1_ok, kA1_exc, kA1_bad, ev_mApp, kF3_some, kF4_some, kF2_ret, kF2_exc, kF1_some, ev_fCall, kK2_ret, kK2_exc, kK1_some, ev_fCallK, kRun_nx, kRun_rt, kRun_exc, kRun_bad, ev_runF, ev_mDct0, kDc2_some, kDc_ok, kDc_exc, kDc_bad, ev_mDct, fIx, fAdd, fMul, fDivmod, fList, fTuple, fLst, fTup, fLen, fIsi, fApp, fSl10, fSl01, fSl11, fSl00, fRng1, fRng2, fIsN, share, look, vw, vws, T.at, T.sub, T.put, T.putS, putT, T.fz, T.fzL, tru, itemAt, atI, ixN, shL, shT, allD, tms, lenT, tyT, tyNs, tyD, subT, tys, nonT, hEq, hNe, hLt, hLe, hGt, hGe, hCmp, hIn, hAbs, h2F, hMax2, hMin2, h2I, hSub, hMod, hDiv, hPow, hNeg, hInt1, hBls, hInts, blsD, intsD, strsD, hJoin, fSl1, seqD, wipable, wipeE, unwipe, outs, isL, keysT, keyD, moveOut, putBack, holes, noIo, isH, arrT, arrG, Op.deep, itemsT, itemsL, SeqAt.shaped, PyData.canLay0, PyData.canLayAll0, PyData.depth, PyData.depthAll, PyData.eqv, PyData.eqvAll, ha]
      unfold z__law_digit_2
      rw [ev_mIf, hc, kIf_t, ev_mSeq, h0, kSeq_nx, h1]
    have e1 : dg (a, b) n = a % n := if_pos ha
    have e2 : ps (a, b) n = (a / n, b) := if_pos ha
    rw [ev_mSeq, h2, kSeq_rt, kRun_rt, e1, e2]
    rfl
  · obtain ⟨h1, h2⟩ := hp
    dsimp only at h1 h2
    have hm1 : bitsOk b 39373 = true := bitsOk_of 40 (by decide) (by omega) (by decide)
    have e1 : dg (a, b) n = Int.fmod (Int.fdiv (Int.fmod (nxt (a, b) * nxt (a, b)) 2147483563) 13) n := if_neg ha
    have e2 : ps (a, b) n = (a, nxt (a, b)) := if_neg ha
    rw [e1, e2]
    have ht : (b * 39373 + 12227).fmod 2147483629 = nxt (a, b) := rfl
    generalize nxt (a, b) = t at *
    have hm2 : bitsOk t t = true := bitsOk_of 40 (by decide) (by omega) (by omega)
    have hd1 : divOk (Int.fmod (t * t) 2147483563) 13 = true := divOk_of (by decide) (by decide)
    have g2 : z__law_digit_2 [some (P (a, b)), some (.d (.int n)), none] = .ok .nx [some (P (a, b)), some (.d (.int n)), none] true := by
      unfold z__law_digit_2 P
      simp [ev_mVar, ev_mD, ev_mV, ev_mNil, ev_mYes, kP_ok, kP_exc, kP_bad, kB_ok, kB_exc, kB_bad, kC2_ok, kC2_exc, kC2_bad, kC1_ok, kC1_exc, kC1_bad, ev_mCons, kOp_ok, kOp_exc, kOp_bad, ev_mOpN, ev_m2, ev_m1, kSh_ok, kSh_exc, kSh_bad, ev_mSh, kD2_some, kD2_none, kD1_some, kD1_none, ev_fD, kT2_some, kT2_none, kTst_ok, kTst_exc, kTst_bad, ev_mTst, boolT_b, kTb_ok, kTb_exc, kTb_bad, ev_mTb, kAnd_t, kAnd_f, kAnd_exc, kAnd_bad, ev_mAndB, kOr_f, kOr_t, kOr_exc, kOr_bad, ev_mOrB, kNot_ok, kNot_exc, kNot_bad, ev_mNotB, kNotV_ok, kNotV_exc, kNotV_bad, ev_mNotV, kAV2_t, kAV2_f, kAV2_n, kAV_ok, kAV_exc, kAV_bad, ev_mAndV, kOV2_f, kOV2_t, kOV2_n, kOV_ok, kOV_exc, kOV_bad, ev_mOrV, kIfE_t, kIfE_f, kIfE_exc, kIfE_bad, ev_mIfE, ev_mSkip, ev_mBrk, ev_mCnt, kSeq_nx, kSeq_rt, kSeq_bk, kSeq_ct, kSeq_exc, kSeq_bad, ev_mSeq, kIf_t, kIf_f, kIf_exc, kIf_bad, ev_mIf, kExpr_ok, kExpr_exc, kExpr_bad, ev_mExpr, kRet_tm, kRet_pl, kRet_exc, kRet_bad, ev_mRet, ev_mRetN, kAsg_tm, kAsg_exc, kAsg_bad, ev_mAsg, kG_ok, kG_bad, kAsgG_tm, kAsgG_exc, kAsgG_bad, ev_mAsgG, kPar_tm, kPar_exc, kPar_bad, ev_mPar, kFor_ok, kFor_exc, kFor_bad, ev_mFor, kI2_some, kI2_none, kIOp_ok, kIOp_exc, kIOp_bad, ev_mIOp, kSI_ok, kSI_exc, kSI_bad, ev_mSeqI, kL2_ok, kLc_ok, kLc_exc, kLc_bad, ev_mLc, ev_mTgN, ev_mGNil, kGs_ok, ev_mGCons, kTg_some, ev_mTgT, ev_mTgL, kS3_some, kS2_l, kS1_ok, ev_mTgS, kH4_some, kH3_some, kH2_ok, kH1_t, kH1_f, kH0_ok, kH_ok, kH_exc, kH_bad, ev_mCh, kInt_ok, ev_mInt, kStr2_ok, kStr_ok, kStr_exc, kStr_bad, ev_mStr, kLs2_ok, kLs_ok, kLs_exc, kLs_bad, ev_mLs, kA2_ok, kA2_exc, kA2_bad, kA1_ok, kA1_exc, kA1_bad, ev_mApp, kF3_some, kF4_some, kF2_ret, kF2_exc, kF1_some, ev_fCall, kK2_ret, kK2_exc, kK1_some, ev_fCallK, kRun_nx, kRun_rt, kRun_exc, kRun_bad, ev_runF, ev_mDct0, kDc2_some, kDc_ok, kDc_exc, kDc_bad, ev_mDct, fIx, fAdd, fMul, fDivmod, fList, fTuple, fLst, fTup, fLen, fIsi, fApp, fSl10, fSl01, fSl11, fSl00, fRng1, fRng2, fIsN, share, look, vw, vws, T.at, T.sub, T.put, T.putS, putT, T.fz, T.fzL, tru, itemAt, atI, ixN, shL, shT, allD, tms, lenT, tyT, tyNs, tyD, subT, tys, nonT, hEq, hNe, hLt, hLe, hGt, hGe, hCmp, hIn, hAbs, h2F, hMax2, hMin2, h2I, hSub, hMod, hDiv, hPow, hNeg, hInt1, hBls, hInts, blsD, intsD, strsD, hJoin, fSl1, seqD, wipable, wipeE, unwipe, outs, isL, keysT, keyD, moveOut, putBack, holes, noIo, isH, arrT, arrG, Op.deep, itemsT, itemsL, SeqAt.shaped, PyData.canLay0, PyData.canLayAll0, PyData.depth, PyData.depthAll, PyData.eqv, PyData.eqvAll, ha]
    have g3 : z__law_digit_3 [some (P (a, b)), some (.d (.int n)), none] = .ok .nx [some (P (a, t)), some (.d (.int n)), none] true := by
      unfold z__law_digit_3 P
      simp [ev_mVar, ev_mD, ev_mV, ev_mNil, ev_mYes, kP_ok, kP_exc, kP_bad, kB_ok, kB_exc, kB_bad, kC2_ok, kC2_exc, kC2_bad, kC1_ok, kC1_exc, kC1_bad, ev_mCons, kOp_ok, kOp_exc, kOp_bad, ev_mOpN, ev_m2, ev_m1, kSh_ok, kSh_exc, kSh_bad, ev_mSh, kD2_some, kD2_none, kD1_some, kD1_none, ev_fD, kT2_some, kT2_none, kTst_ok, kTst_exc, kTst_bad, ev_mTst, boolT_b, kTb_ok, kTb_exc, kTb_bad, ev_mTb, kAnd_t, kAnd_f, kAnd_exc, kAnd_bad, ev_mAndB, kOr_f, kOr_t, kOr_exc, kOr_bad, ev_mOrB, kNot_ok, kNot_exc, kNot_bad, ev_mNotB, kNotV_ok, kNotV_exc, kNotV_bad, ev_mNotV, kAV2_t, kAV2_f, kAV2_n, kAV_ok, kAV_exc, kAV_bad, ev_mAndV, kOV2_f, kOV2_t, kOV2_n, kOV_ok, kOV_exc, kOV_bad, ev_mOrV, kIfE_t, kIfE_f, kIfE_exc, kIfE_bad, ev_mIfE, ev_mSkip, ev_mBrk, ev_mCnt, kSeq_nx, kSeq_rt, kSeq_bk, kSeq_ct, kSeq_exc, kSeq_bad, ev_mSeq, kIf_t, kIf_f, kIf_exc, kIf_bad, ev_mIf, kExpr_ok, kExpr_exc, kExpr_bad, ev_mExpr, kRet_tm, kRet_pl, kRet_exc, kRet_bad, ev_mRet, ev_mRetN, kAsg_tm, kAsg_exc, kAsg_bad, ev_mAsg, kG_ok, kG_bad, kAsgG_tm, kAsgG_exc, kAsgG_bad, ev_mAsgG, kPar_tm, kPar_exc, kPar_bad, ev_mPar, kFor_ok, kFor_exc, kFor_bad, ev_mFor, kI2_some, kI2_none, kIOp_ok, kIOp_exc, kIOp_bad, ev_mIOp, kSI_ok, kSI_exc, kSI_bad, ev_mSeqI, kL2_ok, kLc_ok, kLc_exc, kLc_bad, ev_mLc, ev_mTgN, ev_mGNil, kGs_ok, ev_mGCons, kTg_some, ev_mTgT, ev_mTgL, kS3_some, kS2_l, kS1_ok, ev_mTgS, kH4_some, kH3_some, kH2_ok, kH1_t, kH1_f, kH0_ok, kH_ok, kH_exc, kH_bad, ev_mCh, kInt_ok, ev_mInt, kStr2_ok, kStr_ok, kStr_exc, kStr_bad, ev_mStr, kLs2_ok, kLs_ok, kLs_exc, kLs_bad, ev_mLs, kA2_ok, kA2_exc, kA2_bad, kA1_ok, kA1_exc, kA1_bad, ev_mApp, kF3_some, kF4_some, kF2_ret, kF2_exc, kF1_some, ev_fCall, kK2_ret, kK2_exc, kK1_some, ev_fCallK, kRun_nx, kRun_rt, kRun_exc, kRun_bad, ev_runF, ev_mDct0, kDc2_some, kDc_ok, kDc_exc, kDc_bad, ev_mDct, fIx, fAdd, fMul, fDivmod, fList, fTuple, fLst, fTup, fLen, fIsi, fApp, fSl10, fSl01, fSl11, fSl00, fRng1, fRng2, fIsN, share, look, vw, vws, T.at, T.sub, T.put, T.putS, putT, T.fz, T.fzL, tru, itemAt, atI, ixN, shL, shT, allD, tms, lenT, tyT, tyNs, tyD, subT, tys, nonT, hEq, hNe, hLt, hLe, hGt, hGe, hCmp, hIn, hAbs, h2F, hMax2, hMin2, h2I, hSub, hMod, hDiv, hPow, hNeg, hInt1, hBls, hInts, blsD, intsD, strsD, hJoin, fSl1, seqD, wipable, wipeE, unwipe, outs, isL, keysT, keyD, moveOut, putBack, holes, noIo, isH, arrT, arrG, Op.deep, itemsT, itemsL, SeqAt.shaped, PyData.canLay0, PyData.canLayAll0, PyData.depth, PyData.depthAll, PyData.eqv, PyData.eqvAll, ht, hm1]
    have g4 : z__law_digit_4 [some (P (a, t)), some (.d (.int n)), none] = .ok (.rt (.d (.int ((((t * t).fmod 2147483563).fdiv 13).fmod n)))) [some (P (a, t)), some (.d (.int n)), none] true := by
      unfold z__law_digit_4 P
      simp [ev_mVar, ev_mD, ev_mV, ev_mNil, ev_mYes, kP_ok, kP_exc, kP_bad, kB_ok, kB_exc, kB_bad, kC2_ok, kC2_exc, kC2_bad, kC1_ok, kC1_exc, kC1_bad, ev_mCons, kOp_ok, kOp_exc, kOp_bad, ev_mOpN, ev_m2, ev_m1, kSh_ok, kSh_exc, kSh_bad, ev_mSh, kD2_some, kD2_none, kD1_some, kD1_none, ev_fD, kT2_some, kT2_none, kTst_ok, kTst_exc, kTst_bad, ev_mTst, boolT_b, kTb_ok, kTb_exc, kTb_bad, ev_mTb, kAnd_t, kAnd_f, kAnd_exc, kAnd_bad, ev_mAndB, kOr_f, kOr_t, kOr_exc, kOr_bad, ev_mOrB, kNot_ok, kNot_exc, kNot_bad, ev_mNotB, kNotV_ok, kNotV_exc, kNotV_bad, ev_mNotV, kAV2_t, kAV2_f, kAV2_n, kAV_ok, kAV_exc, kAV_bad, ev_mAndV, kOV2_f, kOV2_t, kOV2_n, kOV_ok, kOV_exc, kOV_bad, ev_mOrV, kIfE_t, kIfE_f, kIfE_exc, kIfE_bad, ev_mIfE, ev_mSkip, ev_mBrk, ev_mCnt, kSeq_nx, kSeq_rt, kSeq_bk, kSeq_ct, kSeq_exc, kSeq_bad, ev_mSeq, kIf_t, kIf_f, kIf_exc, kIf_bad, ev_mIf, kExpr_ok, kExpr_exc, kExpr_bad, ev_mExpr, kRet_tm, kRet_pl, kRet_exc, kRet_bad, ev_mRet, ev_mRetN, kAsg_tm, kAsg_exc, kAsg_bad, ev_mAsg, kG_ok, kG_bad, kAsgG_tm, kAsgG_exc, kAsgG_bad, ev_mAsgG, kPar_tm, kPar_exc, kPar_bad, ev_mPar, kFor_ok, kFor_exc, kFor_bad, ev_mFor, kI2_some, kI2_none, kIOp_ok, kIOp_exc, kIOp_bad, ev_mIOp, kSI_ok, kSI_exc, kSI_bad, ev_mSeqI, kL2_ok, kLc_ok, kLc_exc, kLc_bad, ev_mLc, ev_mTgN, ev_mGNil, kGs_ok, ev_mGCons, kTg_some, ev_mTgT, ev_mTgL, kS3_some, kS2_l, kS1_ok, ev_mTgS, kH4_some, kH3_some, kH2_ok, kH1_t, kH1_f, kH0_ok, kH_ok, kH_exc, kH_bad, ev_mCh, kInt_ok, ev_mInt, kStr2_ok, kStr_ok, kStr_exc, kStr_bad, ev_mStr, kLs2_ok, kLs_ok, kLs_exc, kLs_bad, ev_mLs, kA2_ok, kA2_exc, kA2_bad, kA1_ok, kA1_exc, kA1_bad, ev_mApp, kF3_some, kF4_some, kF2_ret, kF2_exc, kF1_some, ev_fCall, kK2_ret, kK2_exc, kK1_some, ev_fCallK, kRun_nx, kRun_rt, kRun_exc, kRun_bad, ev_runF, ev_mDct0, kDc2_some, kDc_ok, kDc_exc, kDc_bad, ev_mDct, fIx, fAdd, fMul, fDivmod, fList, fTuple, fLst, fTup, fLen, fIsi, fApp, fSl10, fSl01, fSl11, fSl00, fRng1, fRng2, fIsN, share, look, vw, vws, T.at, T.sub, T.put, T.putS, putT, T.fz, T.fzL, tru, itemAt, atI, ixN, shL, shT, allD, tms, lenT, tyT, tyNs, tyD, subT, tys, nonT, hEq, hNe, hLt, hLe, hGt, hGe, hCmp, hIn, hAbs, h2F, hMax2, hMin2, h2I, hSub, hMod, hDiv, hPow, hNeg, hInt1, hBls, hInts, blsD, intsD, strsD, hJoin, fSl1, seqD, wipable, wipeE, unwipe, outs, isL, keysT, keyD, moveOut, putBack, holes, noIo, isH, arrT, arrG, Op.deep, itemsT, itemsL, SeqAt.shaped, PyData.canLay0, PyData.canLayAll0, PyData.depth, PyData.depthAll, PyData.eqv, PyData.eqvAll, hm2, hd1, hn0]
    rw [ev_mSeq, g2, kSeq_nx, ev_mSeq, g3, kSeq_nx, g4, kRun_rt]
    rfl
/-- an item of a list that is drawn -/
theorem e_pick {p : Int × Int} {ds : List PyData} {x : PyData} (hp : Ok p) (hl : 0 < ds.length) (hb : ds.length ≤ 1000) (hx : ds[(dg p ds.length).toNat]? = some x) : m__law_pick [P p, .d (.list ds)] = .ret (.d x) [some (P (ps p ds.length)), none] := by
  have h := e_digit (n := (ds.length : Int)) hp (by omega) (Int.lt_of_le_of_lt (b := 1000) (by omega) (by decide))
  obtain ⟨h1, h2⟩ := dg_ok (p := p) (n := (ds.length : Int)) (by omega)
  obtain ⟨hlt, hx⟩ := List.getElem?_eq_some_iff.mp hx
  unfold m__law_pick b__law_pick z__law_pick_0
  simp [ev_mVar, ev_mD, ev_mV, ev_mNil, ev_mYes, kP_ok, kP_exc, kP_bad, kB_ok, kB_exc, kB_bad, kC2_ok, kC2_exc, kC2_bad, kC1_ok, kC1_exc, kC1_bad, ev_mCons, kOp_ok, kOp_exc, kOp_bad, ev_mOpN, ev_m2, ev_m1, kSh_ok, kSh_exc, kSh_bad, ev_mSh, kD2_some, kD2_none, kD1_some, kD1_none, ev_fD, kT2_some, kT2_none, kTst_ok, kTst_exc, kTst_bad, ev_mTst, boolT_b, kTb_ok, kTb_exc, kTb_bad, ev_mTb, kAnd_t, kAnd_f, kAnd_exc, kAnd_bad, ev_mAndB, kOr_f, kOr_t, kOr_exc, kOr_bad, ev_mOrB, kNot_ok, kNot_exc, kNot_bad, ev_mNotB, kNotV_ok, kNotV_exc, kNotV_bad, ev_mNotV, kAV2_t, kAV2_f, kAV2_n, kAV_ok, kAV_exc, kAV_bad, ev_mAndV, kOV2_f, kOV2_t, kOV2_n, kOV_ok, kOV_exc, kOV_bad, ev_mOrV, kIfE_t, kIfE_f, kIfE_exc, kIfE_bad, ev_mIfE, ev_mSkip, ev_mBrk, ev_mCnt, kSeq_nx, kSeq_rt, kSeq_bk, kSeq_ct, kSeq_exc, kSeq_bad, ev_mSeq, kIf_t, kIf_f, kIf_exc, kIf_bad, ev_mIf, kExpr_ok, kExpr_exc, kExpr_bad, ev_mExpr, kRet_tm, kRet_pl, kRet_exc, kRet_bad, ev_mRet, ev_mRetN, kAsg_tm, kAsg_exc, kAsg_bad, ev_mAsg, kG_ok, kG_bad, kAsgG_tm, kAsgG_exc, kAsgG_bad, ev_mAsgG, kPar_tm, kPar_exc, kPar_bad, ev_mPar, kFor_ok, kFor_exc, kFor_bad, ev_mFor, kI2_some, kI2_none, kIOp_ok, kIOp_exc, kIOp_bad, ev_mIOp, kSI_ok, kSI_exc, kSI_bad, ev_mSeqI, kL2_ok, kLc_ok, kLc_exc, kLc_bad, ev_mLc, ev_mTgN, ev_mGNil, kGs_ok, ev_mGCons, kTg_some, ev_mTgT, ev_mTgL, kS3_some, kS2_l, kS1_ok, ev_mTgS, kH4_some, kH3_some, kH2_ok, kH1_t, kH1_f, kH0_ok, kH_ok, kH_exc, kH_bad, ev_mCh, kInt_ok, ev_mInt, kStr2_ok, kStr_ok, kStr_exc, kStr_bad, ev_mStr, kLs2_ok, kLs_ok, kLs_exc, kLs_bad, ev_mLs, kA2_ok, kA2_exc, kA2_bad, kA1_ok, kA1_exc, kA1_bad, ev_mApp, kF3_some, kF4_some, kF2_ret, kF2_exc, kF1_some, ev_fCall, kK2_ret, kK2_exc, kK1_some, ev_fCallK, kRun_nx, kRun_rt, kRun_exc, kRun_bad, ev_runF, ev_mDct0, kDc2_some, kDc_ok, kDc_exc, kDc_bad, ev_mDct, fIx, fAdd, fMul, fDivmod, fList, fTuple, fLst, fTup, fLen, fIsi, fApp, fSl10, fSl01, fSl11, fSl00, fRng1, fRng2, fIsN, share, look, vw, vws, T.at, T.sub, T.put, T.putS, putT, T.fz, T.fzL, tru, itemAt, atI, ixN, shL, shT, allD, tms, lenT, tyT, tyNs, tyD, subT, tys, nonT, hEq, hNe, hLt, hLe, hGt, hGe, hCmp, hIn, hAbs, h2F, hMax2, hMin2, h2I, hSub, hMod, hDiv, hPow, hNeg, hInt1, hBls, hInts, blsD, intsD, strsD, hJoin, fSl1, seqD, wipable, wipeE, unwipe, outs, isL, keysT, keyD, moveOut, putBack, holes, noIo, isH, arrT, arrG, Op.deep, itemsT, itemsL, SeqAt.shaped, PyData.canLay0, PyData.canLayAll0, PyData.depth, PyData.depthAll, PyData.eqv, PyData.eqvAll, h, h1, h2, hx]
theorem pick_mem {p : Int × Int} {ds : List PyData} (hl : 0 < ds.length) : ∃ x ∈ ds, ds[(dg p ds.length).toNat]? = some x := by
  obtain ⟨h1, h2⟩ := dg_ok (p := p) (n := (ds.length : Int)) (by omega)
  have hlt : (dg p ds.length).toNat < ds.length := by omega
  exact ⟨ds[(dg p ds.length).toNat], List.getElem_mem hlt, by simp [hlt]⟩
end K10
namespace K10
open PySem L2 MV
/-- an integer that is drawn -/
theorem e_integer {p : Int × Int} (hp : Ok p) : ∃ i p', Ok p' ∧ i.natAbs ≤ 10 ^ 40 ∧ m__law_integer [P p] = .ret (.d (.int i)) [some (P p')] := by
  have h8 := e_digit (n := 8) hp (by decide) (by decide)
  obtain ⟨w0, w1⟩ := dg_ok (p := p) (n := 8) (by decide)
  have hp1 := ps_ok (n := 8) hp
  generalize dg p 8 = way at *
  generalize ps p 8 = p1 at *
  have run : ∀ r, kSeq (mSeq z__law_integer_4 z__law_integer_5) (z__law_integer_2 [some (P p1), some (.d (.int way))]) = r → m__law_integer [P p] = kRun [.io] r := by
    intro r hr
    show runF 2 [.io] (mSeq z__law_integer_0 (mSeq z__law_integer_2 (mSeq z__law_integer_4 z__law_integer_5))) _ = _
    rw [ev_runF]
    show kRun [.io] (mSeq z__law_integer_0 (mSeq z__law_integer_2 (mSeq z__law_integer_4 z__law_integer_5)) [some (P p), none]) = _
    have g0 : z__law_integer_0 [some (P p), none] = .ok .nx [some (P p1), some (.d (.int way))] true := by
      unfold z__law_integer_0
      simp [ev_mVar, ev_mD, ev_mV, ev_mNil, ev_mYes, kP_ok, kP_exc, kP_bad, kB_ok, kB_exc, kB_bad, kC2_ok, kC2_exc, kC2_bad, kC1_ok, kC1_exc, kC1_bad, ev_mCons, kOp_ok, kOp_exc, kOp_bad, ev_mOpN, ev_m2, ev_m1, kSh_ok, kSh_exc, kSh_bad, ev_mSh, kD2_some, kD2_none, kD1_some, kD1_none, ev_fD, kT2_some, kT2_none, kTst_ok, kTst_exc, kTst_bad, ev_mTst, boolT_b, kTb_ok, kTb_exc, kTb_bad, ev_mTb, kAnd_t, kAnd_f, kAnd_exc, kAnd_bad, ev_mAndB, kOr_f, kOr_t, kOr_exc, kOr_bad, ev_mOrB, kNot_ok, kNot_exc, kNot_bad, ev_mNotB, kNotV_ok, kNotV_exc, kNotV_bad, ev_mNotV, kAV2_t, kAV2_f, kAV2_n, kAV_ok, kAV_exc, kAV_bad, ev_mAndV, kOV2_f, kOV2_t, kOV2_n, kOV_ok, kOV_exc, kOV_bad, ev_mOrV, kIfE_t, kIfE_f, kIfE_exc, kIfE_bad, ev_mIfE, ev_mSkip, ev_mBrk, ev_mCnt, kSeq_nx, kSeq_rt, kSeq_bk, kSeq_ct, kSeq_exc, kSeq_bad, ev_mSeq, kIf_t, kIf_f, kIf_exc, kIf_bad, ev_mIf, kExpr_ok, kExpr_exc, kExpr_bad, ev_mExpr, kRet_tm, kRet_pl, kRet_exc, kRet_bad, ev_mRet, ev_mRetN, kAsg_tm, kAsg_exc, kAsg_bad, ev_mAsg, kG_ok, kG_bad, kAsgG_tm, kAsgG_exc, kAsgG_bad, ev_mAsgG, kPar_tm, kPar_exc, kPar_bad, ev_mPar, kFor_ok, kFor_exc, kFor_bad, ev_mFor, kI2_some, kI2_none, kIOp_ok, kIOp_exc, kIOp_bad, ev_mIOp, kSI_ok, kSI_exc, kSI_bad, ev_mSeqI, kL2_ok, kLc_ok, kLc_exc, kLc_bad, ev_mLc, ev_mTgN, ev_mGNil, kGs_ok, ev_mGCons, kTg_some, ev_mTgT, ev_mTgL, kS3_some, kS2_l, kS1_ok, ev_mTgS, kH4_some, kH3_some, kH2_ok, kH1_t, kH1_f, kH0_ok, kH_ok, kH_exc, kH_bad, ev_mCh, kInt_ok, ev_mInt, kStr2_ok, kStr_ok, kStr_exc, kStr_bad, ev_mStr, kLs2_ok, kLs_ok, kLs_exc, kLs_bad, ev_mLs, kA2_ok, kA2_exc, kA2_bad, kA1_ok, kA1_exc, kA1_bad, ev_mApp, kF3_some, kF4_some, kF2_ret, kF2_exc, kF1_some, ev_fCall, kK2_ret, kK2_exc, kK1_some, ev_fCallK, kRun_nx, kRun_rt, kRun_exc, kRun_bad, ev_runF, ev_mDct0, kDc2_some, kDc_ok, kDc_exc, kDc_bad, ev_mDct, fIx, fAdd, fMul, fDivmod, fList, fTuple, fLst, fTup, fLen, fIsi, fApp, fSl10, fSl01, fSl11, fSl00, fRng1, fRng2, fIsN, share, look, vw, vws, T.at, T.sub, T.put, T.putS, putT, T.fz, T.fzL, tru, itemAt, atI, ixN, shL, shT, allD, tms, lenT, tyT, tyNs, tyD, subT, tys, nonT, hEq, hNe, hLt, hLe, hGt, hGe, hCmp, hIn, hAbs, h2F, hMax2, hMin2, h2I, hSub, hMod, hDiv, hPow, hNeg, hInt1, hBls, hInts, blsD, intsD, strsD, hJoin, fSl1, seqD, wipable, wipeE, unwipe, outs, isL, keysT, keyD, moveOut, putBack, holes, noIo, isH, arrT, arrG, Op.deep, itemsT, itemsL, SeqAt.shaped, PyData.canLay0, PyData.canLayAll0, PyData.depth, PyData.depthAll, PyData.eqv, PyData.eqvAll, h8]
    rw [ev_mSeq, g0, kSeq_nx, ev_mSeq, hr]
  by_cases hw : way < 5
  · have g1 : ∃ i : Int, i.natAbs ≤ 10 ^ 40 ∧ z__law_integer_1 [some (P p1), some (.d (.int way))] = .ok (.rt (.d (.int i))) [some (P p1), some (.d (.int way))] true := by
      unfold z__law_integer_1
      have hc : way = 0 ∨ way = 1 ∨ way = 2 ∨ way = 3 ∨ way = 4 := by omega
      rcases hc with rfl | rfl | rfl | rfl | rfl
      · exact ⟨0, by decide, by simp [ev_mVar, ev_mD, ev_mV, ev_mNil, ev_mYes, kP_ok, kP_exc, kP_bad, kB_ok, kB_exc, kB_bad, kC2_ok, kC2_exc, kC2_bad, kC1_ok, kC1_exc, kC1_bad, ev_mCons, kOp_ok, kOp_exc, kOp_bad, ev_mOpN, ev_m2, ev_m1, kSh_ok, kSh_exc, kSh_bad, ev_mSh, kD2_some, kD2_none, kD1_some, kD1_none, ev_fD, kT2_some, kT2_none, kTst_ok, kTst_exc, kTst_bad, ev_mTst, boolT_b, kTb_ok, kTb_exc, kTb_bad, ev_mTb, kAnd_t, kAnd_f, kAnd_exc, kAnd_bad, ev_mAndB, kOr_f, kOr_t, kOr_exc, kOr_bad, ev_mOrB, kNot_ok, kNot_exc, kNot_bad, ev_mNotB, kNotV_ok, kNotV_exc, kNotV_bad, ev_mNotV, kAV2_t, kAV2_f, kAV2_n, kAV_ok, kAV_exc, kAV_bad, ev_mAndV, kOV2_f, kOV2_t, kOV2_n, kOV_ok, kOV_exc, kOV_bad, ev_mOrV, kIfE_t, kIfE_f, kIfE_exc, kIfE_bad, ev_mIfE, ev_mSkip, ev_mBrk, ev_mCnt, kSeq_nx, kSeq_rt, kSeq_bk, kSeq_ct, kSeq_exc, kSeq_bad, ev_mSeq, kIf_t, kIf_f, kIf_exc, kIf_bad, ev_mIf, kExpr_ok, kExpr_exc, kExpr_bad, ev_mExpr, kRet_tm, kRet_pl, kRet_exc, kRet_bad, ev_mRet, ev_mRetN, kAsg_tm, kAsg_exc, kAsg_bad, ev_mAsg, kG_ok, kG_bad, kAsgG_tm, kAsgG_exc, kAsgG_bad, ev_mAsgG, kPar_tm, kPar_exc, kPar_bad, ev_mPar, kFor_ok, kFor_exc, kFor_bad, ev_mFor, kI2_some, kI2_none, kIOp_ok, kIOp_exc, kIOp_bad, ev_mIOp, kSI_ok, kSI_exc, kSI_bad, ev_mSeqI, kL2_ok, kLc_ok, kLc_exc, kLc_bad, ev_mLc, ev_mTgN, ev_mGNil, kGs_ok, ev_mGCons, kTg_some, ev_mTgT, ev_mTgL, kS3_some, kS2_l, kS1_ok, ev_mTgS, kH4_some, kH3_some, kH2_ok, kH1_t, kH1_f, kH0_ok, kH_ok, kH_exc, kH_bad, ev_mCh, kInt_ok, ev_mInt, kStr2_ok, kStr_ok, kStr_exc, kStr_bad, ev_mStr, kLs2_ok, kLs_ok, kLs_exc, kLs_bad, ev_mLs, kA2_ok, kA2_exc, kA2_bad, kA1_ok, kA1_exc, kA1_bad, ev_mApp, kF3_some, kF4_some, kF2_ret, kF2_exc, kF1_some, ev_fCall, kK2_ret, kK2_exc, kK1_some, ev_fCallK, kRun_nx, kRun_rt, kRun_exc, kRun_bad, ev_runF, ev_mDct0, kDc2_some, kDc_ok, kDc_exc, kDc_bad, ev_mDct, fIx, fAdd, fMul, fDivmod, fList, fTuple, fLst, fTup, fLen, fIsi, fApp, fSl10, fSl01, fSl11, fSl00, fRng1, fRng2, fIsN, share, look, vw, vws, T.at, T.sub, T.put, T.putS, putT, T.fz, T.fzL, tru, itemAt, atI, ixN, shL, shT, allD, tms, lenT, tyT, tyNs, tyD, subT, tys, nonT, hEq, hNe, hLt, hLe, hGt, hGe, hCmp, hIn, hAbs, h2F, hMax2, hMin2, h2I, hSub, hMod, hDiv, hPow, hNeg, hInt1, hBls, hInts, blsD, intsD, strsD, hJoin, fSl1, seqD, wipable, wipeE, unwipe, outs, isL, keysT, keyD, moveOut, putBack, holes, noIo, isH, arrT, arrG, Op.deep, itemsT, itemsL, SeqAt.shaped, PyData.canLay0, PyData.canLayAll0, PyData.depth, PyData.depthAll, PyData.eqv, PyData.eqvAll]⟩
      · exact ⟨1, by decide, by simp [ev_mVar, ev_mD, ev_mV, ev_mNil, ev_mYes, kP_ok, kP_exc, kP_bad, kB_ok, kB_exc, kB_bad, kC2_ok, kC2_exc, kC2_bad, kC1_ok, kC1_exc, kC1_bad, ev_mCons, kOp_ok, kOp_exc, kOp_bad, ev_mOpN, ev_m2, ev_m1, kSh_ok, kSh_exc, kSh_bad, ev_mSh, kD2_some, kD2_none, kD1_some, kD1_none, ev_fD, kT2_some, kT2_none, kTst_ok, kTst_exc, kTst_bad, ev_mTst, boolT_b, kTb_ok, kTb_exc, kTb_bad, ev_mTb, kAnd_t, kAnd_f, kAnd_exc, kAnd_bad, ev_mAndB, kOr_f, kOr_t, kOr_exc, kOr_bad, ev_mOrB, kNot_ok, kNot_exc, kNot_bad, ev_mNotB, kNotV_ok, kNotV_exc, kNotV_bad, ev_mNotV, kAV2_t, kAV2_f, kAV2_n, kAV_ok, kAV_exc, kAV_bad, ev_mAndV, kOV2_f, kOV2_t, kOV2_n, kOV_ok, kOV_exc, kOV_bad, ev_mOrV, kIfE_t, kIfE_f, kIfE_exc, kIfE_bad, ev_mIfE, ev_mSkip, ev_mBrk, ev_mCnt, kSeq_nx, kSeq_rt, kSeq_bk, kSeq_ct, kSeq_exc, kSeq_bad, ev_mSeq, kIf_t, kIf_f, kIf_exc, kIf_bad, ev_mIf, kExpr_ok, kExpr_exc, kExpr_bad, ev_mExpr, kRet_tm, kRet_pl, kRet_exc, kRet_bad, ev_mRet, ev_mRetN, kAsg_tm, kAsg_exc, kAsg_bad, ev_mAsg, kG_ok, kG_bad, kAsgG_tm, kAsgG_exc, kAsgG_bad, ev_mAsgG, kPar_tm, kPar_exc, kPar_bad, ev_mPar, kFor_ok, kFor_exc, kFor_bad, ev_mFor, kI2_some, kI2_none, kIOp_ok, kIOp_exc, kIOp_bad, ev_mIOp, kSI_ok, kSI_exc, kSI_bad, ev_mSeqI, kL2_ok, kLc_ok, kLc_exc, kLc_bad, ev_mLc, ev_mTgN, ev_mGNil, kGs_ok, ev_mGCons, kTg_some, ev_mTgT, ev_mTgL, kS3_some, kS2_l, kS1_ok, ev_mTgS, kH4_some, kH3_some, kH2_ok, kH1_t, kH1_f, kH0_ok, kH_ok, kH_exc, kH_bad, ev_mCh, kInt_ok, ev_mInt, kStr2_ok, kStr_ok, kStr_exc, kStr_bad, ev_mStr, kLs2_ok, kLs_ok, kLs_exc, kLs_bad, ev_mLs, kA2_ok, kA2_exc, kA2_bad, kA1_ok, kA1_exc, kA1_bad, ev_mApp, kF3_some, kF4_some, kF2_ret, kF2_exc, kF1_some, ev_fCall, kK2_ret, kK2_exc, kK1_some, ev_fCallK, kRun_nx, kRun_rt, kRun_exc, kRun_bad, ev_runF, ev_mDct0, kDc2_some, kDc_ok, kDc_exc, kDc_bad, ev_mDct, fIx, fAdd, fMul, fDivmod, fList, fTuple, fLst, fTup, fLen, fIsi, fApp, fSl10, fSl01, fSl11, fSl00, fRng1, fRng2, fIsN, share, look, vw, vws, T.at, T.sub, T.put, T.putS, putT, T.fz, T.fzL, tru, itemAt, atI, ixN, shL, shT, allD, tms, lenT, tyT, tyNs, tyD, subT, tys, nonT, hEq, hNe, hLt, hLe, hGt, hGe, hCmp, hIn, hAbs, h2F, hMax2, hMin2, h2I, hSub, hMod, hDiv, hPow, hNeg, hInt1, hBls, hInts, blsD, intsD, strsD, hJoin, fSl1, seqD, wipable, wipeE, unwipe, outs, isL, keysT, keyD, moveOut, putBack, holes, noIo, isH, arrT, arrG, Op.deep, itemsT, itemsL, SeqAt.shaped, PyData.canLay0, PyData.canLayAll0, PyData.depth, PyData.depthAll, PyData.eqv, PyData.eqvAll]⟩
      · exact ⟨1, by decide, by simp [ev_mVar, ev_mD, ev_mV, ev_mNil, ev_mYes, kP_ok, kP_exc, kP_bad, kB_ok, kB_exc, kB_bad, kC2_ok, kC2_exc, kC2_bad, kC1_ok, kC1_exc, kC1_bad, ev_mCons, kOp_ok, kOp_exc, kOp_bad, ev_mOpN, ev_m2, ev_m1, kSh_ok, kSh_exc, kSh_bad, ev_mSh, kD2_some, kD2_none, kD1_some, kD1_none, ev_fD, kT2_some, kT2_none, kTst_ok, kTst_exc, kTst_bad, ev_mTst, boolT_b, kTb_ok, kTb_exc, kTb_bad, ev_mTb, kAnd_t, kAnd_f, kAnd_exc, kAnd_bad, ev_mAndB, kOr_f, kOr_t, kOr_exc, kOr_bad, ev_mOrB, kNot_ok, kNot_exc, kNot_bad, ev_mNotB, kNotV_ok, kNotV_exc, kNotV_bad, ev_mNotV, kAV2_t, kAV2_f, kAV2_n, kAV_ok, kAV_exc, kAV_bad, ev_mAndV, kOV2_f, kOV2_t, kOV2_n, kOV_ok, kOV_exc, kOV_bad, ev_mOrV, kIfE_t, kIfE_f, kIfE_exc, kIfE_bad, ev_mIfE, ev_mSkip, ev_mBrk, ev_mCnt, kSeq_nx, kSeq_rt, kSeq_bk, kSeq_ct, kSeq_exc, kSeq_bad, ev_mSeq, kIf_t, kIf_f, kIf_exc, kIf_bad, ev_mIf, kExpr_ok, kExpr_exc, kExpr_bad, ev_mExpr, kRet_tm, kRet_pl, kRet_exc, kRet_bad, ev_mRet, ev_mRetN, kAsg_tm, kAsg_exc, kAsg_bad, ev_mAsg, kG_ok, kG_bad, kAsgG_tm, kAsgG_exc, kAsgG_bad, ev_mAsgG, kPar_tm, kPar_exc, kPar_bad, ev_mPar, kFor_ok, kFor_exc, kFor_bad, ev_mFor, kI2_some, kI2_none, kIOp_ok, kIOp_exc, kIOp_bad, ev_mIOp, kSI_ok, kSI_exc, kSI_bad, ev_mSeqI, kL2_ok, kLc_ok, kLc_exc, kLc_bad, ev_mLc, ev_mTgN, ev_mGNil, kGs_ok, ev_mGCons, kTg_some, ev_mTgT, ev_mTgL, kS3_some, kS2_l, kS1_ok, ev_mTgS, kH4_some, kH3_some, kH2_ok, kH1_t, kH1_f, kH0_ok, kH_ok, kH_exc, kH_bad, ev_mCh, kInt_ok, ev_mInt, kStr2_ok, kStr_ok, kStr_exc, kStr_bad, ev_mStr, kLs2_ok, kLs_ok, kLs_exc, kLs_bad, ev_mLs, kA2_ok, kA2_exc, kA2_bad, kA1_ok, kA1_exc, kA1_bad, ev_mApp, kF3_some, kF4_some, kF2_ret, kF2_exc, kF1_some, ev_fCall, kK2_ret, kK2_exc, kK1_some, ev_fCallK, kRun_nx, kRun_rt, kRun_exc, kRun_bad, ev_runF, ev_mDct0, kDc2_some, kDc_ok, kDc_exc, kDc_bad, ev_mDct, fIx, fAdd, fMul, fDivmod, fList, fTuple, fLst, fTup, fLen, fIsi, fApp, fSl10, fSl01, fSl11, fSl00, fRng1, fRng2, fIsN, share, look, vw, vws, T.at, T.sub, T.put, T.putS, putT, T.fz, T.fzL, tru, itemAt, atI, ixN, shL, shT, allD, tms, lenT, tyT, tyNs, tyD, subT, tys, nonT, hEq, hNe, hLt, hLe, hGt, hGe, hCmp, hIn, hAbs, h2F, hMax2, hMin2, h2I, hSub, hMod, hDiv, hPow, hNeg, hInt1, hBls, hInts, blsD, intsD, strsD, hJoin, fSl1, seqD, wipable, wipeE, unwipe, outs, isL, keysT, keyD, moveOut, putBack, holes, noIo, isH, arrT, arrG, Op.deep, itemsT, itemsL, SeqAt.shaped, PyData.canLay0, PyData.canLayAll0, PyData.depth, PyData.depthAll, PyData.eqv, PyData.eqvAll]⟩
      · exact ⟨-1, by decide, by simp [ev_mVar, ev_mD, ev_mV, ev_mNil, ev_mYes, kP_ok, kP_exc, kP_bad, kB_ok, kB_exc, kB_bad, kC2_ok, kC2_exc, kC2_bad, kC1_ok, kC1_exc, kC1_bad, ev_mCons, kOp_ok, kOp_exc, kOp_bad, ev_mOpN, ev_m2, ev_m1, kSh_ok, kSh_exc, kSh_bad, ev_mSh, kD2_some, kD2_none, kD1_some, kD1_none, ev_fD, kT2_some, kT2_none, kTst_ok, kTst_exc, kTst_bad, ev_mTst, boolT_b, kTb_ok, kTb_exc, kTb_bad, ev_mTb, kAnd_t, kAnd_f, kAnd_exc, kAnd_bad, ev_mAndB, kOr_f, kOr_t, kOr_exc, kOr_bad, ev_mOrB, kNot_ok, kNot_exc, kNot_bad, ev_mNotB, kNotV_ok, kNotV_exc, kNotV_bad, ev_mNotV, kAV2_t, kAV2_f, kAV2_n, kAV_ok, kAV_exc, kAV_bad, ev_mAndV, kOV2_f, kOV2_t, kOV2_n, kOV_ok, kOV_exc, kOV_bad, ev_mOrV, kIfE_t, kIfE_f, kIfE_exc, kIfE_bad, ev_mIfE, ev_mSkip, ev_mBrk, ev_mCnt, kSeq_nx, kSeq_rt, kSeq_bk, kSeq_ct, kSeq_exc, kSeq_bad, ev_mSeq, kIf_t, kIf_f, kIf_exc, kIf_bad, ev_mIf, kExpr_ok, kExpr_exc, kExpr_bad, ev_mExpr, kRet_tm, kRet_pl, kRet_exc, kRet_bad, ev_mRet, ev_mRetN, kAsg_tm, kAsg_exc, kAsg_bad, ev_mAsg, kG_ok, kG_bad, kAsgG_tm, kAsgG_exc, kAsgG_bad, ev_mAsgG, kPar_tm, kPar_exc, kPar_bad, ev_mPar, kFor_ok, kFor_exc, kFor_bad, ev_mFor, kI2_some, kI2_none, kIOp_ok, kIOp_exc, kIOp_bad, ev_mIOp, kSI_ok, kSI_exc, kSI_bad, ev_mSeqI, kL2_ok, kLc_ok, kLc_exc, kLc_bad, ev_mLc, ev_mTgN, ev_mGNil, kGs_ok, ev_mGCons, kTg_some, ev_mTgT, ev_mTgL, kS3_some, kS2_l, kS1_ok, ev_mTgS, kH4_some, kH3_some, kH2_ok, kH1_t, kH1_f, kH0_ok, kH_ok, kH_exc, kH_bad, ev_mCh, kInt_ok, ev_mInt, kStr2_ok, kStr_ok, kStr_exc, kStr_bad, ev_mStr, kLs2_ok, kLs_ok, kLs_exc, kLs_bad, ev_mLs, kA2_ok, kA2_exc, kA2_bad, kA1_ok, kA1_exc, kA1_bad, ev_mApp, kF3_some, kF4_some, kF2_ret, kF2_exc, kF1_some, ev_fCall, kK2_ret, kK2_exc, kK1_some, ev_fCallK, kRun_nx, kRun_rt, kRun_exc, kRun_bad, ev_runF, ev_mDct0, kDc2_some, kDc_ok, kDc_exc, kDc_bad, ev_mDct, fIx, fAdd, fMul, fDivmod, fList, fTuple, fLst, fTup, fLen, fIsi, fApp, fSl10, fSl01, fSl11, fSl00, fRng1, fRng2, fIsN, share, look, vw, vws, T.at, T.sub, T.put, T.putS, putT, T.fz, T.fzL, tru, itemAt, atI, ixN, shL, shT, allD, tms, lenT, tyT, tyNs, tyD, subT, tys, nonT, hEq, hNe, hLt, hLe, hGt, hGe, hCmp, hIn, hAbs, h2F, hMax2, hMin2, h2I, hSub, hMod, hDiv, hPow, hNeg, hInt1, hBls, hInts, blsD, intsD, strsD, hJoin, fSl1, seqD, wipable, wipeE, unwipe, outs, isL, keysT, keyD, moveOut, putBack, holes, noIo, isH, arrT, arrG, Op.deep, itemsT, itemsL, SeqAt.shaped, PyData.canLay0, PyData.canLayAll0, PyData.depth, PyData.depthAll, PyData.eqv, PyData.eqvAll]⟩
      · exact ⟨2, by decide, by simp [ev_mVar, ev_mD, ev_mV, ev_mNil, ev_mYes, kP_ok, kP_exc, kP_bad, kB_ok, kB_exc, kB_bad, kC2_ok, kC2_exc, kC2_bad, kC1_ok, kC1_exc, kC1_bad, ev_mCons, kOp_ok, kOp_exc, kOp_bad, ev_mOpN, ev_m2, ev_m1, kSh_ok, kSh_exc, kSh_bad, ev_mSh, kD2_some, kD2_none, kD1_some, kD1_none, ev_fD, kT2_some, kT2_none, kTst_ok, kTst_exc, kTst_bad, ev_mTst, boolT_b, kTb_ok, kTb_exc, kTb_bad, ev_mTb, kAnd_t, kAnd_f, kAnd_exc, kAnd_bad, ev_mAndB, kOr_f, kOr_t, kOr_exc, kOr_bad, ev_mOrB, kNot_ok, kNot_exc, kNot_bad, ev_mNotB, kNotV_ok, kNotV_exc, kNotV_bad, ev_mNotV, kAV2_t, kAV2_f, kAV2_n, kAV_ok, kAV_exc, kAV_bad, ev_mAndV, kOV2_f, kOV2_t, kOV2_n, kOV_ok, kOV_exc, kOV_bad, ev_mOrV, kIfE_t, kIfE_f, kIfE_exc, kIfE_bad, ev_mIfE, ev_mSkip, ev_mBrk, ev_mCnt, kSeq_nx, kSeq_rt, kSeq_bk, kSeq_ct, kSeq_exc, kSeq_bad, ev_mSeq, kIf_t, kIf_f, kIf_exc, kIf_bad, ev_mIf, kExpr_ok, kExpr_exc, kExpr_bad, ev_mExpr, kRet_tm, kRet_pl, kRet_exc, kRet_bad, ev_mRet, ev_mRetN, kAsg_tm, kAsg_exc, kAsg_bad, ev_mAsg, kG_ok, kG_bad, kAsgG_tm, kAsgG_exc, kAsgG_bad, ev_mAsgG, kPar_tm, kPar_exc, kPar_bad, ev_mPar, kFor_ok, kFor_exc, kFor_bad, ev_mFor, kI2_some, kI2_none, kIOp_ok, kIOp_exc, kIOp_bad, ev_mIOp, kSI_ok, kSI_exc, kSI_bad, ev_mSeqI, kL2_ok, kLc_ok, kLc_exc, kLc_bad, ev_mLc, ev_mTgN, ev_mGNil, kGs_ok, ev_mGCons, kTg_some, ev_mTgT, ev_mTgL, kS3_some, kS2_l, kS1_ok, ev_mTgS, kH4_some, kH3_some, kH2_ok, kH1_t, kH1_f, kH0_ok, kH_ok, kH_exc, kH_bad, ev_mCh, kInt_ok, ev_mInt, kStr2_ok, kStr_ok, kStr_exc, kStr_bad, ev_mStr, kLs2_ok, kLs_ok, kLs_exc, kLs_bad, ev_mLs, kA2_ok, kA2_exc, kA2_bad, kA1_ok, kA1_exc, kA1_bad, ev_mApp, kF3_some, kF4_some, kF2_ret, kF2_exc, kF1_some, ev_fCall, kK2_ret, kK2_exc, kK1_some, ev_fCallK, kRun_nx, kRun_rt, kRun_exc, kRun_bad, ev_runF, ev_mDct0, kDc2_some, kDc_ok, kDc_exc, kDc_bad, ev_mDct, fIx, fAdd, fMul, fDivmod, fList, fTuple, fLst, fTup, fLen, fIsi, fApp, fSl10, fSl01, fSl11, fSl00, fRng1, fRng2, fIsN, share, look, vw, vws, T.at, T.sub, T.put, T.putS, putT, T.fz, T.fzL, tru, itemAt, atI, ixN, shL, shT, allD, tms, lenT, tyT, tyNs, tyD, subT, tys, nonT, hEq, hNe, hLt, hLe, hGt, hGe, hCmp, hIn, hAbs, h2F, hMax2, hMin2, h2I, hSub, hMod, hDiv, hPow, hNeg, hInt1, hBls, hInts, blsD, intsD, strsD, hJoin, fSl1, seqD, wipable, wipeE, unwipe, outs, isL, keysT, keyD, moveOut, putBack, holes, noIo, isH, arrT, arrG, Op.deep, itemsT, itemsL, SeqAt.shaped, PyData.canLay0, PyData.canLayAll0, PyData.depth, PyData.depthAll, PyData.eqv, PyData.eqvAll]⟩
    obtain ⟨i, hi, g1⟩ := g1
    have g2 : z__law_integer_2 [some (P p1), some (.d (.int way))] = .ok (.rt (.d (.int i))) [some (P p1), some (.d (.int way))] true := by
      have hc : mTb (m2 (fD hLt) (mVar 1) (mD (.int 5))) [some (P p1), some (.d (.int way))] = .ok true [some (P p1), some (.d (.int way))] true := by simp [ev_mVar, ev_mD, ev_mV, ev_mNil, ev_mYes, kP_ok, kP_exc, kP_bad, kB_ok, kB_exc, kB_bad, kC2_ok, kC2_exc, kC2_bad, kC1_ok, kC1_exc, kC1_bad, ev_mCons, kOp_ok, kOp_exc, kOp_bad, ev_mOpN, ev_m2, ev_m1, kSh_ok, kSh_exc, kSh_bad, ev_mSh, kD2_some, kD2_none, kD1_some, kD1_none, ev_fD, kT2_some, kT2_none, kTst_ok, kTst_exc, kTst_bad, ev_mTst, boolT_b, kTb_ok, kTb_exc, kTb_bad, ev_mTb, kAnd_t, kAnd_f, kAnd_exc, kAnd_bad, ev_mAndB, kOr_f, kOr_t, kOr_exc, kOr_bad, ev_mOrB, kNot_ok, kNot_exc, kNot_bad, ev_mNotB, kNotV_ok, kNotV_exc, kNotV_bad, ev_mNotV, kAV2_t, kAV2_f, kAV2_n, kAV_ok, kAV_exc, kAV_bad, ev_mAndV, kOV2_f, kOV2_t, kOV2_n, kOV_ok, kOV_exc, kOV_bad, ev_mOrV, kIfE_t, kIfE_f, kIfE_exc, kIfE_bad, ev_mIfE, ev_mSkip, ev_mBrk, ev_mCnt, kSeq_nx, kSeq_rt, kSeq_bk, kSeq_ct, kSeq_exc, kSeq_bad, ev_mSeq, kIf_t, kIf_f, kIf_exc, kIf_bad, ev_mIf, kExpr_ok, kExpr_exc, kExpr_bad, ev_mExpr, kRet_tm, kRet_pl, kRet_exc, kRet_bad, ev_mRet, ev_mRetN, kAsg_tm, kAsg_exc, kAsg_bad, ev_mAsg, kG_ok, kG_bad, kAsgG_tm, kAsgG_exc, kAsgG_bad, ev_mAsgG, kPar_tm, kPar_exc, kPar_bad, ev_mPar, kFor_ok, kFor_exc, kFor_bad, ev_mFor, kI2_some, kI2_none, kIOp_ok, kIOp_exc, kIOp_bad, ev_mIOp, kSI_ok, kSI_exc, kSI_bad, ev_mSeqI, kL2_ok, kLc_ok, kLc_exc, kLc_bad, ev_mLc, ev_mTgN, ev_mGNil, kGs_ok, ev_mGCons, kTg_some, ev_mTgT, ev_mTgL, kS3_some, kS2_l, kS1_ok, ev_mTgS, kH4_some, kH3_some, kH2_ok, kH1_t, kH1_f, kH0_ok, kH_ok, kH_exc, kH_bad, ev_mCh, kInt_ok, ev_mInt, kStr2_ok, kStr_ok, kStr_exc, kStr_bad, ev_mStr, kLs2_ok, kLs_ok, kLs_exc, kLs_bad, ev_mLs, kA2_ok, kA2_exc, kA2_bad, kA1_ok, kA1_exc, kA1_bad, ev_mApp, kF3_some, kF4_some, kF2_ret, kF2_exc, kF1_some, ev_fCall, kK2_ret, kK2_exc, kK1_some, ev_fCallK, kRun_nx, kRun_rt, kRun_exc, kRun_bad, ev_runF, ev_mDct0, kDc2_some, kDc_ok, kDc_exc, kDc_bad, ev_mDct, fIx, fAdd, fMul, fDivmod, fList, fTuple, fLst, fTup, fLen, fIsi, fApp, fSl10, fSl01, fSl11, fSl00, fRng1, fRng2, fIsN, share, look, vw, vws, T.at, T.sub, T.put, T.putS, putT, T.fz, T.fzL, tru, itemAt, atI, ixN, shL, shT, allD, tms, lenT, tyT, tyNs, tyD, subT, tys, nonT, hEq, hNe, hLt, hLe, hGt, hGe, hCmp, hIn, hAbs, h2F, hMax2, hMin2, h2I, hSub, hMod, hDiv, hPow, hNeg, hInt1, hBls, hInts, blsD, intsD, strsD, hJoin, fSl1, seqD, wipable, wipeE, unwipe, outs, isL, keysT, keyD, moveOut, putBack, holes, noIo, isH, arrT, arrG, Op.deep, itemsT, itemsL, SeqAt.shaped, PyData.canLay0, PyData.canLayAll0, PyData.depth, PyData.depthAll, PyData.eqv, PyData.eqvAll, hw]
      unfold z__law_integer_2
      rw [ev_mIf, hc, kIf_t, g1]
    refine ⟨i, p1, hp1, hi, ?_⟩
    rw [run _ (by rw [g2, kSeq_rt]), kRun_rt]
    rfl
  · have g2 : z__law_integer_2 [some (P p1), some (.d (.int way))] = .ok .nx [some (P p1), some (.d (.int way))] true := by
      unfold z__law_integer_2
      simp [ev_mVar, ev_mD, ev_mV, ev_mNil, ev_mYes, kP_ok, kP_exc, kP_bad, kB_ok, kB_exc, kB_bad, kC2_ok, kC2_exc, kC2_bad, kC1_ok, kC1_exc, kC1_bad, ev_mCons, kOp_ok, kOp_exc, kOp_bad, ev_mOpN, ev_m2, ev_m1, kSh_ok, kSh_exc, kSh_bad, ev_mSh, kD2_some, kD2_none, kD1_some, kD1_none, ev_fD, kT2_some, kT2_none, kTst_ok, kTst_exc, kTst_bad, ev_mTst, boolT_b, kTb_ok, kTb_exc, kTb_bad, ev_mTb, kAnd_t, kAnd_f, kAnd_exc, kAnd_bad, ev_mAndB, kOr_f, kOr_t, kOr_exc, kOr_bad, ev_mOrB, kNot_ok, kNot_exc, kNot_bad, ev_mNotB, kNotV_ok, kNotV_exc, kNotV_bad, ev_mNotV, kAV2_t, kAV2_f, kAV2_n, kAV_ok, kAV_exc, kAV_bad, ev_mAndV, kOV2_f, kOV2_t, kOV2_n, kOV_ok, kOV_exc, kOV_bad, ev_mOrV, kIfE_t, kIfE_f, kIfE_exc, kIfE_bad, ev_mIfE, ev_mSkip, ev_mBrk, ev_mCnt, kSeq_nx, kSeq_rt, kSeq_bk, kSeq_ct, kSeq_exc, kSeq_bad, ev_mSeq, kIf_t, kIf_f, kIf_exc, kIf_bad, ev_mIf, kExpr_ok, kExpr_exc, kExpr_bad, ev_mExpr, kRet_tm, kRet_pl, kRet_exc, kRet_bad, ev_mRet, ev_mRetN, kAsg_tm, kAsg_exc, kAsg_bad, ev_mAsg, kG_ok, kG_bad, kAsgG_tm, kAsgG_exc, kAsgG_bad, ev_mAsgG, kPar_tm, kPar_exc, kPar_bad, ev_mPar, kFor_ok, kFor_exc, kFor_bad, ev_mFor, kI2_some, kI2_none, kIOp_ok, kIOp_exc, kIOp_bad, ev_mIOp, kSI_ok, kSI_exc, kSI_bad, ev_mSeqI, kL2_ok, kLc_ok, kLc_exc, kLc_bad, ev_mLc, ev_mTgN, ev_mGNil, kGs_ok, ev_mGCons, kTg_some, ev_mTgT, ev_mTgL, kS3_some, kS2_l, kS1_ok, ev_mTgS, kH4_some, kH3_some, kH2_ok, kH1_t, kH1_f, kH0_ok, kH_ok, kH_exc, kH_bad, ev_mCh, kInt_ok, ev_mInt, kStr2_ok, kStr_ok, kStr_exc, kStr_bad, ev_mStr, kLs2_ok, kLs_ok, kLs_exc, kLs_bad, ev_mLs, kA2_ok, kA2_exc, kA2_bad, kA1_ok, kA1_exc, kA1_bad, ev_mApp, kF3_some, kF4_some, kF2_ret, kF2_exc, kF1_some, ev_fCall, kK2_ret, kK2_exc, kK1_some, ev_fCallK, kRun_nx, kRun_rt, kRun_exc, kRun_bad, ev_runF, ev_mDct0, kDc2_some, kDc_ok, kDc_exc, kDc_bad, ev_mDct, fIx, fAdd, fMul, fDivmod, fList, fTuple, fLst, fTup, fLen, fIsi, fApp, fSl10, fSl01, fSl11, fSl00, fRng1, fRng2, fIsN, share, look, vw, vws, T.at, T.sub, T.put, T.putS, putT, T.fz, T.fzL, tru, itemAt, atI, ixN, shL, shT, allD, tms, lenT, tyT, tyNs, tyD, subT, tys, nonT, hEq, hNe, hLt, hLe, hGt, hGe, hCmp, hIn, hAbs, h2F, hMax2, hMin2, h2I, hSub, hMod, hDiv, hPow, hNeg, hInt1, hBls, hInts, blsD, intsD, strsD, hJoin, fSl1, seqD, wipable, wipeE, unwipe, outs, isL, keysT, keyD, moveOut, putBack, holes, noIo, isH, arrT, arrG, Op.deep, itemsT, itemsL, SeqAt.shaped, PyData.canLay0, PyData.canLayAll0, PyData.depth, PyData.depthAll, PyData.eqv, PyData.eqvAll, hw]
    by_cases h5 : way = 5
    · subst h5
      have h41 := e_digit (n := 41) hp1 (by decide) (by decide)
      obtain ⟨v0, v1⟩ := dg_ok (p := p1) (n := 41) (by decide)
      have hp2 := ps_ok (n := 41) hp1
      generalize dg p1 41 = v at *
      generalize ps p1 41 = p2 at *
      have g3 : z__law_integer_3 [some (P p1), some (.d (.int 5))] = .ok (.rt (.d (.int (v - 20)))) [some (P p2), some (.d (.int 5))] true := by
        unfold z__law_integer_3
        simp [ev_mVar, ev_mD, ev_mV, ev_mNil, ev_mYes, kP_ok, kP_exc, kP_bad, kB_ok, kB_exc, kB_bad, kC2_ok, kC2_exc, kC2_bad, kC1_ok, kC1_exc, kC1_bad, ev_mCons, kOp_ok, kOp_exc, kOp_bad, ev_mOpN, ev_m2, ev_m1, kSh_ok, kSh_exc, kSh_bad, ev_mSh, kD2_some, kD2_none, kD1_some, kD1_none, ev_fD, kT2_some, kT2_none, kTst_ok, kTst_exc, kTst_bad, ev_mTst, boolT_b, kTb_ok, kTb_exc, kTb_bad, ev_mTb, kAnd_t, kAnd_f, kAnd_exc, kAnd_bad, ev_mAndB, kOr_f, kOr_t, kOr_exc, kOr_bad, ev_mOrB, kNot_ok, kNot_exc, kNot_bad, ev_mNotB, kNotV_ok, kNotV_exc, kNotV_bad, ev_mNotV, kAV2_t, kAV2_f, kAV2_n, kAV_ok, kAV_exc, kAV_bad, ev_mAndV, kOV2_f, kOV2_t, kOV2_n, kOV_ok, kOV_exc, kOV_bad, ev_mOrV, kIfE_t, kIfE_f, kIfE_exc, kIfE_bad, ev_mIfE, ev_mSkip, ev_mBrk, ev_mCnt, kSeq_nx, kSeq_rt, kSeq_bk, kSeq_ct, kSeq_exc, kSeq_bad, ev_mSeq, kIf_t, kIf_f, kIf_exc, kIf_bad, ev_mIf, kExpr_ok, kExpr_exc, kExpr_bad, ev_mExpr, kRet_tm, kRet_pl, kRet_exc, kRet_bad, ev_mRet, ev_mRetN, kAsg_tm, kAsg_exc, kAsg_bad, ev_mAsg, kG_ok, kG_bad, kAsgG_tm, kAsgG_exc, kAsgG_bad, ev_mAsgG, kPar_tm, kPar_exc, kPar_bad, ev_mPar, kFor_ok, kFor_exc, kFor_bad, ev_mFor, kI2_some, kI2_none, kIOp_ok, kIOp_exc, kIOp_bad, ev_mIOp, kSI_ok, kSI_exc, kSI_bad, ev_mSeqI, kL2_ok, kLc_ok, kLc_exc, kLc_bad, ev_mLc, ev_mTgN, ev_mGNil, kGs_ok, ev_mGCons, kTg_some, ev_mTgT, ev_mTgL, kS3_some, kS2_l, kS1_ok, ev_mTgS, kH4_some, kH3_some, kH2_ok, kH1_t, kH1_f, kH0_ok, kH_ok, kH_exc, kH_bad, ev_mCh, kInt_ok, ev_mInt, kStr2_ok, kStr_ok, kStr_exc, kStr_bad, ev_mStr, kLs2_ok, kLs_ok, kLs_exc, kLs_bad, ev_mLs, kA2_ok, kA2_exc, kA2_bad, kA1_ok, kA1_exc, kA1_bad, ev_mApp, kF3_some, kF4_some, kF2_ret, kF2_exc, kF1_some, ev_fCall, kK2_ret, kK2_exc, kK1_some, ev_fCallK, kRun_nx, kRun_rt, kRun_exc, kRun_bad, ev_runF, ev_mDct0, kDc2_some, kDc_ok, kDc_exc, kDc_bad, ev_mDct, fIx, fAdd, fMul, fDivmod, fList, fTuple, fLst, fTup, fLen, fIsi, fApp, fSl10, fSl01, fSl11, fSl00, fRng1, fRng2, fIsN, share, look, vw, vws, T.at, T.sub, T.put, T.putS, putT, T.fz, T.fzL, tru, itemAt, atI, ixN, shL, shT, allD, tms, lenT, tyT, tyNs, tyD, subT, tys, nonT, hEq, hNe, hLt, hLe, hGt, hGe, hCmp, hIn, hAbs, h2F, hMax2, hMin2, h2I, hSub, hMod, hDiv, hPow, hNeg, hInt1, hBls, hInts, blsD, intsD, strsD, hJoin, fSl1, seqD, wipable, wipeE, unwipe, outs, isL, keysT, keyD, moveOut, putBack, holes, noIo, isH, arrT, arrG, Op.deep, itemsT, itemsL, SeqAt.shaped, PyData.canLay0, PyData.canLayAll0, PyData.depth, PyData.depthAll, PyData.eqv, PyData.eqvAll, h41]
      have g4 : z__law_integer_4 [some (P p1), some (.d (.int 5))] = .ok (.rt (.d (.int (v - 20)))) [some (P p2), some (.d (.int 5))] true := by
        have hc : mTb (m2 (fD hEq) (mVar 1) (mD (.int 5))) [some (P p1), some (.d (.int 5))] = .ok true [some (P p1), some (.d (.int 5))] true := by simp [ev_mVar, ev_mD, ev_mV, ev_mNil, ev_mYes, kP_ok, kP_exc, kP_bad, kB_ok, kB_exc, kB_bad, kC2_ok, kC2_exc, kC2_bad, kC1_ok, kC1_exc, kC1_bad, ev_mCons, kOp_ok, kOp_exc, kOp_bad, ev_mOpN, ev_m2, ev_m1, kSh_ok, kSh_exc, kSh_bad, ev_mSh, kD2_some, kD2_none, kD1_some, kD1_none, ev_fD, kT2_some, kT2_none, kTst_ok, kTst_exc, kTst_bad, ev_mTst, boolT_b, kTb_ok, kTb_exc, kTb_bad, ev_mTb, kAnd_t, kAnd_f, kAnd_exc, kAnd_bad, ev_mAndB, kOr_f, kOr_t, kOr_exc, kOr_bad, ev_mOrB, kNot_ok, kNot_exc, kNot_bad, ev_mNotB, kNotV_ok, kNotV_exc, kNotV_bad, ev_mNotV, kAV2_t, kAV2_f, kAV2_n, kAV_ok, kAV_exc, kAV_bad, ev_mAndV, kOV2_f, kOV2_t, kOV2_n, kOV_ok, kOV_exc, kOV_bad, ev_mOrV, kIfE_t, kIfE_f, kIfE_exc, kIfE_bad, ev_mIfE, ev_mSkip, ev_mBrk, ev_mCnt, kSeq_nx, kSeq_rt, kSeq_bk, kSeq_ct, kSeq_exc, kSeq_bad, ev_mSeq, kIf_t, kIf_f, kIf_exc, kIf_bad, ev_mIf, kExpr_ok, kExpr_exc, kExpr_bad, ev_mExpr, kRet_tm, kRet_pl, kRet_exc, kRet_bad, ev_mRet, ev_mRetN, kAsg_tm, kAsg_exc, kAsg_bad, ev_mAsg, kG_ok, kG_bad, kAsgG_tm, kAsgG_exc, kAsgG_bad, ev_mAsgG, kPar_tm, kPar_exc, kPar_bad, ev_mPar, kFor_ok, kFor_exc, kFor_bad, ev_mFor, kI2_some, kI2_none, kIOp_ok, kIOp_exc, kIOp_bad, ev_mIOp, kSI_ok, kSI_exc, kSI_bad, ev_mSeqI, kL2_ok, kLc_ok, kLc_exc, kLc_bad, ev_mLc, ev_mTgN, ev_mGNil, kGs_ok, ev_mGCons, kTg_some, ev_mTgT, ev_mTgL, kS3_some, kS2_l, kS1_ok, ev_mTgS, kH4_some, kH3_some, kH2_ok, kH1_t, kH1_f, kH0_ok, kH_ok, kH_exc, kH_bad, ev_mCh, kInt_ok, ev_mInt, kStr2_ok, kStr_ok, kStr_exc, kStr_bad, ev_mStr, kLs2_ok, kLs_ok, kLs_exc, kLs_bad, ev_mLs, kA2_ok, kA2_exc, kA2_bad, kA1_ok, kA1_exc, kA1_bad, ev_mApp, kF3_some, kF4_some, kF2_ret, kF2_exc, kF1_some, ev_fCall, kK2_ret, kK2_exc, kK1_some, ev_fCallK, kRun_nx, kRun_rt, kRun_exc, kRun_bad, ev_runF, ev_mDct0, kDc2_some, kDc_ok, kDc_exc, kDc_bad, ev_mDct, fIx, fAdd, fMul, fDivmod, fList, fTuple, fLst, fTup, fLen, fIsi, fApp, fSl10, fSl01, fSl11, fSl00, fRng1, fRng2, fIsN, share, look, vw, vws, T.at, T.sub, T.put, T.putS, putT, T.fz, T.fzL, tru, itemAt, atI, ixN, shL, shT, allD, tms, lenT, tyT, tyNs, tyD, subT, tys, nonT, hEq, hNe, hLt, hLe, hGt, hGe, hCmp, hIn, hAbs, h2F, hMax2, hMin2, h2I, hSub, hMod, hDiv, hPow, hNeg, hInt1, hBls, hInts, blsD, intsD, strsD, hJoin, fSl1, seqD, wipable, wipeE, unwipe, outs, isL, keysT, keyD, moveOut, putBack, holes, noIo, isH, arrT, arrG, Op.deep, itemsT, itemsL, SeqAt.shaped, PyData.canLay0, PyData.canLayAll0, PyData.depth, PyData.depthAll, PyData.eqv, PyData.eqvAll]
        unfold z__law_integer_4
        rw [ev_mIf, hc, kIf_t, g3]
      refine ⟨v - 20, p2, hp2, by omega, ?_⟩
      rw [run _ (by rw [g2, kSeq_nx, ev_mSeq, g4, kSeq_rt]), kRun_rt]
      rfl
    · have g4 : z__law_integer_4 [some (P p1), some (.d (.int way))] = .ok .nx [some (P p1), some (.d (.int way))] true := by
        have hb5 : (way == 5) = false := by simpa using h5
        unfold z__law_integer_4
        simp [ev_mVar, ev_mD, ev_mV, ev_mNil, ev_mYes, kP_ok, kP_exc, kP_bad, kB_ok, kB_exc, kB_bad, kC2_ok, kC2_exc, kC2_bad, kC1_ok, kC1_exc, kC1_bad, ev_mCons, kOp_ok, kOp_exc, kOp_bad, ev_mOpN, ev_m2, ev_m1, kSh_ok, kSh_exc, kSh_bad, ev_mSh, kD2_some, kD2_none, kD1_some, kD1_none, ev_fD, kT2_some, kT2_none, kTst_ok, kTst_exc, kTst_bad, ev_mTst, boolT_b, kTb_ok, kTb_exc, kTb_bad, ev_mTb, kAnd_t, kAnd_f, kAnd_exc, kAnd_bad, ev_mAndB, kOr_f, kOr_t, kOr_exc, kOr_bad, ev_mOrB, kNot_ok, kNot_exc, kNot_bad, ev_mNotB, kNotV_ok, kNotV_exc, kNotV_bad, ev_mNotV, kAV2_t, kAV2_f, kAV2_n, kAV_ok, kAV_exc, kAV_bad, ev_mAndV, kOV2_f, kOV2_t, kOV2_n, kOV_ok, kOV_exc, kOV_bad, ev_mOrV, kIfE_t, kIfE_f, kIfE_exc, kIfE_bad, ev_mIfE, ev_mSkip, ev_mBrk, ev_mCnt, kSeq_nx, kSeq_rt, kSeq_bk, kSeq_ct, kSeq_exc, kSeq_bad, ev_mSeq, kIf_t, kIf_f, kIf_exc, kIf_bad, ev_mIf, kExpr_ok, kExpr_exc, kExpr_bad, ev_mExpr, kRet_tm, kRet_pl, kRet_exc, kRet_bad, ev_mRet, ev_mRetN, kAsg_tm, kAsg_exc, kAsg_bad, ev_mAsg, kG_ok, kG_bad, kAsgG_tm, kAsgG_exc, kAsgG_bad, ev_mAsgG, kPar_tm, kPar_exc, kPar_bad, ev_mPar, kFor_ok, kFor_exc, kFor_bad, ev_mFor, kI2_some, kI2_none, kIOp_ok, kIOp_exc, kIOp_bad, ev_mIOp, kSI_ok, kSI_exc, kSI_bad, ev_mSeqI, kL2_ok, kLc_ok, kLc_exc, kLc_bad, ev_mLc, ev_mTgN, ev_mGNil, kGs_ok, ev_mGCons, kTg_some, ev_mTgT, ev_mTgL, kS3_some, kS2_l, kS1_ok, ev_mTgS, kH4_some, kH3_some, kH2_ok, kH1_t, kH1_f, kH0_ok, kH_ok, kH_exc, kH_bad, ev_mCh, kInt_ok, ev_mInt, kStr2_ok, kStr_ok, kStr_exc, kStr_bad, ev_mStr, kLs2_ok, kLs_ok, kLs_exc, kLs_bad, ev_mLs, kA2_ok, kA2_exc, kA2_bad, kA1_ok, kA1_exc, kA1_bad, ev_mApp, kF3_some, kF4_some, kF2_ret, kF2_exc, kF1_some, ev_fCall, kK2_ret, kK2_exc, kK1_some, ev_fCallK, kRun_nx, kRun_rt, kRun_exc, kRun_bad, ev_runF, ev_mDct0, kDc2_some, kDc_ok, kDc_exc, kDc_bad, ev_mDct, fIx, fAdd, fMul, fDivmod, fList, fTuple, fLst, fTup, fLen, fIsi, fApp, fSl10, fSl01, fSl11, fSl00, fRng1, fRng2, fIsN, share, look, vw, vws, T.at, T.sub, T.put, T.putS, putT, T.fz, T.fzL, tru, itemAt, atI, ixN, shL, shT, allD, tms, lenT, tyT, tyNs, tyD, subT, tys, nonT, hEq, hNe, hLt, hLe, hGt, hGe, hCmp, hIn, hAbs, h2F, hMax2, hMin2, h2I, hSub, hMod, hDiv, hPow, hNeg, hInt1, hBls, hInts, blsD, intsD, strsD, hJoin, fSl1, seqD, wipable, wipeE, unwipe, outs, isL, keysT, keyD, moveOut, putBack, holes, noIo, isH, arrT, arrG, Op.deep, itemsT, itemsL, SeqAt.shaped, PyData.canLay0, PyData.canLayAll0, PyData.depth, PyData.depthAll, PyData.eqv, PyData.eqvAll, hb5]
      have ha := e_digit (n := 1000000000000) hp1 (by decide) (by decide)
      obtain ⟨a0, a1⟩ := dg_ok (p := p1) (n := 1000000000000) (by decide)
      have hp2 := ps_ok (n := 1000000000000) hp1
      generalize dg p1 1000000000000 = a at *
      generalize ps p1 1000000000000 = p2 at *
      have hb := e_digit (n := 19999999999999999999999999999999999999999) hp2 (by decide) (by decide)
      obtain ⟨b0, b1⟩ := dg_ok (p := p2) (n := 19999999999999999999999999999999999999999) (by decide)
      have hp3 := ps_ok (n := 19999999999999999999999999999999999999999) hp2
      generalize dg p2 19999999999999999999999999999999999999999 = b at *
      generalize ps p2 19999999999999999999999999999999999999999 = p3 at *
      have k1 : bitsOk 5 100000000000 = true := bitsOk_of 60 (by decide) (by decide) (by decide)
      have k2 : bitsOk 2 10000000000000000000000000000000000000000 = true := bitsOk_of 150 (by decide) (by decide) (by decide)
      have hc : way = 6 ∨ way = 7 := by omega
      have g5 : ∃ i : Int, i.natAbs ≤ 10 ^ 40 ∧ z__law_integer_5 [some (P p1), some (.d (.int way))] = .ok (.rt (.d (.int i))) [some (P p3), some (.d (.int way))] true := by
        unfold z__law_integer_5
        rcases hc with rfl | rfl
        · exact ⟨a - 500000000000, by omega, by simp [ev_mVar, ev_mD, ev_mV, ev_mNil, ev_mYes, kP_ok, kP_exc, kP_bad, kB_ok, kB_exc, kB_bad, kC2_ok, kC2_exc, kC2_bad, kC1_ok, kC1_exc, kC1_bad, ev_mCons, kOp_ok, kOp_exc, kOp_bad, ev_mOpN, ev_m2, ev_m1, kSh_ok, kSh_exc, kSh_bad, ev_mSh, kD2_some, kD2_none, kD1_some, kD1_none, ev_fD, kT2_some, kT2_none, kTst_ok, kTst_exc, kTst_bad, ev_mTst, boolT_b, kTb_ok, kTb_exc, kTb_bad, ev_mTb, kAnd_t, kAnd_f, kAnd_exc, kAnd_bad, ev_mAndB, kOr_f, kOr_t, kOr_exc, kOr_bad, ev_mOrB, kNot_ok, kNot_exc, kNot_bad, ev_mNotB, kNotV_ok, kNotV_exc, kNotV_bad, ev_mNotV, kAV2_t, kAV2_f, kAV2_n, kAV_ok, kAV_exc, kAV_bad, ev_mAndV, kOV2_f, kOV2_t, kOV2_n, kOV_ok, kOV_exc, kOV_bad, ev_mOrV, kIfE_t, kIfE_f, kIfE_exc, kIfE_bad, ev_mIfE, ev_mSkip, ev_mBrk, ev_mCnt, kSeq_nx, kSeq_rt, kSeq_bk, kSeq_ct, kSeq_exc, kSeq_bad, ev_mSeq, kIf_t, kIf_f, kIf_exc, kIf_bad, ev_mIf, kExpr_ok, kExpr_exc, kExpr_bad, ev_mExpr, kRet_tm, kRet_pl, kRet_exc, kRet_bad, ev_mRet, ev_mRetN, kAsg_tm, kAsg_exc, kAsg_bad, ev_mAsg, kG_ok, kG_bad, kAsgG_tm, kAsgG_exc, kAsgG_bad, ev_mAsgG, kPar_tm, kPar_exc, kPar_bad, ev_mPar, kFor_ok, kFor_exc, kFor_bad, ev_mFor, kI2_some, kI2_none, kIOp_ok, kIOp_exc, kIOp_bad, ev_mIOp, kSI_ok, kSI_exc, kSI_bad, ev_mSeqI, kL2_ok, kLc_ok, kLc_exc, kLc_bad, ev_mLc, ev_mTgN, ev_mGNil, kGs_ok, ev_mGCons, kTg_some, ev_mTgT, ev_mTgL, kS3_some, kS2_l, kS1_ok, ev_mTgS, kH4_some, kH3_some, kH2_ok, kH1_t, kH1_f, kH0_ok, kH_ok, kH_exc, kH_bad, ev_mCh, kInt_ok, ev_mInt, kStr2_ok, kStr_ok, kStr_exc, kStr_bad, ev_mStr, kLs2_ok, kLs_ok, kLs_exc, kLs_bad, ev_mLs, kA2_ok, kA2_exc, kA2_bad, kA1_ok, kA1_exc, kA1_bad, ev_mApp, kF3_some, kF4_some, kF2_ret, kF2_exc, kF1_some, ev_fCall, kK2_ret, kK2_exc, kK1_some, ev_fCallK, kRun_nx, kRun_rt, kRun_exc, kRun_bad, ev_runF, ev_mDct0, kDc2_some, kDc_ok, kDc_exc, kDc_bad, ev_mDct, fIx, fAdd, fMul, fDivmod, fList, fTuple, fLst, fTup, fLen, fIsi, fApp, fSl10, fSl01, fSl11, fSl00, fRng1, fRng2, fIsN, share, look, vw, vws, T.at, T.sub, T.put, T.putS, putT, T.fz, T.fzL, tru, itemAt, atI, ixN, shL, shT, allD, tms, lenT, tyT, tyNs, tyD, subT, tys, nonT, hEq, hNe, hLt, hLe, hGt, hGe, hCmp, hIn, hAbs, h2F, hMax2, hMin2, h2I, hSub, hMod, hDiv, hPow, hNeg, hInt1, hBls, hInts, blsD, intsD, strsD, hJoin, fSl1, seqD, wipable, wipeE, unwipe, outs, isL, keysT, keyD, moveOut, putBack, holes, noIo, isH, arrT, arrG, Op.deep, itemsT, itemsL, SeqAt.shaped, PyData.canLay0, PyData.canLayAll0, PyData.depth, PyData.depthAll, PyData.eqv, PyData.eqvAll, ha, hb, k1, k2]⟩
        · exact ⟨b - 10000000000000000000000000000000000000000 + 1, by omega, by simp [ev_mVar, ev_mD, ev_mV, ev_mNil, ev_mYes, kP_ok, kP_exc, kP_bad, kB_ok, kB_exc, kB_bad, kC2_ok, kC2_exc, kC2_bad, kC1_ok, kC1_exc, kC1_bad, ev_mCons, kOp_ok, kOp_exc, kOp_bad, ev_mOpN, ev_m2, ev_m1, kSh_ok, kSh_exc, kSh_bad, ev_mSh, kD2_some, kD2_none, kD1_some, kD1_none, ev_fD, kT2_some, kT2_none, kTst_ok, kTst_exc, kTst_bad, ev_mTst, boolT_b, kTb_ok, kTb_exc, kTb_bad, ev_mTb, kAnd_t, kAnd_f, kAnd_exc, kAnd_bad, ev_mAndB, kOr_f, kOr_t, kOr_exc, kOr_bad, ev_mOrB, kNot_ok, kNot_exc, kNot_bad, ev_mNotB, kNotV_ok, kNotV_exc, kNotV_bad, ev_mNotV, kAV2_t, kAV2_f, kAV2_n, kAV_ok, kAV_exc, kAV_bad, ev_mAndV, kOV2_f, kOV2_t, kOV2_n, kOV_ok, kOV_exc, kOV_bad, ev_mOrV, kIfE_t, kIfE_f, kIfE_exc, kIfE_bad, ev_mIfE, ev_mSkip, ev_mBrk, ev_mCnt, kSeq_nx, kSeq_rt, kSeq_bk, kSeq_ct, kSeq_exc, kSeq_bad, ev_mSeq, kIf_t, kIf_f, kIf_exc, kIf_bad, ev_mIf, kExpr_ok, kExpr_exc, kExpr_bad, ev_mExpr, kRet_tm, kRet_pl, kRet_exc, kRet_bad, ev_mRet, ev_mRetN, kAsg_tm, kAsg_exc, kAsg_bad, ev_mAsg, kG_ok, kG_bad, kAsgG_tm, kAsgG_exc, kAsgG_bad, ev_mAsgG, kPar_tm, kPar_exc, kPar_bad, ev_mPar, kFor_ok, kFor_exc, kFor_bad, ev_mFor, kI2_some, kI2_none, kIOp_ok, kIOp_exc, kIOp_bad, ev_mIOp, kSI_ok, kSI_exc, kSI_bad, ev_mSeqI, kL2_ok, kLc_ok, kLc_exc, kLc_bad, ev_mLc, ev_mTgN, ev_mGNil, kGs_ok, ev_mGCons, kTg_some, ev_mTgT, ev_mTgL, kS3_some, kS2_l, kS1_ok, ev_mTgS, kH4_some, kH3_some, kH2_ok, kH1_t, kH1_f, kH0_ok, kH_ok, kH_exc, kH_bad, ev_mCh, kInt_ok, ev_mInt, kStr2_ok, kStr_ok, kStr_exc, kStr_bad, ev_mStr, kLs2_ok, kLs_ok, kLs_exc, kLs_bad, ev_mLs, kA2_ok, kA2_exc, kA2_bad, kA1_ok, kA1_exc, kA1_bad, ev_mApp, kF3_some, kF4_some, kF2_ret, kF2_exc, kF1_some, ev_fCall, kK2_ret, kK2_exc, kK1_some, ev_fCallK, kRun_nx, kRun_rt, kRun_exc, kRun_bad, ev_runF, ev_mDct0, kDc2_some, kDc_ok, kDc_exc, kDc_bad, ev_mDct, fIx, fAdd, fMul, fDivmod, fList, fTuple, fLst, fTup, fLen, fIsi, fApp, fSl10, fSl01, fSl11, fSl00, fRng1, fRng2, fIsN, share, look, vw, vws, T.at, T.sub, T.put, T.putS, putT, T.fz, T.fzL, tru, itemAt, atI, ixN, shL, shT, allD, tms, lenT, tyT, tyNs, tyD, subT, tys, nonT, hEq, hNe, hLt, hLe, hGt, hGe, hCmp, hIn, hAbs, h2F, hMax2, hMin2, h2I, hSub, hMod, hDiv, hPow, hNeg, hInt1, hBls, hInts, blsD, intsD, strsD, hJoin, fSl1, seqD, wipable, wipeE, unwipe, outs, isL, keysT, keyD, moveOut, putBack, holes, noIo, isH, arrT, arrG, Op.deep, itemsT, itemsL, SeqAt.shaped, PyData.canLay0, PyData.canLayAll0, PyData.depth, PyData.depthAll, PyData.eqv, PyData.eqvAll, ha, hb, k1, k2]⟩
      obtain ⟨i, hi, g5⟩ := g5
      refine ⟨i, p3, hp3, hi, ?_⟩
      rw [run _ (by rw [g2, kSeq_nx, ev_mSeq, g4, kSeq_nx, g5]), kRun_rt]
      rfl
/-- the k-th pot of a script -/
theorem e_pot {ns : List Int} {k : Nat} (hk : k < 64) : ∃ p, Ok p ∧ m__law_pot [.scr ns, .d (.int (k : Nat))] = .ret (P p) [some (.scr ns), none] := by
  have g0 : ∃ c : Int, z__law_pot_0 [some (.scr ns), some (.d (.int (k : Nat))), none] = .ok .nx [some (.scr ns), some (.d (.int (k : Nat))), some (.d (.int c))] true := by
    unfold z__law_pot_0
    by_cases h : k < ns.length
    · refine ⟨ns[k], ?_⟩
      have h1 : atI ns (k : Int) = some ns[k] := atI_nat (by simp [h])
      simp [ev_mVar, ev_mD, ev_mV, ev_mNil, ev_mYes, kP_ok, kP_exc, kP_bad, kB_ok, kB_exc, kB_bad, kC2_ok, kC2_exc, kC2_bad, kC1_ok, kC1_exc, kC1_bad, ev_mCons, kOp_ok, kOp_exc, kOp_bad, ev_mOpN, ev_m2, ev_m1, kSh_ok, kSh_exc, kSh_bad, ev_mSh, kD2_some, kD2_none, kD1_some, kD1_none, ev_fD, kT2_some, kT2_none, kTst_ok, kTst_exc, kTst_bad, ev_mTst, boolT_b, kTb_ok, kTb_exc, kTb_bad, ev_mTb, kAnd_t, kAnd_f, kAnd_exc, kAnd_bad, ev_mAndB, kOr_f, kOr_t, kOr_exc, kOr_bad, ev_mOrB, kNot_ok, kNot_exc, kNot_bad, ev_mNotB, kNotV_ok, kNotV_exc, kNotV_bad, ev_mNotV, kAV2_t, kAV2_f, kAV2_n, kAV_ok, kAV_exc, kAV_bad, ev_mAndV, kOV2_f, kOV2_t, kOV2_n, kOV_ok, kOV_exc, kOV_bad, ev_mOrV, kIfE_t, kIfE_f, kIfE_exc, kIfE_bad, ev_mIfE, ev_mSkip, ev_mBrk, ev_mCnt, kSeq_nx, kSeq_rt, kSeq_bk, kSeq_ct, kSeq_exc, kSeq_bad, ev_mSeq, kIf_t, kIf_f, kIf_exc, kIf_bad, ev_mIf, kExpr_ok, kExpr_exc, kExpr_bad, ev_mExpr, kRet_tm, kRet_pl, kRet_exc, kRet_bad, ev_mRet, ev_mRetN, kAsg_tm, kAsg_exc, kAsg_bad, ev_mAsg, kG_ok, kG_bad, kAsgG_tm, kAsgG_exc, kAsgG_bad, ev_mAsgG, kPar_tm, kPar_exc, kPar_bad, ev_mPar, kFor_ok, kFor_exc, kFor_bad, ev_mFor, kI2_some, kI2_none, kIOp_ok, kIOp_exc, kIOp_bad, ev_mIOp, kSI_ok, kSI_exc, kSI_bad, ev_mSeqI, kL2_ok, kLc_ok, kLc_exc, kLc_bad, ev_mLc, ev_mTgN, ev_mGNil, kGs_ok, ev_mGCons, kTg_some, ev_mTgT, ev_mTgL, kS3_some, kS2_l, kS1_ok, ev_mTgS, kH4_some, kH3_some, kH2_ok, kH1_t, kH1_f, kH0_ok, kH_ok, kH_exc, kH_bad, ev_mCh, kInt_ok, ev_mInt, kStr2_ok, kStr_ok, kStr_exc, kStr_bad, ev_mStr, kLs2_ok, kLs_ok, kLs_exc, kLs_bad, ev_mLs, kA2_ok, kA2_exc, kA2_bad, kA1_ok, kA1_exc, kA1_bad, ev_mApp, kF3_some, kF4_some, kF2_ret, kF2_exc, kF1_some, ev_fCall, kK2_ret, kK2_exc, kK1_some, ev_fCallK, kRun_nx, kRun_rt, kRun_exc, kRun_bad, ev_runF, ev_mDct0, kDc2_some, kDc_ok, kDc_exc, kDc_bad, ev_mDct, fIx, fAdd, fMul, fDivmod, fList, fTuple, fLst, fTup, fLen, fIsi, fApp, fSl10, fSl01, fSl11, fSl00, fRng1, fRng2, fIsN, share, look, vw, vws, T.at, T.sub, T.put, T.putS, putT, T.fz, T.fzL, tru, itemAt, atI, ixN, shL, shT, allD, tms, lenT, tyT, tyNs, tyD, subT, tys, nonT, hEq, hNe, hLt, hLe, hGt, hGe, hCmp, hIn, hAbs, h2F, hMax2, hMin2, h2I, hSub, hMod, hDiv, hPow, hNeg, hInt1, hBls, hInts, blsD, intsD, strsD, hJoin, fSl1, seqD, wipable, wipeE, unwipe, outs, isL, keysT, keyD, moveOut, putBack, holes, noIo, isH, arrT, arrG, Op.deep, itemsT, itemsL, SeqAt.shaped, PyData.canLay0, PyData.canLayAll0, PyData.depth, PyData.depthAll, PyData.eqv, PyData.eqvAll, h, h1]
    · exact ⟨0, by simp [ev_mVar, ev_mD, ev_mV, ev_mNil, ev_mYes, kP_ok, kP_exc, kP_bad, kB_ok, kB_exc, kB_bad, kC2_ok, kC2_exc, kC2_bad, kC1_ok, kC1_exc, kC1_bad, ev_mCons, kOp_ok, kOp_exc, kOp_bad, ev_mOpN, ev_m2, ev_m1, kSh_ok, kSh_exc, kSh_bad, ev_mSh, kD2_some, kD2_none, kD1_some, kD1_none, ev_fD, kT2_some, kT2_none, kTst_ok, kTst_exc, kTst_bad, ev_mTst, boolT_b, kTb_ok, kTb_exc, kTb_bad, ev_mTb, kAnd_t, kAnd_f, kAnd_exc, kAnd_bad, ev_mAndB, kOr_f, kOr_t, kOr_exc, kOr_bad, ev_mOrB, kNot_ok, kNot_exc, kNot_bad, ev_mNotB, kNotV_ok, kNotV_exc, kNotV_bad, ev_mNotV, kAV2_t, kAV2_f, kAV2_n, kAV_ok, kAV_exc, kAV_bad, ev_mAndV, kOV2_f, kOV2_t, kOV2_n, kOV_ok, kOV_exc, kOV_bad, ev_mOrV, kIfE_t, kIfE_f, kIfE_exc, kIfE_bad, ev_mIfE, ev_mSkip, ev_mBrk, ev_mCnt, kSeq_nx, kSeq_rt, kSeq_bk, kSeq_ct, kSeq_exc, kSeq_bad, ev_mSeq, kIf_t, kIf_f, kIf_exc, kIf_bad, ev_mIf, kExpr_ok, kExpr_exc, kExpr_bad, ev_mExpr, kRet_tm, kRet_pl, kRet_exc, kRet_bad, ev_mRet, ev_mRetN, kAsg_tm, kAsg_exc, kAsg_bad, ev_mAsg, kG_ok, kG_bad, kAsgG_tm, kAsgG_exc, kAsgG_bad, ev_mAsgG, kPar_tm, kPar_exc, kPar_bad, ev_mPar, kFor_ok, kFor_exc, kFor_bad, ev_mFor, kI2_some, kI2_none, kIOp_ok, kIOp_exc, kIOp_bad, ev_mIOp, kSI_ok, kSI_exc, kSI_bad, ev_mSeqI, kL2_ok, kLc_ok, kLc_exc, kLc_bad, ev_mLc, ev_mTgN, ev_mGNil, kGs_ok, ev_mGCons, kTg_some, ev_mTgT, ev_mTgL, kS3_some, kS2_l, kS1_ok, ev_mTgS, kH4_some, kH3_some, kH2_ok, kH1_t, kH1_f, kH0_ok, kH_ok, kH_exc, kH_bad, ev_mCh, kInt_ok, ev_mInt, kStr2_ok, kStr_ok, kStr_exc, kStr_bad, ev_mStr, kLs2_ok, kLs_ok, kLs_exc, kLs_bad, ev_mLs, kA2_ok, kA2_exc, kA2_bad, kA1_ok, kA1_exc, kA1_bad, ev_mApp, kF3_some, kF4_some, kF2_ret, kF2_exc, kF1_some, ev_fCall, kK2_ret, kK2_exc, kK1_some, ev_fCallK, kRun_nx, kRun_rt, kRun_exc, kRun_bad, ev_runF, ev_mDct0, kDc2_some, kDc_ok, kDc_exc, kDc_bad, ev_mDct, fIx, fAdd, fMul, fDivmod, fList, fTuple, fLst, fTup, fLen, fIsi, fApp, fSl10, fSl01, fSl11, fSl00, fRng1, fRng2, fIsN, share, look, vw, vws, T.at, T.sub, T.put, T.putS, putT, T.fz, T.fzL, tru, itemAt, atI, ixN, shL, shT, allD, tms, lenT, tyT, tyNs, tyD, subT, tys, nonT, hEq, hNe, hLt, hLe, hGt, hGe, hCmp, hIn, hAbs, h2F, hMax2, hMin2, h2I, hSub, hMod, hDiv, hPow, hNeg, hInt1, hBls, hInts, blsD, intsD, strsD, hJoin, fSl1, seqD, wipable, wipeE, unwipe, outs, isL, keysT, keyD, moveOut, putBack, holes, noIo, isH, arrT, arrG, Op.deep, itemsT, itemsL, SeqAt.shaped, PyData.canLay0, PyData.canLayAll0, PyData.depth, PyData.depthAll, PyData.eqv, PyData.eqvAll, h]⟩
  obtain ⟨c, g0⟩ := g0
  have h0 : 0 ≤ (if c < 0 then -c else c) := by split <;> omega
  have e0 : (Int.fmod (if c < 0 then -c else c) 2147483587) = (if c < 0 then -c else c) % 2147483587 := Int.fmod_eq_emod_of_nonneg _ (by decide)
  have a0 : 0 ≤ (Int.fmod (if c < 0 then -c else c) 2147483587) := by rw [e0]; exact Int.emod_nonneg _ (by decide)
  have a1 : (Int.fmod (if c < 0 then -c else c) 2147483587) < 2147483587 := by rw [e0]; exact Int.emod_lt_of_pos _ (by decide)
  generalize hm : (if c < 0 then -c else c) = ac at *
  generalize hq : Int.fmod ac 2147483587 = q at *
  have k1 : bitsOk q 48271 = true := bitsOk_of 40 (by decide) (by omega) (by decide)
  have k2 : bitsOk 60013 (k : Int) = true := bitsOk_of 40 (by decide) (by decide) (by omega)
  have e2 : ∀ x : Int, 0 ≤ Int.fmod x 2147483647 ∧ Int.fmod x 2147483647 < 2147483647 := fun x => by
    rw [Int.fmod_eq_emod_of_nonneg _ (by decide)]
    exact ⟨Int.emod_nonneg _ (by decide), Int.emod_lt_of_pos _ (by decide)⟩
  refine ⟨(if ac - 1000000000000000000 > 0 then ac - 1000000000000000000 else 0, Int.fmod (q * 48271 + 60013 * (k : Int) + 41) 2147483647), e2 _, ?_⟩
  have g1 : z__law_pot_1 [some (.scr ns), some (.d (.int (k : Nat))), some (.d (.int c))] = .ok (.rt (P (if ac - 1000000000000000000 > 0 then ac - 1000000000000000000 else 0, Int.fmod (q * 48271 + 60013 * (k : Int) + 41) 2147483647))) [some (.scr ns), some (.d (.int (k : Nat))), some (.d (.int c))] true := by
    unfold z__law_pot_1 P
    simp [ev_mVar, ev_mD, ev_mV, ev_mNil, ev_mYes, kP_ok, kP_exc, kP_bad, kB_ok, kB_exc, kB_bad, kC2_ok, kC2_exc, kC2_bad, kC1_ok, kC1_exc, kC1_bad, ev_mCons, kOp_ok, kOp_exc, kOp_bad, ev_mOpN, ev_m2, ev_m1, kSh_ok, kSh_exc, kSh_bad, ev_mSh, kD2_some, kD2_none, kD1_some, kD1_none, ev_fD, kT2_some, kT2_none, kTst_ok, kTst_exc, kTst_bad, ev_mTst, boolT_b, kTb_ok, kTb_exc, kTb_bad, ev_mTb, kAnd_t, kAnd_f, kAnd_exc, kAnd_bad, ev_mAndB, kOr_f, kOr_t, kOr_exc, kOr_bad, ev_mOrB, kNot_ok, kNot_exc, kNot_bad, ev_mNotB, kNotV_ok, kNotV_exc, kNotV_bad, ev_mNotV, kAV2_t, kAV2_f, kAV2_n, kAV_ok, kAV_exc, kAV_bad, ev_mAndV, kOV2_f, kOV2_t, kOV2_n, kOV_ok, kOV_exc, kOV_bad, ev_mOrV, kIfE_t, kIfE_f, kIfE_exc, kIfE_bad, ev_mIfE, ev_mSkip, ev_mBrk, ev_mCnt, kSeq_nx, kSeq_rt, kSeq_bk, kSeq_ct, kSeq_exc, kSeq_bad, ev_mSeq, kIf_t, kIf_f, kIf_exc, kIf_bad, ev_mIf, kExpr_ok, kExpr_exc, kExpr_bad, ev_mExpr, kRet_tm, kRet_pl, kRet_exc, kRet_bad, ev_mRet, ev_mRetN, kAsg_tm, kAsg_exc, kAsg_bad, ev_mAsg, kG_ok, kG_bad, kAsgG_tm, kAsgG_exc, kAsgG_bad, ev_mAsgG, kPar_tm, kPar_exc, kPar_bad, ev_mPar, kFor_ok, kFor_exc, kFor_bad, ev_mFor, kI2_some, kI2_none, kIOp_ok, kIOp_exc, kIOp_bad, ev_mIOp, kSI_ok, kSI_exc, kSI_bad, ev_mSeqI, kL2_ok, kLc_ok, kLc_exc, kLc_bad, ev_mLc, ev_mTgN, ev_mGNil, kGs_ok, ev_mGCons, kTg_some, ev_mTgT, ev_mTgL, kS3_some, kS2_l, kS1_ok, ev_mTgS, kH4_some, kH3_some, kH2_ok, kH1_t, kH1_f, kH0_ok, kH_ok, kH_exc, kH_bad, ev_mCh, kInt_ok, ev_mInt, kStr2_ok, kStr_ok, kStr_exc, kStr_bad, ev_mStr, kLs2_ok, kLs_ok, kLs_exc, kLs_bad, ev_mLs, kA2_ok, kA2_exc, kA2_bad, kA1_ok, kA1_exc, kA1_bad, ev_mApp, kF3_some, kF4_some, kF2_ret, kF2_exc, kF1_some, ev_fCall, kK2_ret, kK2_exc, kK1_some, ev_fCallK, kRun_nx, kRun_rt, kRun_exc, kRun_bad, ev_runF, ev_mDct0, kDc2_some, kDc_ok, kDc_exc, kDc_bad, ev_mDct, fIx, fAdd, fMul, fDivmod, fList, fTuple, fLst, fTup, fLen, fIsi, fApp, fSl10, fSl01, fSl11, fSl00, fRng1, fRng2, fIsN, share, look, vw, vws, T.at, T.sub, T.put, T.putS, putT, T.fz, T.fzL, tru, itemAt, atI, ixN, shL, shT, allD, tms, lenT, tyT, tyNs, tyD, subT, tys, nonT, hEq, hNe, hLt, hLe, hGt, hGe, hCmp, hIn, hAbs, h2F, hMax2, hMin2, h2I, hSub, hMod, hDiv, hPow, hNeg, hInt1, hBls, hInts, blsD, intsD, strsD, hJoin, fSl1, seqD, wipable, wipeE, unwipe, outs, isL, keysT, keyD, moveOut, putBack, holes, noIo, isH, arrT, arrG, Op.deep, itemsT, itemsL, SeqAt.shaped, PyData.canLay0, PyData.canLayAll0, PyData.depth, PyData.depthAll, PyData.eqv, PyData.eqvAll, hm, hq, k1, k2]
  show runF 3 [.io, .sh] (mSeq z__law_pot_0 z__law_pot_1) _ = _
  rw [ev_runF]
  show kRun [.io, .sh] (mSeq z__law_pot_0 z__law_pot_1 [some (.scr ns), some (.d (.int (k : Nat))), none]) = _
  rw [ev_mSeq, g0, kSeq_nx, g1, kRun_rt]
  rfl
end K10
namespace K10
open PySem L2 MV
theorem e_is_integer (x : PyData) : m_is_integer [.d x] = .ret (.d (.bool (isI x))) [none] := by cases x <;> rfl
theorem e_is_width (i : Int) : m_is_width [.d (.int i)] = .ret (.d (.bool (decide (1 ≤ i) && decide (i ≤ 16)))) [none] := by
  have h := e_is_integer (.int i)
  unfold m_is_width b_is_width z_is_width_0
  by_cases h1 : 1 ≤ i <;> by_cases h2 : i ≤ 16 <;> simp [ev_mVar, ev_mD, ev_mV, ev_mNil, ev_mYes, kP_ok, kP_exc, kP_bad, kB_ok, kB_exc, kB_bad, kC2_ok, kC2_exc, kC2_bad, kC1_ok, kC1_exc, kC1_bad, ev_mCons, kOp_ok, kOp_exc, kOp_bad, ev_mOpN, ev_m2, ev_m1, kSh_ok, kSh_exc, kSh_bad, ev_mSh, kD2_some, kD2_none, kD1_some, kD1_none, ev_fD, kT2_some, kT2_none, kTst_ok, kTst_exc, kTst_bad, ev_mTst, boolT_b, kTb_ok, kTb_exc, kTb_bad, ev_mTb, kAnd_t, kAnd_f, kAnd_exc, kAnd_bad, ev_mAndB, kOr_f, kOr_t, kOr_exc, kOr_bad, ev_mOrB, kNot_ok, kNot_exc, kNot_bad, ev_mNotB, kNotV_ok, kNotV_exc, kNotV_bad, ev_mNotV, kAV2_t, kAV2_f, kAV2_n, kAV_ok, kAV_exc, kAV_bad, ev_mAndV, kOV2_f, kOV2_t, kOV2_n, kOV_ok, kOV_exc, kOV_bad, ev_mOrV, kIfE_t, kIfE_f, kIfE_exc, kIfE_bad, ev_mIfE, ev_mSkip, ev_mBrk, ev_mCnt, kSeq_nx, kSeq_rt, kSeq_bk, kSeq_ct, kSeq_exc, kSeq_bad, ev_mSeq, kIf_t, kIf_f, kIf_exc, kIf_bad, ev_mIf, kExpr_ok, kExpr_exc, kExpr_bad, ev_mExpr, kRet_tm, kRet_pl, kRet_exc, kRet_bad, ev_mRet, ev_mRetN, kAsg_tm, kAsg_exc, kAsg_bad, ev_mAsg, kG_ok, kG_bad, kAsgG_tm, kAsgG_exc, kAsgG_bad, ev_mAsgG, kPar_tm, kPar_exc, kPar_bad, ev_mPar, kFor_ok, kFor_exc, kFor_bad, ev_mFor, kI2_some, kI2_none, kIOp_ok, kIOp_exc, kIOp_bad, ev_mIOp, kSI_ok, kSI_exc, kSI_bad, ev_mSeqI, kL2_ok, kLc_ok, kLc_exc, kLc_bad, ev_mLc, ev_mTgN, ev_mGNil, kGs_ok, ev_mGCons, kTg_some, ev_mTgT, ev_mTgL, kS3_some, kS2_l, kS1_ok, ev_mTgS, kH4_some, kH3_some, kH2_ok, kH1_t, kH1_f, kH0_ok, kH_ok, kH_exc, kH_bad, ev_mCh, kInt_ok, ev_mInt, kStr2_ok, kStr_ok, kStr_exc, kStr_bad, ev_mStr, kLs2_ok, kLs_ok, kLs_exc, kLs_bad, ev_mLs, kA2_ok, kA2_exc, kA2_bad, kA1_ok, kA1_exc, kA1_bad, ev_mApp, kF3_some, kF4_some, kF2_ret, kF2_exc, kF1_some, ev_fCall, kK2_ret, kK2_exc, kK1_some, ev_fCallK, kRun_nx, kRun_rt, kRun_exc, kRun_bad, ev_runF, ev_mDct0, kDc2_some, kDc_ok, kDc_exc, kDc_bad, ev_mDct, fIx, fAdd, fMul, fDivmod, fList, fTuple, fLst, fTup, fLen, fIsi, fApp, fSl10, fSl01, fSl11, fSl00, fRng1, fRng2, fIsN, share, look, vw, vws, T.at, T.sub, T.put, T.putS, putT, T.fz, T.fzL, tru, itemAt, atI, ixN, shL, shT, allD, tms, lenT, tyT, tyNs, tyD, subT, tys, nonT, hEq, hNe, hLt, hLe, hGt, hGe, hCmp, hIn, hAbs, h2F, hMax2, hMin2, h2I, hSub, hMod, hDiv, hPow, hNeg, hInt1, hBls, hInts, blsD, intsD, strsD, hJoin, fSl1, seqD, wipable, wipeE, unwipe, outs, isL, keysT, keyD, moveOut, putBack, holes, noIo, isH, arrT, arrG, Op.deep, itemsT, itemsL, SeqAt.shaped, PyData.canLay0, PyData.canLayAll0, PyData.depth, PyData.depthAll, PyData.eqv, PyData.eqvAll, h, isI, h1, h2]
theorem e_require_width {i : Int} (h1 : 1 ≤ i) (h2 : i ≤ 16) : m_require_width [.d (.int i)] = .ret (.d .none) [none] := by
  have h := e_is_width i
  unfold m_require_width b_require_width z_require_width_0
  simp [ev_mVar, ev_mD, ev_mV, ev_mNil, ev_mYes, kP_ok, kP_exc, kP_bad, kB_ok, kB_exc, kB_bad, kC2_ok, kC2_exc, kC2_bad, kC1_ok, kC1_exc, kC1_bad, ev_mCons, kOp_ok, kOp_exc, kOp_bad, ev_mOpN, ev_m2, ev_m1, kSh_ok, kSh_exc, kSh_bad, ev_mSh, kD2_some, kD2_none, kD1_some, kD1_none, ev_fD, kT2_some, kT2_none, kTst_ok, kTst_exc, kTst_bad, ev_mTst, boolT_b, kTb_ok, kTb_exc, kTb_bad, ev_mTb, kAnd_t, kAnd_f, kAnd_exc, kAnd_bad, ev_mAndB, kOr_f, kOr_t, kOr_exc, kOr_bad, ev_mOrB, kNot_ok, kNot_exc, kNot_bad, ev_mNotB, kNotV_ok, kNotV_exc, kNotV_bad, ev_mNotV, kAV2_t, kAV2_f, kAV2_n, kAV_ok, kAV_exc, kAV_bad, ev_mAndV, kOV2_f, kOV2_t, kOV2_n, kOV_ok, kOV_exc, kOV_bad, ev_mOrV, kIfE_t, kIfE_f, kIfE_exc, kIfE_bad, ev_mIfE, ev_mSkip, ev_mBrk, ev_mCnt, kSeq_nx, kSeq_rt, kSeq_bk, kSeq_ct, kSeq_exc, kSeq_bad, ev_mSeq, kIf_t, kIf_f, kIf_exc, kIf_bad, ev_mIf, kExpr_ok, kExpr_exc, kExpr_bad, ev_mExpr, kRet_tm, kRet_pl, kRet_exc, kRet_bad, ev_mRet, ev_mRetN, kAsg_tm, kAsg_exc, kAsg_bad, ev_mAsg, kG_ok, kG_bad, kAsgG_tm, kAsgG_exc, kAsgG_bad, ev_mAsgG, kPar_tm, kPar_exc, kPar_bad, ev_mPar, kFor_ok, kFor_exc, kFor_bad, ev_mFor, kI2_some, kI2_none, kIOp_ok, kIOp_exc, kIOp_bad, ev_mIOp, kSI_ok, kSI_exc, kSI_bad, ev_mSeqI, kL2_ok, kLc_ok, kLc_exc, kLc_bad, ev_mLc, ev_mTgN, ev_mGNil, kGs_ok, ev_mGCons, kTg_some, ev_mTgT, ev_mTgL, kS3_some, kS2_l, kS1_ok, ev_mTgS, kH4_some, kH3_some, kH2_ok, kH1_t, kH1_f, kH0_ok, kH_ok, kH_exc, kH_bad, ev_mCh, kInt_ok, ev_mInt, kStr2_ok, kStr_ok, kStr_exc, kStr_bad, ev_mStr, kLs2_ok, kLs_ok, kLs_exc, kLs_bad, ev_mLs, kA2_ok, kA2_exc, kA2_bad, kA1_ok, kA1_exc, kA1_bad, ev_mApp, kF3_some, kF4_some, kF2_ret, kF2_exc, kF1_some, ev_fCall, kK2_ret, kK2_exc, kK1_some, ev_fCallK, kRun_nx, kRun_rt, kRun_exc, kRun_bad, ev_runF, ev_mDct0, kDc2_some, kDc_ok, kDc_exc, kDc_bad, ev_mDct, fIx, fAdd, fMul, fDivmod, fList, fTuple, fLst, fTup, fLen, fIsi, fApp, fSl10, fSl01, fSl11, fSl00, fRng1, fRng2, fIsN, share, look, vw, vws, T.at, T.sub, T.put, T.putS, putT, T.fz, T.fzL, tru, itemAt, atI, ixN, shL, shT, allD, tms, lenT, tyT, tyNs, tyD, subT, tys, nonT, hEq, hNe, hLt, hLe, hGt, hGe, hCmp, hIn, hAbs, h2F, hMax2, hMin2, h2I, hSub, hMod, hDiv, hPow, hNeg, hInt1, hBls, hInts, blsD, intsD, strsD, hJoin, fSl1, seqD, wipable, wipeE, unwipe, outs, isL, keysT, keyD, moveOut, putBack, holes, noIo, isH, arrT, arrG, Op.deep, itemsT, itemsL, SeqAt.shaped, PyData.canLay0, PyData.canLayAll0, PyData.depth, PyData.depthAll, PyData.eqv, PyData.eqvAll, h, h1, h2]
theorem e_are_integers {ds : List PyData} (hl : ds.length ≤ 10000) {s : PyData} (hs : s = .list ds ∨ s = .tuple ds) : m_are_integers [.d s] = .ret (.d (.bool (ds.all isI))) [none] := by
  have hc : mLcGo [1] g_are_integers_0 mYes e_are_integers_0 ds [] [some (.d s), none] = .ok (ds.map fun d => .d (.bool (isI d))) [some (.d s), none] true := by
    refine lc_map _ hl fun d hd => ?_
    have h := e_is_integer d
    have he : e_are_integers_0 [some (.d s), some (.d d)] = .ok (.tm (.d (.bool (isI d)))) [some (.d s), some (.d d)] true := by
      unfold e_are_integers_0
      simp [ev_mVar, ev_mD, ev_mV, ev_mNil, ev_mYes, kP_ok, kP_exc, kP_bad, kB_ok, kB_exc, kB_bad, kC2_ok, kC2_exc, kC2_bad, kC1_ok, kC1_exc, kC1_bad, ev_mCons, kOp_ok, kOp_exc, kOp_bad, ev_mOpN, ev_m2, ev_m1, kSh_ok, kSh_exc, kSh_bad, ev_mSh, kD2_some, kD2_none, kD1_some, kD1_none, ev_fD, kT2_some, kT2_none, kTst_ok, kTst_exc, kTst_bad, ev_mTst, boolT_b, kTb_ok, kTb_exc, kTb_bad, ev_mTb, kAnd_t, kAnd_f, kAnd_exc, kAnd_bad, ev_mAndB, kOr_f, kOr_t, kOr_exc, kOr_bad, ev_mOrB, kNot_ok, kNot_exc, kNot_bad, ev_mNotB, kNotV_ok, kNotV_exc, kNotV_bad, ev_mNotV, kAV2_t, kAV2_f, kAV2_n, kAV_ok, kAV_exc, kAV_bad, ev_mAndV, kOV2_f, kOV2_t, kOV2_n, kOV_ok, kOV_exc, kOV_bad, ev_mOrV, kIfE_t, kIfE_f, kIfE_exc, kIfE_bad, ev_mIfE, ev_mSkip, ev_mBrk, ev_mCnt, kSeq_nx, kSeq_rt, kSeq_bk, kSeq_ct, kSeq_exc, kSeq_bad, ev_mSeq, kIf_t, kIf_f, kIf_exc, kIf_bad, ev_mIf, kExpr_ok, kExpr_exc, kExpr_bad, ev_mExpr, kRet_tm, kRet_pl, kRet_exc, kRet_bad, ev_mRet, ev_mRetN, kAsg_tm, kAsg_exc, kAsg_bad, ev_mAsg, kG_ok, kG_bad, kAsgG_tm, kAsgG_exc, kAsgG_bad, ev_mAsgG, kPar_tm, kPar_exc, kPar_bad, ev_mPar, kFor_ok, kFor_exc, kFor_bad, ev_mFor, kI2_some, kI2_none, kIOp_ok, kIOp_exc, kIOp_bad, ev_mIOp, kSI_ok, kSI_exc, kSI_bad, ev_mSeqI, kL2_ok, kLc_ok, kLc_exc, kLc_bad, ev_mLc, ev_mTgN, ev_mGNil, kGs_ok, ev_mGCons, kTg_some, ev_mTgT, ev_mTgL, kS3_some, kS2_l, kS1_ok, ev_mTgS, kH4_some, kH3_some, kH2_ok, kH1_t, kH1_f, kH0_ok, kH_ok, kH_exc, kH_bad, ev_mCh, kInt_ok, ev_mInt, kStr2_ok, kStr_ok, kStr_exc, kStr_bad, ev_mStr, kLs2_ok, kLs_ok, kLs_exc, kLs_bad, ev_mLs, kA2_ok, kA2_exc, kA2_bad, kA1_ok, kA1_exc, kA1_bad, ev_mApp, kF3_some, kF4_some, kF2_ret, kF2_exc, kF1_some, ev_fCall, kK2_ret, kK2_exc, kK1_some, ev_fCallK, kRun_nx, kRun_rt, kRun_exc, kRun_bad, ev_runF, ev_mDct0, kDc2_some, kDc_ok, kDc_exc, kDc_bad, ev_mDct, fIx, fAdd, fMul, fDivmod, fList, fTuple, fLst, fTup, fLen, fIsi, fApp, fSl10, fSl01, fSl11, fSl00, fRng1, fRng2, fIsN, share, look, vw, vws, T.at, T.sub, T.put, T.putS, putT, T.fz, T.fzL, tru, itemAt, atI, ixN, shL, shT, allD, tms, lenT, tyT, tyNs, tyD, subT, tys, nonT, hEq, hNe, hLt, hLe, hGt, hGe, hCmp, hIn, hAbs, h2F, hMax2, hMin2, h2I, hSub, hMod, hDiv, hPow, hNeg, hInt1, hBls, hInts, blsD, intsD, strsD, hJoin, fSl1, seqD, wipable, wipeE, unwipe, outs, isL, keysT, keyD, moveOut, putBack, holes, noIo, isH, arrT, arrG, Op.deep, itemsT, itemsL, SeqAt.shaped, PyData.canLay0, PyData.canLayAll0, PyData.depth, PyData.depthAll, PyData.eqv, PyData.eqvAll, h]
    exact ⟨_, _, _, _, _, _, rfl, rfl, he, rfl⟩
  unfold m_are_integers b_are_integers z_are_integers_0
  rcases hs with rfl | rfl
  · simp [ev_mVar, ev_mD, ev_mV, ev_mNil, ev_mYes, kP_ok, kP_exc, kP_bad, kB_ok, kB_exc, kB_bad, kC2_ok, kC2_exc, kC2_bad, kC1_ok, kC1_exc, kC1_bad, ev_mCons, kOp_ok, kOp_exc, kOp_bad, ev_mOpN, ev_m2, ev_m1, kSh_ok, kSh_exc, kSh_bad, ev_mSh, kD2_some, kD2_none, kD1_some, kD1_none, ev_fD, kT2_some, kT2_none, kTst_ok, kTst_exc, kTst_bad, ev_mTst, boolT_b, kTb_ok, kTb_exc, kTb_bad, ev_mTb, kAnd_t, kAnd_f, kAnd_exc, kAnd_bad, ev_mAndB, kOr_f, kOr_t, kOr_exc, kOr_bad, ev_mOrB, kNot_ok, kNot_exc, kNot_bad, ev_mNotB, kNotV_ok, kNotV_exc, kNotV_bad, ev_mNotV, kAV2_t, kAV2_f, kAV2_n, kAV_ok, kAV_exc, kAV_bad, ev_mAndV, kOV2_f, kOV2_t, kOV2_n, kOV_ok, kOV_exc, kOV_bad, ev_mOrV, kIfE_t, kIfE_f, kIfE_exc, kIfE_bad, ev_mIfE, ev_mSkip, ev_mBrk, ev_mCnt, kSeq_nx, kSeq_rt, kSeq_bk, kSeq_ct, kSeq_exc, kSeq_bad, ev_mSeq, kIf_t, kIf_f, kIf_exc, kIf_bad, ev_mIf, kExpr_ok, kExpr_exc, kExpr_bad, ev_mExpr, kRet_tm, kRet_pl, kRet_exc, kRet_bad, ev_mRet, ev_mRetN, kAsg_tm, kAsg_exc, kAsg_bad, ev_mAsg, kG_ok, kG_bad, kAsgG_tm, kAsgG_exc, kAsgG_bad, ev_mAsgG, kPar_tm, kPar_exc, kPar_bad, ev_mPar, kFor_ok, kFor_exc, kFor_bad, ev_mFor, kI2_some, kI2_none, kIOp_ok, kIOp_exc, kIOp_bad, ev_mIOp, kSI_ok, kSI_exc, kSI_bad, ev_mSeqI, kL2_ok, kLc_ok, kLc_exc, kLc_bad, ev_mLc, ev_mTgN, ev_mGNil, kGs_ok, ev_mGCons, kTg_some, ev_mTgT, ev_mTgL, kS3_some, kS2_l, kS1_ok, ev_mTgS, kH4_some, kH3_some, kH2_ok, kH1_t, kH1_f, kH0_ok, kH_ok, kH_exc, kH_bad, ev_mCh, kInt_ok, ev_mInt, kStr2_ok, kStr_ok, kStr_exc, kStr_bad, ev_mStr, kLs2_ok, kLs_ok, kLs_exc, kLs_bad, ev_mLs, kA2_ok, kA2_exc, kA2_bad, kA1_ok, kA1_exc, kA1_bad, ev_mApp, kF3_some, kF4_some, kF2_ret, kF2_exc, kF1_some, ev_fCall, kK2_ret, kK2_exc, kK1_some, ev_fCallK, kRun_nx, kRun_rt, kRun_exc, kRun_bad, ev_runF, ev_mDct0, kDc2_some, kDc_ok, kDc_exc, kDc_bad, ev_mDct, fIx, fAdd, fMul, fDivmod, fList, fTuple, fLst, fTup, fLen, fIsi, fApp, fSl10, fSl01, fSl11, fSl00, fRng1, fRng2, fIsN, share, look, vw, vws, T.at, T.sub, T.put, T.putS, putT, T.fz, T.fzL, tru, itemAt, atI, ixN, shL, shT, allD, tms, lenT, tyT, tyNs, tyD, subT, tys, nonT, hEq, hNe, hLt, hLe, hGt, hGe, hCmp, hIn, hAbs, h2F, hMax2, hMin2, h2I, hSub, hMod, hDiv, hPow, hNeg, hInt1, hBls, hInts, blsD, intsD, strsD, hJoin, fSl1, seqD, wipable, wipeE, unwipe, outs, isL, keysT, keyD, moveOut, putBack, holes, noIo, isH, arrT, arrG, Op.deep, itemsT, itemsL, SeqAt.shaped, PyData.canLay0, PyData.canLayAll0, PyData.depth, PyData.depthAll, PyData.eqv, PyData.eqvAll, q_are_integers_0, hc, fzL_fn, blsD_fn, all_id_map]
  · simp [ev_mVar, ev_mD, ev_mV, ev_mNil, ev_mYes, kP_ok, kP_exc, kP_bad, kB_ok, kB_exc, kB_bad, kC2_ok, kC2_exc, kC2_bad, kC1_ok, kC1_exc, kC1_bad, ev_mCons, kOp_ok, kOp_exc, kOp_bad, ev_mOpN, ev_m2, ev_m1, kSh_ok, kSh_exc, kSh_bad, ev_mSh, kD2_some, kD2_none, kD1_some, kD1_none, ev_fD, kT2_some, kT2_none, kTst_ok, kTst_exc, kTst_bad, ev_mTst, boolT_b, kTb_ok, kTb_exc, kTb_bad, ev_mTb, kAnd_t, kAnd_f, kAnd_exc, kAnd_bad, ev_mAndB, kOr_f, kOr_t, kOr_exc, kOr_bad, ev_mOrB, kNot_ok, kNot_exc, kNot_bad, ev_mNotB, kNotV_ok, kNotV_exc, kNotV_bad, ev_mNotV, kAV2_t, kAV2_f, kAV2_n, kAV_ok, kAV_exc, kAV_bad, ev_mAndV, kOV2_f, kOV2_t, kOV2_n, kOV_ok, kOV_exc, kOV_bad, ev_mOrV, kIfE_t, kIfE_f, kIfE_exc, kIfE_bad, ev_mIfE, ev_mSkip, ev_mBrk, ev_mCnt, kSeq_nx, kSeq_rt, kSeq_bk, kSeq_ct, kSeq_exc, kSeq_bad, ev_mSeq, kIf_t, kIf_f, kIf_exc, kIf_bad, ev_mIf, kExpr_ok, kExpr_exc, kExpr_bad, ev_mExpr, kRet_tm, kRet_pl, kRet_exc, kRet_bad, ev_mRet, ev_mRetN, kAsg_tm, kAsg_exc, kAsg_bad, ev_mAsg, kG_ok, kG_bad, kAsgG_tm, kAsgG_exc, kAsgG_bad, ev_mAsgG, kPar_tm, kPar_exc, kPar_bad, ev_mPar, kFor_ok, kFor_exc, kFor_bad, ev_mFor, kI2_some, kI2_none, kIOp_ok, kIOp_exc, kIOp_bad, ev_mIOp, kSI_ok, kSI_exc, kSI_bad, ev_mSeqI, kL2_ok, kLc_ok, kLc_exc, kLc_bad, ev_mLc, ev_mTgN, ev_mGNil, kGs_ok, ev_mGCons, kTg_some, ev_mTgT, ev_mTgL, kS3_some, kS2_l, kS1_ok, ev_mTgS, kH4_some, kH3_some, kH2_ok, kH1_t, kH1_f, kH0_ok, kH_ok, kH_exc, kH_bad, ev_mCh, kInt_ok, ev_mInt, kStr2_ok, kStr_ok, kStr_exc, kStr_bad, ev_mStr, kLs2_ok, kLs_ok, kLs_exc, kLs_bad, ev_mLs, kA2_ok, kA2_exc, kA2_bad, kA1_ok, kA1_exc, kA1_bad, ev_mApp, kF3_some, kF4_some, kF2_ret, kF2_exc, kF1_some, ev_fCall, kK2_ret, kK2_exc, kK1_some, ev_fCallK, kRun_nx, kRun_rt, kRun_exc, kRun_bad, ev_runF, ev_mDct0, kDc2_some, kDc_ok, kDc_exc, kDc_bad, ev_mDct, fIx, fAdd, fMul, fDivmod, fList, fTuple, fLst, fTup, fLen, fIsi, fApp, fSl10, fSl01, fSl11, fSl00, fRng1, fRng2, fIsN, share, look, vw, vws, T.at, T.sub, T.put, T.putS, putT, T.fz, T.fzL, tru, itemAt, atI, ixN, shL, shT, allD, tms, lenT, tyT, tyNs, tyD, subT, tys, nonT, hEq, hNe, hLt, hLe, hGt, hGe, hCmp, hIn, hAbs, h2F, hMax2, hMin2, h2I, hSub, hMod, hDiv, hPow, hNeg, hInt1, hBls, hInts, blsD, intsD, strsD, hJoin, fSl1, seqD, wipable, wipeE, unwipe, outs, isL, keysT, keyD, moveOut, putBack, holes, noIo, isH, arrT, arrG, Op.deep, itemsT, itemsL, SeqAt.shaped, PyData.canLay0, PyData.canLayAll0, PyData.depth, PyData.depthAll, PyData.eqv, PyData.eqvAll, q_are_integers_0, hc, fzL_fn, blsD_fn, all_id_map]
/-- rows: a list or a tuple of ints -/
theorem e_is_row_none {ds : List PyData} (hl : ds.length ≤ 10000) {s : PyData} (hs : s = .list ds ∨ s = .tuple ds) : m_is_row [.d s, .d .none] = .ret (.d (.bool (ds.all isI && (decide (1 ≤ ds.length) && decide (ds.length ≤ 16))))) [none, none] := by
  have h := e_are_integers hl hs
  have h2 := e_is_width (ds.length : Int)
  have g0 : z_is_row_1 [some (.d s), some (.d .none)] = .ok .nx [some (.d s), some (.d .none)] true := by
    unfold z_is_row_1
    simp [ev_mVar, ev_mD, ev_mV, ev_mNil, ev_mYes, kP_ok, kP_exc, kP_bad, kB_ok, kB_exc, kB_bad, kC2_ok, kC2_exc, kC2_bad, kC1_ok, kC1_exc, kC1_bad, ev_mCons, kOp_ok, kOp_exc, kOp_bad, ev_mOpN, ev_m2, ev_m1, kSh_ok, kSh_exc, kSh_bad, ev_mSh, kD2_some, kD2_none, kD1_some, kD1_none, ev_fD, kT2_some, kT2_none, kTst_ok, kTst_exc, kTst_bad, ev_mTst, boolT_b, kTb_ok, kTb_exc, kTb_bad, ev_mTb, kAnd_t, kAnd_f, kAnd_exc, kAnd_bad, ev_mAndB, kOr_f, kOr_t, kOr_exc, kOr_bad, ev_mOrB, kNot_ok, kNot_exc, kNot_bad, ev_mNotB, kNotV_ok, kNotV_exc, kNotV_bad, ev_mNotV, kAV2_t, kAV2_f, kAV2_n, kAV_ok, kAV_exc, kAV_bad, ev_mAndV, kOV2_f, kOV2_t, kOV2_n, kOV_ok, kOV_exc, kOV_bad, ev_mOrV, kIfE_t, kIfE_f, kIfE_exc, kIfE_bad, ev_mIfE, ev_mSkip, ev_mBrk, ev_mCnt, kSeq_nx, kSeq_rt, kSeq_bk, kSeq_ct, kSeq_exc, kSeq_bad, ev_mSeq, kIf_t, kIf_f, kIf_exc, kIf_bad, ev_mIf, kExpr_ok, kExpr_exc, kExpr_bad, ev_mExpr, kRet_tm, kRet_pl, kRet_exc, kRet_bad, ev_mRet, ev_mRetN, kAsg_tm, kAsg_exc, kAsg_bad, ev_mAsg, kG_ok, kG_bad, kAsgG_tm, kAsgG_exc, kAsgG_bad, ev_mAsgG, kPar_tm, kPar_exc, kPar_bad, ev_mPar, kFor_ok, kFor_exc, kFor_bad, ev_mFor, kI2_some, kI2_none, kIOp_ok, kIOp_exc, kIOp_bad, ev_mIOp, kSI_ok, kSI_exc, kSI_bad, ev_mSeqI, kL2_ok, kLc_ok, kLc_exc, kLc_bad, ev_mLc, ev_mTgN, ev_mGNil, kGs_ok, ev_mGCons, kTg_some, ev_mTgT, ev_mTgL, kS3_some, kS2_l, kS1_ok, ev_mTgS, kH4_some, kH3_some, kH2_ok, kH1_t, kH1_f, kH0_ok, kH_ok, kH_exc, kH_bad, ev_mCh, kInt_ok, ev_mInt, kStr2_ok, kStr_ok, kStr_exc, kStr_bad, ev_mStr, kLs2_ok, kLs_ok, kLs_exc, kLs_bad, ev_mLs, kA2_ok, kA2_exc, kA2_bad, kA1_ok, kA1_exc, kA1_bad, ev_mApp, kF3_some, kF4_some, kF2_ret, kF2_exc, kF1_some, ev_fCall, kK2_ret, kK2_exc, kK1_some, ev_fCallK, kRun_nx, kRun_rt, kRun_exc, kRun_bad, ev_runF, ev_mDct0, kDc2_some, kDc_ok, kDc_exc, kDc_bad, ev_mDct, fIx, fAdd, fMul, fDivmod, fList, fTuple, fLst, fTup, fLen, fIsi, fApp, fSl10, fSl01, fSl11, fSl00, fRng1, fRng2, fIsN, share, look, vw, vws, T.at, T.sub, T.put, T.putS, putT, T.fz, T.fzL, tru, itemAt, atI, ixN, shL, shT, allD, tms, lenT, tyT, tyNs, tyD, subT, tys, nonT, hEq, hNe, hLt, hLe, hGt, hGe, hCmp, hIn, hAbs, h2F, hMax2, hMin2, h2I, hSub, hMod, hDiv, hPow, hNeg, hInt1, hBls, hInts, blsD, intsD, strsD, hJoin, fSl1, seqD, wipable, wipeE, unwipe, outs, isL, keysT, keyD, moveOut, putBack, holes, noIo, isH, arrT, arrG, Op.deep, itemsT, itemsL, SeqAt.shaped, PyData.canLay0, PyData.canLayAll0, PyData.depth, PyData.depthAll, PyData.eqv, PyData.eqvAll]
  show runF 2 [.sh, .sh] (mSeq z_is_row_1 (mSeq z_is_row_3 z_is_row_4)) _ = _
  rw [ev_runF]
  show kRun [.sh, .sh] (mSeq z_is_row_1 (mSeq z_is_row_3 z_is_row_4) [some (.d s), some (.d .none)]) = _
  rw [ev_mSeq, g0, kSeq_nx, ev_mSeq]
  cases ha : ds.all isI with
  | false =>
    rw [ha] at h
    have g1 : z_is_row_3 [some (.d s), some (.d .none)] = .ok (.rt (.d (.bool false))) [some (.d s), some (.d .none)] true := by
      unfold z_is_row_3
      simp [ev_mVar, ev_mD, ev_mV, ev_mNil, ev_mYes, kP_ok, kP_exc, kP_bad, kB_ok, kB_exc, kB_bad, kC2_ok, kC2_exc, kC2_bad, kC1_ok, kC1_exc, kC1_bad, ev_mCons, kOp_ok, kOp_exc, kOp_bad, ev_mOpN, ev_m2, ev_m1, kSh_ok, kSh_exc, kSh_bad, ev_mSh, kD2_some, kD2_none, kD1_some, kD1_none, ev_fD, kT2_some, kT2_none, kTst_ok, kTst_exc, kTst_bad, ev_mTst, boolT_b, kTb_ok, kTb_exc, kTb_bad, ev_mTb, kAnd_t, kAnd_f, kAnd_exc, kAnd_bad, ev_mAndB, kOr_f, kOr_t, kOr_exc, kOr_bad, ev_mOrB, kNot_ok, kNot_exc, kNot_bad, ev_mNotB, kNotV_ok, kNotV_exc, kNotV_bad, ev_mNotV, kAV2_t, kAV2_f, kAV2_n, kAV_ok, kAV_exc, kAV_bad, ev_mAndV, kOV2_f, kOV2_t, kOV2_n, kOV_ok, kOV_exc, kOV_bad, ev_mOrV, kIfE_t, kIfE_f, kIfE_exc, kIfE_bad, ev_mIfE, ev_mSkip, ev_mBrk, ev_mCnt, kSeq_nx, kSeq_rt, kSeq_bk, kSeq_ct, kSeq_exc, kSeq_bad, ev_mSeq, kIf_t, kIf_f, kIf_exc, kIf_bad, ev_mIf, kExpr_ok, kExpr_exc, kExpr_bad, ev_mExpr, kRet_tm, kRet_pl, kRet_exc, kRet_bad, ev_mRet, ev_mRetN, kAsg_tm, kAsg_exc, kAsg_bad, ev_mAsg, kG_ok, kG_bad, kAsgG_tm, kAsgG_exc, kAsgG_bad, ev_mAsgG, kPar_tm, kPar_exc, kPar_bad, ev_mPar, kFor_ok, kFor_exc, kFor_bad, ev_mFor, kI2_some, kI2_none, kIOp_ok, kIOp_exc, kIOp_bad, ev_mIOp, kSI_ok, kSI_exc, kSI_bad, ev_mSeqI, kL2_ok, kLc_ok, kLc_exc, kLc_bad, ev_mLc, ev_mTgN, ev_mGNil, kGs_ok, ev_mGCons, kTg_some, ev_mTgT, ev_mTgL, kS3_some, kS2_l, kS1_ok, ev_mTgS, kH4_some, kH3_some, kH2_ok, kH1_t, kH1_f, kH0_ok, kH_ok, kH_exc, kH_bad, ev_mCh, kInt_ok, ev_mInt, kStr2_ok, kStr_ok, kStr_exc, kStr_bad, ev_mStr, kLs2_ok, kLs_ok, kLs_exc, kLs_bad, ev_mLs, kA2_ok, kA2_exc, kA2_bad, kA1_ok, kA1_exc, kA1_bad, ev_mApp, kF3_some, kF4_some, kF2_ret, kF2_exc, kF1_some, ev_fCall, kK2_ret, kK2_exc, kK1_some, ev_fCallK, kRun_nx, kRun_rt, kRun_exc, kRun_bad, ev_runF, ev_mDct0, kDc2_some, kDc_ok, kDc_exc, kDc_bad, ev_mDct, fIx, fAdd, fMul, fDivmod, fList, fTuple, fLst, fTup, fLen, fIsi, fApp, fSl10, fSl01, fSl11, fSl00, fRng1, fRng2, fIsN, share, look, vw, vws, T.at, T.sub, T.put, T.putS, putT, T.fz, T.fzL, tru, itemAt, atI, ixN, shL, shT, allD, tms, lenT, tyT, tyNs, tyD, subT, tys, nonT, hEq, hNe, hLt, hLe, hGt, hGe, hCmp, hIn, hAbs, h2F, hMax2, hMin2, h2I, hSub, hMod, hDiv, hPow, hNeg, hInt1, hBls, hInts, blsD, intsD, strsD, hJoin, fSl1, seqD, wipable, wipeE, unwipe, outs, isL, keysT, keyD, moveOut, putBack, holes, noIo, isH, arrT, arrG, Op.deep, itemsT, itemsL, SeqAt.shaped, PyData.canLay0, PyData.canLayAll0, PyData.depth, PyData.depthAll, PyData.eqv, PyData.eqvAll, h, z_is_row_2]
    rw [g1, kSeq_rt, kRun_rt]
    rfl
  | true =>
    rw [ha] at h
    have g1 : z_is_row_3 [some (.d s), some (.d .none)] = .ok .nx [some (.d s), some (.d .none)] true := by
      unfold z_is_row_3
      simp [ev_mVar, ev_mD, ev_mV, ev_mNil, ev_mYes, kP_ok, kP_exc, kP_bad, kB_ok, kB_exc, kB_bad, kC2_ok, kC2_exc, kC2_bad, kC1_ok, kC1_exc, kC1_bad, ev_mCons, kOp_ok, kOp_exc, kOp_bad, ev_mOpN, ev_m2, ev_m1, kSh_ok, kSh_exc, kSh_bad, ev_mSh, kD2_some, kD2_none, kD1_some, kD1_none, ev_fD, kT2_some, kT2_none, kTst_ok, kTst_exc, kTst_bad, ev_mTst, boolT_b, kTb_ok, kTb_exc, kTb_bad, ev_mTb, kAnd_t, kAnd_f, kAnd_exc, kAnd_bad, ev_mAndB, kOr_f, kOr_t, kOr_exc, kOr_bad, ev_mOrB, kNot_ok, kNot_exc, kNot_bad, ev_mNotB, kNotV_ok, kNotV_exc, kNotV_bad, ev_mNotV, kAV2_t, kAV2_f, kAV2_n, kAV_ok, kAV_exc, kAV_bad, ev_mAndV, kOV2_f, kOV2_t, kOV2_n, kOV_ok, kOV_exc, kOV_bad, ev_mOrV, kIfE_t, kIfE_f, kIfE_exc, kIfE_bad, ev_mIfE, ev_mSkip, ev_mBrk, ev_mCnt, kSeq_nx, kSeq_rt, kSeq_bk, kSeq_ct, kSeq_exc, kSeq_bad, ev_mSeq, kIf_t, kIf_f, kIf_exc, kIf_bad, ev_mIf, kExpr_ok, kExpr_exc, kExpr_bad, ev_mExpr, kRet_tm, kRet_pl, kRet_exc, kRet_bad, ev_mRet, ev_mRetN, kAsg_tm, kAsg_exc, kAsg_bad, ev_mAsg, kG_ok, kG_bad, kAsgG_tm, kAsgG_exc, kAsgG_bad, ev_mAsgG, kPar_tm, kPar_exc, kPar_bad, ev_mPar, kFor_ok, kFor_exc, kFor_bad, ev_mFor, kI2_some, kI2_none, kIOp_ok, kIOp_exc, kIOp_bad, ev_mIOp, kSI_ok, kSI_exc, kSI_bad, ev_mSeqI, kL2_ok, kLc_ok, kLc_exc, kLc_bad, ev_mLc, ev_mTgN, ev_mGNil, kGs_ok, ev_mGCons, kTg_some, ev_mTgT, ev_mTgL, kS3_some, kS2_l, kS1_ok, ev_mTgS, kH4_some, kH3_some, kH2_ok, kH1_t, kH1_f, kH0_ok, kH_ok, kH_exc, kH_bad, ev_mCh, kInt_ok, ev_mInt, kStr2_ok, kStr_ok, kStr_exc, kStr_bad, ev_mStr, kLs2_ok, kLs_ok, kLs_exc, kLs_bad, ev_mLs, kA2_ok, kA2_exc, kA2_bad, kA1_ok, kA1_exc, kA1_bad, ev_mApp, kF3_some, kF4_some, kF2_ret, kF2_exc, kF1_some, ev_fCall, kK2_ret, kK2_exc, kK1_some, ev_fCallK, kRun_nx, kRun_rt, kRun_exc, kRun_bad, ev_runF, ev_mDct0, kDc2_some, kDc_ok, kDc_exc, kDc_bad, ev_mDct, fIx, fAdd, fMul, fDivmod, fList, fTuple, fLst, fTup, fLen, fIsi, fApp, fSl10, fSl01, fSl11, fSl00, fRng1, fRng2, fIsN, share, look, vw, vws, T.at, T.sub, T.put, T.putS, putT, T.fz, T.fzL, tru, itemAt, atI, ixN, shL, shT, allD, tms, lenT, tyT, tyNs, tyD, subT, tys, nonT, hEq, hNe, hLt, hLe, hGt, hGe, hCmp, hIn, hAbs, h2F, hMax2, hMin2, h2I, hSub, hMod, hDiv, hPow, hNeg, hInt1, hBls, hInts, blsD, intsD, strsD, hJoin, fSl1, seqD, wipable, wipeE, unwipe, outs, isL, keysT, keyD, moveOut, putBack, holes, noIo, isH, arrT, arrG, Op.deep, itemsT, itemsL, SeqAt.shaped, PyData.canLay0, PyData.canLayAll0, PyData.depth, PyData.depthAll, PyData.eqv, PyData.eqvAll, h]
    have g2 : z_is_row_4 [some (.d s), some (.d .none)] = .ok (.rt (.d (.bool (decide (1 ≤ ds.length) && decide (ds.length ≤ 16))))) [some (.d s), some (.d .none)] true := by
      have e1 : (decide (1 ≤ (ds.length : Int)) && decide ((ds.length : Int) ≤ 16)) = (decide (1 ≤ ds.length) && decide (ds.length ≤ 16)) := by
        congr 1
        · exact decide_eq_decide.mpr (by omega)
        · exact decide_eq_decide.mpr (by omega)
      rw [e1] at h2
      unfold z_is_row_4
      rcases hs with rfl | rfl
      · simp [ev_mVar, ev_mD, ev_mV, ev_mNil, ev_mYes, kP_ok, kP_exc, kP_bad, kB_ok, kB_exc, kB_bad, kC2_ok, kC2_exc, kC2_bad, kC1_ok, kC1_exc, kC1_bad, ev_mCons, kOp_ok, kOp_exc, kOp_bad, ev_mOpN, ev_m2, ev_m1, kSh_ok, kSh_exc, kSh_bad, ev_mSh, kD2_some, kD2_none, kD1_some, kD1_none, ev_fD, kT2_some, kT2_none, kTst_ok, kTst_exc, kTst_bad, ev_mTst, boolT_b, kTb_ok, kTb_exc, kTb_bad, ev_mTb, kAnd_t, kAnd_f, kAnd_exc, kAnd_bad, ev_mAndB, kOr_f, kOr_t, kOr_exc, kOr_bad, ev_mOrB, kNot_ok, kNot_exc, kNot_bad, ev_mNotB, kNotV_ok, kNotV_exc, kNotV_bad, ev_mNotV, kAV2_t, kAV2_f, kAV2_n, kAV_ok, kAV_exc, kAV_bad, ev_mAndV, kOV2_f, kOV2_t, kOV2_n, kOV_ok, kOV_exc, kOV_bad, ev_mOrV, kIfE_t, kIfE_f, kIfE_exc, kIfE_bad, ev_mIfE, ev_mSkip, ev_mBrk, ev_mCnt, kSeq_nx, kSeq_rt, kSeq_bk, kSeq_ct, kSeq_exc, kSeq_bad, ev_mSeq, kIf_t, kIf_f, kIf_exc, kIf_bad, ev_mIf, kExpr_ok, kExpr_exc, kExpr_bad, ev_mExpr, kRet_tm, kRet_pl, kRet_exc, kRet_bad, ev_mRet, ev_mRetN, kAsg_tm, kAsg_exc, kAsg_bad, ev_mAsg, kG_ok, kG_bad, kAsgG_tm, kAsgG_exc, kAsgG_bad, ev_mAsgG, kPar_tm, kPar_exc, kPar_bad, ev_mPar, kFor_ok, kFor_exc, kFor_bad, ev_mFor, kI2_some, kI2_none, kIOp_ok, kIOp_exc, kIOp_bad, ev_mIOp, kSI_ok, kSI_exc, kSI_bad, ev_mSeqI, kL2_ok, kLc_ok, kLc_exc, kLc_bad, ev_mLc, ev_mTgN, ev_mGNil, kGs_ok, ev_mGCons, kTg_some, ev_mTgT, ev_mTgL, kS3_some, kS2_l, kS1_ok, ev_mTgS, kH4_some, kH3_some, kH2_ok, kH1_t, kH1_f, kH0_ok, kH_ok, kH_exc, kH_bad, ev_mCh, kInt_ok, ev_mInt, kStr2_ok, kStr_ok, kStr_exc, kStr_bad, ev_mStr, kLs2_ok, kLs_ok, kLs_exc, kLs_bad, ev_mLs, kA2_ok, kA2_exc, kA2_bad, kA1_ok, kA1_exc, kA1_bad, ev_mApp, kF3_some, kF4_some, kF2_ret, kF2_exc, kF1_some, ev_fCall, kK2_ret, kK2_exc, kK1_some, ev_fCallK, kRun_nx, kRun_rt, kRun_exc, kRun_bad, ev_runF, ev_mDct0, kDc2_some, kDc_ok, kDc_exc, kDc_bad, ev_mDct, fIx, fAdd, fMul, fDivmod, fList, fTuple, fLst, fTup, fLen, fIsi, fApp, fSl10, fSl01, fSl11, fSl00, fRng1, fRng2, fIsN, share, look, vw, vws, T.at, T.sub, T.put, T.putS, putT, T.fz, T.fzL, tru, itemAt, atI, ixN, shL, shT, allD, tms, lenT, tyT, tyNs, tyD, subT, tys, nonT, hEq, hNe, hLt, hLe, hGt, hGe, hCmp, hIn, hAbs, h2F, hMax2, hMin2, h2I, hSub, hMod, hDiv, hPow, hNeg, hInt1, hBls, hInts, blsD, intsD, strsD, hJoin, fSl1, seqD, wipable, wipeE, unwipe, outs, isL, keysT, keyD, moveOut, putBack, holes, noIo, isH, arrT, arrG, Op.deep, itemsT, itemsL, SeqAt.shaped, PyData.canLay0, PyData.canLayAll0, PyData.depth, PyData.depthAll, PyData.eqv, PyData.eqvAll, h2]
      · simp [ev_mVar, ev_mD, ev_mV, ev_mNil, ev_mYes, kP_ok, kP_exc, kP_bad, kB_ok, kB_exc, kB_bad, kC2_ok, kC2_exc, kC2_bad, kC1_ok, kC1_exc, kC1_bad, ev_mCons, kOp_ok, kOp_exc, kOp_bad, ev_mOpN, ev_m2, ev_m1, kSh_ok, kSh_exc, kSh_bad, ev_mSh, kD2_some, kD2_none, kD1_some, kD1_none, ev_fD, kT2_some, kT2_none, kTst_ok, kTst_exc, kTst_bad, ev_mTst, boolT_b, kTb_ok, kTb_exc, kTb_bad, ev_mTb, kAnd_t, kAnd_f, kAnd_exc, kAnd_bad, ev_mAndB, kOr_f, kOr_t, kOr_exc, kOr_bad, ev_mOrB, kNot_ok, kNot_exc, kNot_bad, ev_mNotB, kNotV_ok, kNotV_exc, kNotV_bad, ev_mNotV, kAV2_t, kAV2_f, kAV2_n, kAV_ok, kAV_exc, kAV_bad, ev_mAndV, kOV2_f, kOV2_t, kOV2_n, kOV_ok, kOV_exc, kOV_bad, ev_mOrV, kIfE_t, kIfE_f, kIfE_exc, kIfE_bad, ev_mIfE, ev_mSkip, ev_mBrk, ev_mCnt, kSeq_nx, kSeq_rt, kSeq_bk, kSeq_ct, kSeq_exc, kSeq_bad, ev_mSeq, kIf_t, kIf_f, kIf_exc, kIf_bad, ev_mIf, kExpr_ok, kExpr_exc, kExpr_bad, ev_mExpr, kRet_tm, kRet_pl, kRet_exc, kRet_bad, ev_mRet, ev_mRetN, kAsg_tm, kAsg_exc, kAsg_bad, ev_mAsg, kG_ok, kG_bad, kAsgG_tm, kAsgG_exc, kAsgG_bad, ev_mAsgG, kPar_tm, kPar_exc, kPar_bad, ev_mPar, kFor_ok, kFor_exc, kFor_bad, ev_mFor, kI2_some, kI2_none, kIOp_ok, kIOp_exc, kIOp_bad, ev_mIOp, kSI_ok, kSI_exc, kSI_bad, ev_mSeqI, kL2_ok, kLc_ok, kLc_exc, kLc_bad, ev_mLc, ev_mTgN, ev_mGNil, kGs_ok, ev_mGCons, kTg_some, ev_mTgT, ev_mTgL, kS3_some, kS2_l, kS1_ok, ev_mTgS, kH4_some, kH3_some, kH2_ok, kH1_t, kH1_f, kH0_ok, kH_ok, kH_exc, kH_bad, ev_mCh, kInt_ok, ev_mInt, kStr2_ok, kStr_ok, kStr_exc, kStr_bad, ev_mStr, kLs2_ok, kLs_ok, kLs_exc, kLs_bad, ev_mLs, kA2_ok, kA2_exc, kA2_bad, kA1_ok, kA1_exc, kA1_bad, ev_mApp, kF3_some, kF4_some, kF2_ret, kF2_exc, kF1_some, ev_fCall, kK2_ret, kK2_exc, kK1_some, ev_fCallK, kRun_nx, kRun_rt, kRun_exc, kRun_bad, ev_runF, ev_mDct0, kDc2_some, kDc_ok, kDc_exc, kDc_bad, ev_mDct, fIx, fAdd, fMul, fDivmod, fList, fTuple, fLst, fTup, fLen, fIsi, fApp, fSl10, fSl01, fSl11, fSl00, fRng1, fRng2, fIsN, share, look, vw, vws, T.at, T.sub, T.put, T.putS, putT, T.fz, T.fzL, tru, itemAt, atI, ixN, shL, shT, allD, tms, lenT, tyT, tyNs, tyD, subT, tys, nonT, hEq, hNe, hLt, hLe, hGt, hGe, hCmp, hIn, hAbs, h2F, hMax2, hMin2, h2I, hSub, hMod, hDiv, hPow, hNeg, hInt1, hBls, hInts, blsD, intsD, strsD, hJoin, fSl1, seqD, wipable, wipeE, unwipe, outs, isL, keysT, keyD, moveOut, putBack, holes, noIo, isH, arrT, arrG, Op.deep, itemsT, itemsL, SeqAt.shaped, PyData.canLay0, PyData.canLayAll0, PyData.depth, PyData.depthAll, PyData.eqv, PyData.eqvAll, h2]
    rw [g1, kSeq_nx, g2, kRun_rt]
    rfl
def rowB : PyData → Bool
  | .list ds => ds.all isI && (decide (1 ≤ ds.length) && decide (ds.length ≤ 16))
  | .tuple ds => ds.all isI && (decide (1 ≤ ds.length) && decide (ds.length ≤ 16))
  | _ => false
def lenD : PyData → Nat
  | .list ds => ds.length
  | .tuple ds => ds.length
  | _ => 0
def isSq : PyData → Bool
  | .list _ => true
  | .tuple _ => true
  | _ => false
theorem e_are_integers_no {s : PyData} (h : isSq s = false) : m_are_integers [.d s] = .ret (.d (.bool false)) [none] := by
  cases s <;> first | rfl | cases h
theorem e_is_row {s : PyData} (hl : lenD s ≤ 10000) : m_is_row [.d s, .d .none] = .ret (.d (.bool (rowB s))) [none, none] := by
  by_cases h : isSq s = false
  · have h1 := e_are_integers_no h
    have e : rowB s = false := by cases s <;> first | rfl | cases h
    have g0 : z_is_row_1 [some (.d s), some (.d .none)] = .ok .nx [some (.d s), some (.d .none)] true := by
      unfold z_is_row_1
      simp [ev_mVar, ev_mD, ev_mV, ev_mNil, ev_mYes, kP_ok, kP_exc, kP_bad, kB_ok, kB_exc, kB_bad, kC2_ok, kC2_exc, kC2_bad, kC1_ok, kC1_exc, kC1_bad, ev_mCons, kOp_ok, kOp_exc, kOp_bad, ev_mOpN, ev_m2, ev_m1, kSh_ok, kSh_exc, kSh_bad, ev_mSh, kD2_some, kD2_none, kD1_some, kD1_none, ev_fD, kT2_some, kT2_none, kTst_ok, kTst_exc, kTst_bad, ev_mTst, boolT_b, kTb_ok, kTb_exc, kTb_bad, ev_mTb, kAnd_t, kAnd_f, kAnd_exc, kAnd_bad, ev_mAndB, kOr_f, kOr_t, kOr_exc, kOr_bad, ev_mOrB, kNot_ok, kNot_exc, kNot_bad, ev_mNotB, kNotV_ok, kNotV_exc, kNotV_bad, ev_mNotV, kAV2_t, kAV2_f, kAV2_n, kAV_ok, kAV_exc, kAV_bad, ev_mAndV, kOV2_f, kOV2_t, kOV2_n, kOV_ok, kOV_exc, kOV_bad, ev_mOrV, kIfE_t, kIfE_f, kIfE_exc, kIfE_bad, ev_mIfE, ev_mSkip, ev_mBrk, ev_mCnt, kSeq_nx, kSeq_rt, kSeq_bk, kSeq_ct, kSeq_exc, kSeq_bad, ev_mSeq, kIf_t, kIf_f, kIf_exc, kIf_bad, ev_mIf, kExpr_ok, kExpr_exc, kExpr_bad, ev_mExpr, kRet_tm, kRet_pl, kRet_exc, kRet_bad, ev_mRet, ev_mRetN, kAsg_tm, kAsg_exc, kAsg_bad, ev_mAsg, kG_ok, kG_bad, kAsgG_tm, kAsgG_exc, kAsgG_bad, ev_mAsgG, kPar_tm, kPar_exc, kPar_bad, ev_mPar, kFor_ok, kFor_exc, kFor_bad, ev_mFor, kI2_some, kI2_none, kIOp_ok, kIOp_exc, kIOp_bad, ev_mIOp, kSI_ok, kSI_exc, kSI_bad, ev_mSeqI, kL2_ok, kLc_ok, kLc_exc, kLc_bad, ev_mLc, ev_mTgN, ev_mGNil, kGs_ok, ev_mGCons, kTg_some, ev_mTgT, ev_mTgL, kS3_some, kS2_l, kS1_ok, ev_mTgS, kH4_some, kH3_some, kH2_ok, kH1_t, kH1_f, kH0_ok, kH_ok, kH_exc, kH_bad, ev_mCh, kInt_ok, ev_mInt, kStr2_ok, kStr_ok, kStr_exc, kStr_bad, ev_mStr, kLs2_ok, kLs_ok, kLs_exc, kLs_bad, ev_mLs, kA2_ok, kA2_exc, kA2_bad, kA1_ok, kA1_exc, kA1_bad, ev_mApp, kF3_some, kF4_some, kF2_ret, kF2_exc, kF1_some, ev_fCall, kK2_ret, kK2_exc, kK1_some, ev_fCallK, kRun_nx, kRun_rt, kRun_exc, kRun_bad, ev_runF, ev_mDct0, kDc2_some, kDc_ok, kDc_exc, kDc_bad, ev_mDct, fIx, fAdd, fMul, fDivmod, fList, fTuple, fLst, fTup, fLen, fIsi, fApp, fSl10, fSl01, fSl11, fSl00, fRng1, fRng2, fIsN, share, look, vw, vws, T.at, T.sub, T.put, T.putS, putT, T.fz, T.fzL, tru, itemAt, atI, ixN, shL, shT, allD, tms, lenT, tyT, tyNs, tyD, subT, tys, nonT, hEq, hNe, hLt, hLe, hGt, hGe, hCmp, hIn, hAbs, h2F, hMax2, hMin2, h2I, hSub, hMod, hDiv, hPow, hNeg, hInt1, hBls, hInts, blsD, intsD, strsD, hJoin, fSl1, seqD, wipable, wipeE, unwipe, outs, isL, keysT, keyD, moveOut, putBack, holes, noIo, isH, arrT, arrG, Op.deep, itemsT, itemsL, SeqAt.shaped, PyData.canLay0, PyData.canLayAll0, PyData.depth, PyData.depthAll, PyData.eqv, PyData.eqvAll]
    have g1 : z_is_row_3 [some (.d s), some (.d .none)] = .ok (.rt (.d (.bool false))) [some (.d s), some (.d .none)] true := by
      unfold z_is_row_3
      simp [ev_mVar, ev_mD, ev_mV, ev_mNil, ev_mYes, kP_ok, kP_exc, kP_bad, kB_ok, kB_exc, kB_bad, kC2_ok, kC2_exc, kC2_bad, kC1_ok, kC1_exc, kC1_bad, ev_mCons, kOp_ok, kOp_exc, kOp_bad, ev_mOpN, ev_m2, ev_m1, kSh_ok, kSh_exc, kSh_bad, ev_mSh, kD2_some, kD2_none, kD1_some, kD1_none, ev_fD, kT2_some, kT2_none, kTst_ok, kTst_exc, kTst_bad, ev_mTst, boolT_b, kTb_ok, kTb_exc, kTb_bad, ev_mTb, kAnd_t, kAnd_f, kAnd_exc, kAnd_bad, ev_mAndB, kOr_f, kOr_t, kOr_exc, kOr_bad, ev_mOrB, kNot_ok, kNot_exc, kNot_bad, ev_mNotB, kNotV_ok, kNotV_exc, kNotV_bad, ev_mNotV, kAV2_t, kAV2_f, kAV2_n, kAV_ok, kAV_exc, kAV_bad, ev_mAndV, kOV2_f, kOV2_t, kOV2_n, kOV_ok, kOV_exc, kOV_bad, ev_mOrV, kIfE_t, kIfE_f, kIfE_exc, kIfE_bad, ev_mIfE, ev_mSkip, ev_mBrk, ev_mCnt, kSeq_nx, kSeq_rt, kSeq_bk, kSeq_ct, kSeq_exc, kSeq_bad, ev_mSeq, kIf_t, kIf_f, kIf_exc, kIf_bad, ev_mIf, kExpr_ok, kExpr_exc, kExpr_bad, ev_mExpr, kRet_tm, kRet_pl, kRet_exc, kRet_bad, ev_mRet, ev_mRetN, kAsg_tm, kAsg_exc, kAsg_bad, ev_mAsg, kG_ok, kG_bad, kAsgG_tm, kAsgG_exc, kAsgG_bad, ev_mAsgG, kPar_tm, kPar_exc, kPar_bad, ev_mPar, kFor_ok, kFor_exc, kFor_bad, ev_mFor, kI2_some, kI2_none, kIOp_ok, kIOp_exc, kIOp_bad, ev_mIOp, kSI_ok, kSI_exc, kSI_bad, ev_mSeqI, kL2_ok, kLc_ok, kLc_exc, kLc_bad, ev_mLc, ev_mTgN, ev_mGNil, kGs_ok, ev_mGCons, kTg_some, ev_mTgT, ev_mTgL, kS3_some, kS2_l, kS1_ok, ev_mTgS, kH4_some, kH3_some, kH2_ok, kH1_t, kH1_f, kH0_ok, kH_ok, kH_exc, kH_bad, ev_mCh, kInt_ok, ev_mInt, kStr2_ok, kStr_ok, kStr_exc, kStr_bad, ev_mStr, kLs2_ok, kLs_ok, kLs_exc, kLs_bad, ev_mLs, kA2_ok, kA2_exc, kA2_bad, kA1_ok, kA1_exc, kA1_bad, ev_mApp, kF3_some, kF4_some, kF2_ret, kF2_exc, kF1_some, ev_fCall, kK2_ret, kK2_exc, kK1_some, ev_fCallK, kRun_nx, kRun_rt, kRun_exc, kRun_bad, ev_runF, ev_mDct0, kDc2_some, kDc_ok, kDc_exc, kDc_bad, ev_mDct, fIx, fAdd, fMul, fDivmod, fList, fTuple, fLst, fTup, fLen, fIsi, fApp, fSl10, fSl01, fSl11, fSl00, fRng1, fRng2, fIsN, share, look, vw, vws, T.at, T.sub, T.put, T.putS, putT, T.fz, T.fzL, tru, itemAt, atI, ixN, shL, shT, allD, tms, lenT, tyT, tyNs, tyD, subT, tys, nonT, hEq, hNe, hLt, hLe, hGt, hGe, hCmp, hIn, hAbs, h2F, hMax2, hMin2, h2I, hSub, hMod, hDiv, hPow, hNeg, hInt1, hBls, hInts, blsD, intsD, strsD, hJoin, fSl1, seqD, wipable, wipeE, unwipe, outs, isL, keysT, keyD, moveOut, putBack, holes, noIo, isH, arrT, arrG, Op.deep, itemsT, itemsL, SeqAt.shaped, PyData.canLay0, PyData.canLayAll0, PyData.depth, PyData.depthAll, PyData.eqv, PyData.eqvAll, h1, z_is_row_2]
    show runF 2 [.sh, .sh] (mSeq z_is_row_1 (mSeq z_is_row_3 z_is_row_4)) _ = _
    rw [ev_runF]
    show kRun [.sh, .sh] (mSeq z_is_row_1 (mSeq z_is_row_3 z_is_row_4) [some (.d s), some (.d .none)]) = _
    rw [ev_mSeq, g0, kSeq_nx, ev_mSeq, g1, kSeq_rt, kRun_rt, e]
    rfl
  · cases s with
    | list ds => exact e_is_row_none hl (.inl rfl)
    | tuple ds => exact e_is_row_none hl (.inr rfl)
    | _ => exact absurd rfl h
theorem e_require_index {i w : Int} (h0 : 0 ≤ i) (h1 : i < w) : m_require_index [.d (.int i), .d (.int w)] = .ret (.d .none) [none, none] := by
  have h := e_is_integer (.int i)
  unfold m_require_index b_require_index z_require_index_0
  simp [ev_mVar, ev_mD, ev_mV, ev_mNil, ev_mYes, kP_ok, kP_exc, kP_bad, kB_ok, kB_exc, kB_bad, kC2_ok, kC2_exc, kC2_bad, kC1_ok, kC1_exc, kC1_bad, ev_mCons, kOp_ok, kOp_exc, kOp_bad, ev_mOpN, ev_m2, ev_m1, kSh_ok, kSh_exc, kSh_bad, ev_mSh, kD2_some, kD2_none, kD1_some, kD1_none, ev_fD, kT2_some, kT2_none, kTst_ok, kTst_exc, kTst_bad, ev_mTst, boolT_b, kTb_ok, kTb_exc, kTb_bad, ev_mTb, kAnd_t, kAnd_f, kAnd_exc, kAnd_bad, ev_mAndB, kOr_f, kOr_t, kOr_exc, kOr_bad, ev_mOrB, kNot_ok, kNot_exc, kNot_bad, ev_mNotB, kNotV_ok, kNotV_exc, kNotV_bad, ev_mNotV, kAV2_t, kAV2_f, kAV2_n, kAV_ok, kAV_exc, kAV_bad, ev_mAndV, kOV2_f, kOV2_t, kOV2_n, kOV_ok, kOV_exc, kOV_bad, ev_mOrV, kIfE_t, kIfE_f, kIfE_exc, kIfE_bad, ev_mIfE, ev_mSkip, ev_mBrk, ev_mCnt, kSeq_nx, kSeq_rt, kSeq_bk, kSeq_ct, kSeq_exc, kSeq_bad, ev_mSeq, kIf_t, kIf_f, kIf_exc, kIf_bad, ev_mIf, kExpr_ok, kExpr_exc, kExpr_bad, ev_mExpr, kRet_tm, kRet_pl, kRet_exc, kRet_bad, ev_mRet, ev_mRetN, kAsg_tm, kAsg_exc, kAsg_bad, ev_mAsg, kG_ok, kG_bad, kAsgG_tm, kAsgG_exc, kAsgG_bad, ev_mAsgG, kPar_tm, kPar_exc, kPar_bad, ev_mPar, kFor_ok, kFor_exc, kFor_bad, ev_mFor, kI2_some, kI2_none, kIOp_ok, kIOp_exc, kIOp_bad, ev_mIOp, kSI_ok, kSI_exc, kSI_bad, ev_mSeqI, kL2_ok, kLc_ok, kLc_exc, kLc_bad, ev_mLc, ev_mTgN, ev_mGNil, kGs_ok, ev_mGCons, kTg_some, ev_mTgT, ev_mTgL, kS3_some, kS2_l, kS1_ok, ev_mTgS, kH4_some, kH3_some, kH2_ok, kH1_t, kH1_f, kH0_ok, kH_ok, kH_exc, kH_bad, ev_mCh, kInt_ok, ev_mInt, kStr2_ok, kStr_ok, kStr_exc, kStr_bad, ev_mStr, kLs2_ok, kLs_ok, kLs_exc, kLs_bad, ev_mLs, kA2_ok, kA2_exc, kA2_bad, kA1_ok, kA1_exc, kA1_bad, ev_mApp, kF3_some, kF4_some, kF2_ret, kF2_exc, kF1_some, ev_fCall, kK2_ret, kK2_exc, kK1_some, ev_fCallK, kRun_nx, kRun_rt, kRun_exc, kRun_bad, ev_runF, ev_mDct0, kDc2_some, kDc_ok, kDc_exc, kDc_bad, ev_mDct, fIx, fAdd, fMul, fDivmod, fList, fTuple, fLst, fTup, fLen, fIsi, fApp, fSl10, fSl01, fSl11, fSl00, fRng1, fRng2, fIsN, share, look, vw, vws, T.at, T.sub, T.put, T.putS, putT, T.fz, T.fzL, tru, itemAt, atI, ixN, shL, shT, allD, tms, lenT, tyT, tyNs, tyD, subT, tys, nonT, hEq, hNe, hLt, hLe, hGt, hGe, hCmp, hIn, hAbs, h2F, hMax2, hMin2, h2I, hSub, hMod, hDiv, hPow, hNeg, hInt1, hBls, hInts, blsD, intsD, strsD, hJoin, fSl1, seqD, wipable, wipeE, unwipe, outs, isL, keysT, keyD, moveOut, putBack, holes, noIo, isH, arrT, arrG, Op.deep, itemsT, itemsL, SeqAt.shaped, PyData.canLay0, PyData.canLayAll0, PyData.depth, PyData.depthAll, PyData.eqv, PyData.eqvAll, h, isI, h0, h1]
def unitD (i f : Int) (w : Nat) : List PyData := (rangeL 0 w).map fun d => if PyData.eqv d (.int i) = true then .int f else .int 0
theorem e_unit_row {i f : Int} {w : Nat} (h1 : 1 ≤ w) (h2 : w ≤ 16) (h3 : 0 ≤ i) (h4 : i < w) : m_unit_row [.d (.int i), .d (.int w), .d (.int f)] = .ret (.d (.list (unitD i f w))) [none, none, none] := by
  have a1 := e_require_width (i := (w : Int)) (by omega) (by omega)
  have a2 := e_require_index h3 h4
  have a3 := e_is_integer (.int f)
  have g0 : z_unit_row_0 [some (.d (.int i)), some (.d (.int w)), some (.d (.int f)), none] = .ok .nx [some (.d (.int i)), some (.d (.int w)), some (.d (.int f)), none] true := by
    unfold z_unit_row_0
    simp [ev_mVar, ev_mD, ev_mV, ev_mNil, ev_mYes, kP_ok, kP_exc, kP_bad, kB_ok, kB_exc, kB_bad, kC2_ok, kC2_exc, kC2_bad, kC1_ok, kC1_exc, kC1_bad, ev_mCons, kOp_ok, kOp_exc, kOp_bad, ev_mOpN, ev_m2, ev_m1, kSh_ok, kSh_exc, kSh_bad, ev_mSh, kD2_some, kD2_none, kD1_some, kD1_none, ev_fD, kT2_some, kT2_none, kTst_ok, kTst_exc, kTst_bad, ev_mTst, boolT_b, kTb_ok, kTb_exc, kTb_bad, ev_mTb, kAnd_t, kAnd_f, kAnd_exc, kAnd_bad, ev_mAndB, kOr_f, kOr_t, kOr_exc, kOr_bad, ev_mOrB, kNot_ok, kNot_exc, kNot_bad, ev_mNotB, kNotV_ok, kNotV_exc, kNotV_bad, ev_mNotV, kAV2_t, kAV2_f, kAV2_n, kAV_ok, kAV_exc, kAV_bad, ev_mAndV, kOV2_f, kOV2_t, kOV2_n, kOV_ok, kOV_exc, kOV_bad, ev_mOrV, kIfE_t, kIfE_f, kIfE_exc, kIfE_bad, ev_mIfE, ev_mSkip, ev_mBrk, ev_mCnt, kSeq_nx, kSeq_rt, kSeq_bk, kSeq_ct, kSeq_exc, kSeq_bad, ev_mSeq, kIf_t, kIf_f, kIf_exc, kIf_bad, ev_mIf, kExpr_ok, kExpr_exc, kExpr_bad, ev_mExpr, kRet_tm, kRet_pl, kRet_exc, kRet_bad, ev_mRet, ev_mRetN, kAsg_tm, kAsg_exc, kAsg_bad, ev_mAsg, kG_ok, kG_bad, kAsgG_tm, kAsgG_exc, kAsgG_bad, ev_mAsgG, kPar_tm, kPar_exc, kPar_bad, ev_mPar, kFor_ok, kFor_exc, kFor_bad, ev_mFor, kI2_some, kI2_none, kIOp_ok, kIOp_exc, kIOp_bad, ev_mIOp, kSI_ok, kSI_exc, kSI_bad, ev_mSeqI, kL2_ok, kLc_ok, kLc_exc, kLc_bad, ev_mLc, ev_mTgN, ev_mGNil, kGs_ok, ev_mGCons, kTg_some, ev_mTgT, ev_mTgL, kS3_some, kS2_l, kS1_ok, ev_mTgS, kH4_some, kH3_some, kH2_ok, kH1_t, kH1_f, kH0_ok, kH_ok, kH_exc, kH_bad, ev_mCh, kInt_ok, ev_mInt, kStr2_ok, kStr_ok, kStr_exc, kStr_bad, ev_mStr, kLs2_ok, kLs_ok, kLs_exc, kLs_bad, ev_mLs, kA2_ok, kA2_exc, kA2_bad, kA1_ok, kA1_exc, kA1_bad, ev_mApp, kF3_some, kF4_some, kF2_ret, kF2_exc, kF1_some, ev_fCall, kK2_ret, kK2_exc, kK1_some, ev_fCallK, kRun_nx, kRun_rt, kRun_exc, kRun_bad, ev_runF, ev_mDct0, kDc2_some, kDc_ok, kDc_exc, kDc_bad, ev_mDct, fIx, fAdd, fMul, fDivmod, fList, fTuple, fLst, fTup, fLen, fIsi, fApp, fSl10, fSl01, fSl11, fSl00, fRng1, fRng2, fIsN, share, look, vw, vws, T.at, T.sub, T.put, T.putS, putT, T.fz, T.fzL, tru, itemAt, atI, ixN, shL, shT, allD, tms, lenT, tyT, tyNs, tyD, subT, tys, nonT, hEq, hNe, hLt, hLe, hGt, hGe, hCmp, hIn, hAbs, h2F, hMax2, hMin2, h2I, hSub, hMod, hDiv, hPow, hNeg, hInt1, hBls, hInts, blsD, intsD, strsD, hJoin, fSl1, seqD, wipable, wipeE, unwipe, outs, isL, keysT, keyD, moveOut, putBack, holes, noIo, isH, arrT, arrG, Op.deep, itemsT, itemsL, SeqAt.shaped, PyData.canLay0, PyData.canLayAll0, PyData.depth, PyData.depthAll, PyData.eqv, PyData.eqvAll, a1]
  have g1 : z_unit_row_1 [some (.d (.int i)), some (.d (.int w)), some (.d (.int f)), none] = .ok .nx [some (.d (.int i)), some (.d (.int w)), some (.d (.int f)), none] true := by
    unfold z_unit_row_1
    simp [ev_mVar, ev_mD, ev_mV, ev_mNil, ev_mYes, kP_ok, kP_exc, kP_bad, kB_ok, kB_exc, kB_bad, kC2_ok, kC2_exc, kC2_bad, kC1_ok, kC1_exc, kC1_bad, ev_mCons, kOp_ok, kOp_exc, kOp_bad, ev_mOpN, ev_m2, ev_m1, kSh_ok, kSh_exc, kSh_bad, ev_mSh, kD2_some, kD2_none, kD1_some, kD1_none, ev_fD, kT2_some, kT2_none, kTst_ok, kTst_exc, kTst_bad, ev_mTst, boolT_b, kTb_ok, kTb_exc, kTb_bad, ev_mTb, kAnd_t, kAnd_f, kAnd_exc, kAnd_bad, ev_mAndB, kOr_f, kOr_t, kOr_exc, kOr_bad, ev_mOrB, kNot_ok, kNot_exc, kNot_bad, ev_mNotB, kNotV_ok, kNotV_exc, kNotV_bad, ev_mNotV, kAV2_t, kAV2_f, kAV2_n, kAV_ok, kAV_exc, kAV_bad, ev_mAndV, kOV2_f, kOV2_t, kOV2_n, kOV_ok, kOV_exc, kOV_bad, ev_mOrV, kIfE_t, kIfE_f, kIfE_exc, kIfE_bad, ev_mIfE, ev_mSkip, ev_mBrk, ev_mCnt, kSeq_nx, kSeq_rt, kSeq_bk, kSeq_ct, kSeq_exc, kSeq_bad, ev_mSeq, kIf_t, kIf_f, kIf_exc, kIf_bad, ev_mIf, kExpr_ok, kExpr_exc, kExpr_bad, ev_mExpr, kRet_tm, kRet_pl, kRet_exc, kRet_bad, ev_mRet, ev_mRetN, kAsg_tm, kAsg_exc, kAsg_bad, ev_mAsg, kG_ok, kG_bad, kAsgG_tm, kAsgG_exc, kAsgG_bad, ev_mAsgG, kPar_tm, kPar_exc, kPar_bad, ev_mPar, kFor_ok, kFor_exc, kFor_bad, ev_mFor, kI2_some, kI2_none, kIOp_ok, kIOp_exc, kIOp_bad, ev_mIOp, kSI_ok, kSI_exc, kSI_bad, ev_mSeqI, kL2_ok, kLc_ok, kLc_exc, kLc_bad, ev_mLc, ev_mTgN, ev_mGNil, kGs_ok, ev_mGCons, kTg_some, ev_mTgT, ev_mTgL, kS3_some, kS2_l, kS1_ok, ev_mTgS, kH4_some, kH3_some, kH2_ok, kH1_t, kH1_f, kH0_ok, kH_ok, kH_exc, kH_bad, ev_mCh, kInt_ok, ev_mInt, kStr2_ok, kStr_ok, kStr_exc, kStr_bad, ev_mStr, kLs2_ok, kLs_ok, kLs_exc, kLs_bad, ev_mLs, kA2_ok, kA2_exc, kA2_bad, kA1_ok, kA1_exc, kA1_bad, ev_mApp, kF3_some, kF4_some, kF2_ret, kF2_exc, kF1_some, ev_fCall, kK2_ret, kK2_exc, kK1_some, ev_fCallK, kRun_nx, kRun_rt, kRun_exc, kRun_bad, ev_runF, ev_mDct0, kDc2_some, kDc_ok, kDc_exc, kDc_bad, ev_mDct, fIx, fAdd, fMul, fDivmod, fList, fTuple, fLst, fTup, fLen, fIsi, fApp, fSl10, fSl01, fSl11, fSl00, fRng1, fRng2, fIsN, share, look, vw, vws, T.at, T.sub, T.put, T.putS, putT, T.fz, T.fzL, tru, itemAt, atI, ixN, shL, shT, allD, tms, lenT, tyT, tyNs, tyD, subT, tys, nonT, hEq, hNe, hLt, hLe, hGt, hGe, hCmp, hIn, hAbs, h2F, hMax2, hMin2, h2I, hSub, hMod, hDiv, hPow, hNeg, hInt1, hBls, hInts, blsD, intsD, strsD, hJoin, fSl1, seqD, wipable, wipeE, unwipe, outs, isL, keysT, keyD, moveOut, putBack, holes, noIo, isH, arrT, arrG, Op.deep, itemsT, itemsL, SeqAt.shaped, PyData.canLay0, PyData.canLayAll0, PyData.depth, PyData.depthAll, PyData.eqv, PyData.eqvAll, a2]
  have g2 : z_unit_row_2 [some (.d (.int i)), some (.d (.int w)), some (.d (.int f)), none] = .ok .nx [some (.d (.int i)), some (.d (.int w)), some (.d (.int f)), none] true := by
    unfold z_unit_row_2
    simp [ev_mVar, ev_mD, ev_mV, ev_mNil, ev_mYes, kP_ok, kP_exc, kP_bad, kB_ok, kB_exc, kB_bad, kC2_ok, kC2_exc, kC2_bad, kC1_ok, kC1_exc, kC1_bad, ev_mCons, kOp_ok, kOp_exc, kOp_bad, ev_mOpN, ev_m2, ev_m1, kSh_ok, kSh_exc, kSh_bad, ev_mSh, kD2_some, kD2_none, kD1_some, kD1_none, ev_fD, kT2_some, kT2_none, kTst_ok, kTst_exc, kTst_bad, ev_mTst, boolT_b, kTb_ok, kTb_exc, kTb_bad, ev_mTb, kAnd_t, kAnd_f, kAnd_exc, kAnd_bad, ev_mAndB, kOr_f, kOr_t, kOr_exc, kOr_bad, ev_mOrB, kNot_ok, kNot_exc, kNot_bad, ev_mNotB, kNotV_ok, kNotV_exc, kNotV_bad, ev_mNotV, kAV2_t, kAV2_f, kAV2_n, kAV_ok, kAV_exc, kAV_bad, ev_mAndV, kOV2_f, kOV2_t, kOV2_n, kOV_ok, kOV_exc, kOV_bad, ev_mOrV, kIfE_t, kIfE_f, kIfE_exc, kIfE_bad, ev_mIfE, ev_mSkip, ev_mBrk, ev_mCnt, kSeq_nx, kSeq_rt, kSeq_bk, kSeq_ct, kSeq_exc, kSeq_bad, ev_mSeq, kIf_t, kIf_f, kIf_exc, kIf_bad, ev_mIf, kExpr_ok, kExpr_exc, kExpr_bad, ev_mExpr, kRet_tm, kRet_pl, kRet_exc, kRet_bad, ev_mRet, ev_mRetN, kAsg_tm, kAsg_exc, kAsg_bad, ev_mAsg, kG_ok, kG_bad, kAsgG_tm, kAsgG_exc, kAsgG_bad, ev_mAsgG, kPar_tm, kPar_exc, kPar_bad, ev_mPar, kFor_ok, kFor_exc, kFor_bad, ev_mFor, kI2_some, kI2_none, kIOp_ok, kIOp_exc, kIOp_bad, ev_mIOp, kSI_ok, kSI_exc, kSI_bad, ev_mSeqI, kL2_ok, kLc_ok, kLc_exc, kLc_bad, ev_mLc, ev_mTgN, ev_mGNil, kGs_ok, ev_mGCons, kTg_some, ev_mTgT, ev_mTgL, kS3_some, kS2_l, kS1_ok, ev_mTgS, kH4_some, kH3_some, kH2_ok, kH1_t, kH1_f, kH0_ok, kH_ok, kH_exc, kH_bad, ev_mCh, kInt_ok, ev_mInt, kStr2_ok, kStr_ok, kStr_exc, kStr_bad, ev_mStr, kLs2_ok, kLs_ok, kLs_exc, kLs_bad, ev_mLs, kA2_ok, kA2_exc, kA2_bad, kA1_ok, kA1_exc, kA1_bad, ev_mApp, kF3_some, kF4_some, kF2_ret, kF2_exc, kF1_some, ev_fCall, kK2_ret, kK2_exc, kK1_some, ev_fCallK, kRun_nx, kRun_rt, kRun_exc, kRun_bad, ev_runF, ev_mDct0, kDc2_some, kDc_ok, kDc_exc, kDc_bad, ev_mDct, fIx, fAdd, fMul, fDivmod, fList, fTuple, fLst, fTup, fLen, fIsi, fApp, fSl10, fSl01, fSl11, fSl00, fRng1, fRng2, fIsN, share, look, vw, vws, T.at, T.sub, T.put, T.putS, putT, T.fz, T.fzL, tru, itemAt, atI, ixN, shL, shT, allD, tms, lenT, tyT, tyNs, tyD, subT, tys, nonT, hEq, hNe, hLt, hLe, hGt, hGe, hCmp, hIn, hAbs, h2F, hMax2, hMin2, h2I, hSub, hMod, hDiv, hPow, hNeg, hInt1, hBls, hInts, blsD, intsD, strsD, hJoin, fSl1, seqD, wipable, wipeE, unwipe, outs, isL, keysT, keyD, moveOut, putBack, holes, noIo, isH, arrT, arrG, Op.deep, itemsT, itemsL, SeqAt.shaped, PyData.canLay0, PyData.canLayAll0, PyData.depth, PyData.depthAll, PyData.eqv, PyData.eqvAll, a3, isI]
  have hc : mLcGo [3] g_unit_row_0 mYes e_unit_row_0 (rangeL 0 w) [] [some (.d (.int i)), some (.d (.int w)), some (.d (.int f)), none] = .ok ((rangeL 0 w).map fun d => .d (if PyData.eqv d (.int i) = true then .int f else .int 0)) [some (.d (.int i)), some (.d (.int w)), some (.d (.int f)), none] true := by
    refine lc_map _ (by simp [rangeL]; omega) fun d hd => ?_
    obtain ⟨k, _, rfl⟩ := List.mem_map.mp hd
    have he : e_unit_row_0 [some (.d (.int i)), some (.d (.int w)), some (.d (.int f)), some (.d (.int (0 + (k : Int))))] = .ok (.tm (.d (if PyData.eqv (.int (0 + (k : Int))) (.int i) = true then .int f else .int 0))) [some (.d (.int i)), some (.d (.int w)), some (.d (.int f)), some (.d (.int (0 + (k : Int))))] true := by
      unfold e_unit_row_0
      by_cases hk : ((0 + (k : Int)) == i) = true
      · simp only [Int.zero_add] at hk
        simp [ev_mVar, ev_mD, ev_mV, ev_mNil, ev_mYes, kP_ok, kP_exc, kP_bad, kB_ok, kB_exc, kB_bad, kC2_ok, kC2_exc, kC2_bad, kC1_ok, kC1_exc, kC1_bad, ev_mCons, kOp_ok, kOp_exc, kOp_bad, ev_mOpN, ev_m2, ev_m1, kSh_ok, kSh_exc, kSh_bad, ev_mSh, kD2_some, kD2_none, kD1_some, kD1_none, ev_fD, kT2_some, kT2_none, kTst_ok, kTst_exc, kTst_bad, ev_mTst, boolT_b, kTb_ok, kTb_exc, kTb_bad, ev_mTb, kAnd_t, kAnd_f, kAnd_exc, kAnd_bad, ev_mAndB, kOr_f, kOr_t, kOr_exc, kOr_bad, ev_mOrB, kNot_ok, kNot_exc, kNot_bad, ev_mNotB, kNotV_ok, kNotV_exc, kNotV_bad, ev_mNotV, kAV2_t, kAV2_f, kAV2_n, kAV_ok, kAV_exc, kAV_bad, ev_mAndV, kOV2_f, kOV2_t, kOV2_n, kOV_ok, kOV_exc, kOV_bad, ev_mOrV, kIfE_t, kIfE_f, kIfE_exc, kIfE_bad, ev_mIfE, ev_mSkip, ev_mBrk, ev_mCnt, kSeq_nx, kSeq_rt, kSeq_bk, kSeq_ct, kSeq_exc, kSeq_bad, ev_mSeq, kIf_t, kIf_f, kIf_exc, kIf_bad, ev_mIf, kExpr_ok, kExpr_exc, kExpr_bad, ev_mExpr, kRet_tm, kRet_pl, kRet_exc, kRet_bad, ev_mRet, ev_mRetN, kAsg_tm, kAsg_exc, kAsg_bad, ev_mAsg, kG_ok, kG_bad, kAsgG_tm, kAsgG_exc, kAsgG_bad, ev_mAsgG, kPar_tm, kPar_exc, kPar_bad, ev_mPar, kFor_ok, kFor_exc, kFor_bad, ev_mFor, kI2_some, kI2_none, kIOp_ok, kIOp_exc, kIOp_bad, ev_mIOp, kSI_ok, kSI_exc, kSI_bad, ev_mSeqI, kL2_ok, kLc_ok, kLc_exc, kLc_bad, ev_mLc, ev_mTgN, ev_mGNil, kGs_ok, ev_mGCons, kTg_some, ev_mTgT, ev_mTgL, kS3_some, kS2_l, kS1_ok, ev_mTgS, kH4_some, kH3_some, kH2_ok, kH1_t, kH1_f, kH0_ok, kH_ok, kH_exc, kH_bad, ev_mCh, kInt_ok, ev_mInt, kStr2_ok, kStr_ok, kStr_exc, kStr_bad, ev_mStr, kLs2_ok, kLs_ok, kLs_exc, kLs_bad, ev_mLs, kA2_ok, kA2_exc, kA2_bad, kA1_ok, kA1_exc, kA1_bad, ev_mApp, kF3_some, kF4_some, kF2_ret, kF2_exc, kF1_some, ev_fCall, kK2_ret, kK2_exc, kK1_some, ev_fCallK, kRun_nx, kRun_rt, kRun_exc, kRun_bad, ev_runF, ev_mDct0, kDc2_some, kDc_ok, kDc_exc, kDc_bad, ev_mDct, fIx, fAdd, fMul, fDivmod, fList, fTuple, fLst, fTup, fLen, fIsi, fApp, fSl10, fSl01, fSl11, fSl00, fRng1, fRng2, fIsN, share, look, vw, vws, T.at, T.sub, T.put, T.putS, putT, T.fz, T.fzL, tru, itemAt, atI, ixN, shL, shT, allD, tms, lenT, tyT, tyNs, tyD, subT, tys, nonT, hEq, hNe, hLt, hLe, hGt, hGe, hCmp, hIn, hAbs, h2F, hMax2, hMin2, h2I, hSub, hMod, hDiv, hPow, hNeg, hInt1, hBls, hInts, blsD, intsD, strsD, hJoin, fSl1, seqD, wipable, wipeE, unwipe, outs, isL, keysT, keyD, moveOut, putBack, holes, noIo, isH, arrT, arrG, Op.deep, itemsT, itemsL, SeqAt.shaped, PyData.canLay0, PyData.canLayAll0, PyData.depth, PyData.depthAll, PyData.eqv, PyData.eqvAll, hk]
      · simp only [Int.zero_add, Bool.not_eq_true] at hk
        simp [ev_mVar, ev_mD, ev_mV, ev_mNil, ev_mYes, kP_ok, kP_exc, kP_bad, kB_ok, kB_exc, kB_bad, kC2_ok, kC2_exc, kC2_bad, kC1_ok, kC1_exc, kC1_bad, ev_mCons, kOp_ok, kOp_exc, kOp_bad, ev_mOpN, ev_m2, ev_m1, kSh_ok, kSh_exc, kSh_bad, ev_mSh, kD2_some, kD2_none, kD1_some, kD1_none, ev_fD, kT2_some, kT2_none, kTst_ok, kTst_exc, kTst_bad, ev_mTst, boolT_b, kTb_ok, kTb_exc, kTb_bad, ev_mTb, kAnd_t, kAnd_f, kAnd_exc, kAnd_bad, ev_mAndB, kOr_f, kOr_t, kOr_exc, kOr_bad, ev_mOrB, kNot_ok, kNot_exc, kNot_bad, ev_mNotB, kNotV_ok, kNotV_exc, kNotV_bad, ev_mNotV, kAV2_t, kAV2_f, kAV2_n, kAV_ok, kAV_exc, kAV_bad, ev_mAndV, kOV2_f, kOV2_t, kOV2_n, kOV_ok, kOV_exc, kOV_bad, ev_mOrV, kIfE_t, kIfE_f, kIfE_exc, kIfE_bad, ev_mIfE, ev_mSkip, ev_mBrk, ev_mCnt, kSeq_nx, kSeq_rt, kSeq_bk, kSeq_ct, kSeq_exc, kSeq_bad, ev_mSeq, kIf_t, kIf_f, kIf_exc, kIf_bad, ev_mIf, kExpr_ok, kExpr_exc, kExpr_bad, ev_mExpr, kRet_tm, kRet_pl, kRet_exc, kRet_bad, ev_mRet, ev_mRetN, kAsg_tm, kAsg_exc, kAsg_bad, ev_mAsg, kG_ok, kG_bad, kAsgG_tm, kAsgG_exc, kAsgG_bad, ev_mAsgG, kPar_tm, kPar_exc, kPar_bad, ev_mPar, kFor_ok, kFor_exc, kFor_bad, ev_mFor, kI2_some, kI2_none, kIOp_ok, kIOp_exc, kIOp_bad, ev_mIOp, kSI_ok, kSI_exc, kSI_bad, ev_mSeqI, kL2_ok, kLc_ok, kLc_exc, kLc_bad, ev_mLc, ev_mTgN, ev_mGNil, kGs_ok, ev_mGCons, kTg_some, ev_mTgT, ev_mTgL, kS3_some, kS2_l, kS1_ok, ev_mTgS, kH4_some, kH3_some, kH2_ok, kH1_t, kH1_f, kH0_ok, kH_ok, kH_exc, kH_bad, ev_mCh, kInt_ok, ev_mInt, kStr2_ok, kStr_ok, kStr_exc, kStr_bad, ev_mStr, kLs2_ok, kLs_ok, kLs_exc, kLs_bad, ev_mLs, kA2_ok, kA2_exc, kA2_bad, kA1_ok, kA1_exc, kA1_bad, ev_mApp, kF3_some, kF4_some, kF2_ret, kF2_exc, kF1_some, ev_fCall, kK2_ret, kK2_exc, kK1_some, ev_fCallK, kRun_nx, kRun_rt, kRun_exc, kRun_bad, ev_runF, ev_mDct0, kDc2_some, kDc_ok, kDc_exc, kDc_bad, ev_mDct, fIx, fAdd, fMul, fDivmod, fList, fTuple, fLst, fTup, fLen, fIsi, fApp, fSl10, fSl01, fSl11, fSl00, fRng1, fRng2, fIsN, share, look, vw, vws, T.at, T.sub, T.put, T.putS, putT, T.fz, T.fzL, tru, itemAt, atI, ixN, shL, shT, allD, tms, lenT, tyT, tyNs, tyD, subT, tys, nonT, hEq, hNe, hLt, hLe, hGt, hGe, hCmp, hIn, hAbs, h2F, hMax2, hMin2, h2I, hSub, hMod, hDiv, hPow, hNeg, hInt1, hBls, hInts, blsD, intsD, strsD, hJoin, fSl1, seqD, wipable, wipeE, unwipe, outs, isL, keysT, keyD, moveOut, putBack, holes, noIo, isH, arrT, arrG, Op.deep, itemsT, itemsL, SeqAt.shaped, PyData.canLay0, PyData.canLayAll0, PyData.depth, PyData.depthAll, PyData.eqv, PyData.eqvAll, hk]
    exact ⟨_, _, _, _, _, _, rfl, rfl, he, rfl⟩
  have g3 : z_unit_row_3 [some (.d (.int i)), some (.d (.int w)), some (.d (.int f)), none] = .ok (.rt (.d (.list (unitD i f w)))) [some (.d (.int i)), some (.d (.int w)), some (.d (.int f)), none] true := by
    unfold z_unit_row_3 unitD
    have hw : (w : Int) < 4611686018427387904 := by omega
    have hw2 : (-4611686018427387904 : Int) ≤ w := by omega
    simp [ev_mVar, ev_mD, ev_mV, ev_mNil, ev_mYes, kP_ok, kP_exc, kP_bad, kB_ok, kB_exc, kB_bad, kC2_ok, kC2_exc, kC2_bad, kC1_ok, kC1_exc, kC1_bad, ev_mCons, kOp_ok, kOp_exc, kOp_bad, ev_mOpN, ev_m2, ev_m1, kSh_ok, kSh_exc, kSh_bad, ev_mSh, kD2_some, kD2_none, kD1_some, kD1_none, ev_fD, kT2_some, kT2_none, kTst_ok, kTst_exc, kTst_bad, ev_mTst, boolT_b, kTb_ok, kTb_exc, kTb_bad, ev_mTb, kAnd_t, kAnd_f, kAnd_exc, kAnd_bad, ev_mAndB, kOr_f, kOr_t, kOr_exc, kOr_bad, ev_mOrB, kNot_ok, kNot_exc, kNot_bad, ev_mNotB, kNotV_ok, kNotV_exc, kNotV_bad, ev_mNotV, kAV2_t, kAV2_f, kAV2_n, kAV_ok, kAV_exc, kAV_bad, ev_mAndV, kOV2_f, kOV2_t, kOV2_n, kOV_ok, kOV_exc, kOV_bad, ev_mOrV, kIfE_t, kIfE_f, kIfE_exc, kIfE_bad, ev_mIfE, ev_mSkip, ev_mBrk, ev_mCnt, kSeq_nx, kSeq_rt, kSeq_bk, kSeq_ct, kSeq_exc, kSeq_bad, ev_mSeq, kIf_t, kIf_f, kIf_exc, kIf_bad, ev_mIf, kExpr_ok, kExpr_exc, kExpr_bad, ev_mExpr, kRet_tm, kRet_pl, kRet_exc, kRet_bad, ev_mRet, ev_mRetN, kAsg_tm, kAsg_exc, kAsg_bad, ev_mAsg, kG_ok, kG_bad, kAsgG_tm, kAsgG_exc, kAsgG_bad, ev_mAsgG, kPar_tm, kPar_exc, kPar_bad, ev_mPar, kFor_ok, kFor_exc, kFor_bad, ev_mFor, kI2_some, kI2_none, kIOp_ok, kIOp_exc, kIOp_bad, ev_mIOp, kSI_ok, kSI_exc, kSI_bad, ev_mSeqI, kL2_ok, kLc_ok, kLc_exc, kLc_bad, ev_mLc, ev_mTgN, ev_mGNil, kGs_ok, ev_mGCons, kTg_some, ev_mTgT, ev_mTgL, kS3_some, kS2_l, kS1_ok, ev_mTgS, kH4_some, kH3_some, kH2_ok, kH1_t, kH1_f, kH0_ok, kH_ok, kH_exc, kH_bad, ev_mCh, kInt_ok, ev_mInt, kStr2_ok, kStr_ok, kStr_exc, kStr_bad, ev_mStr, kLs2_ok, kLs_ok, kLs_exc, kLs_bad, ev_mLs, kA2_ok, kA2_exc, kA2_bad, kA1_ok, kA1_exc, kA1_bad, ev_mApp, kF3_some, kF4_some, kF2_ret, kF2_exc, kF1_some, ev_fCall, kK2_ret, kK2_exc, kK1_some, ev_fCallK, kRun_nx, kRun_rt, kRun_exc, kRun_bad, ev_runF, ev_mDct0, kDc2_some, kDc_ok, kDc_exc, kDc_bad, ev_mDct, fIx, fAdd, fMul, fDivmod, fList, fTuple, fLst, fTup, fLen, fIsi, fApp, fSl10, fSl01, fSl11, fSl00, fRng1, fRng2, fIsN, share, look, vw, vws, T.at, T.sub, T.put, T.putS, putT, T.fz, T.fzL, tru, itemAt, atI, ixN, shL, shT, allD, tms, lenT, tyT, tyNs, tyD, subT, tys, nonT, hEq, hNe, hLt, hLe, hGt, hGe, hCmp, hIn, hAbs, h2F, hMax2, hMin2, h2I, hSub, hMod, hDiv, hPow, hNeg, hInt1, hBls, hInts, blsD, intsD, strsD, hJoin, fSl1, seqD, wipable, wipeE, unwipe, outs, isL, keysT, keyD, moveOut, putBack, holes, noIo, isH, arrT, arrG, Op.deep, itemsT, itemsL, SeqAt.shaped, PyData.canLay0, PyData.canLayAll0, PyData.depth, PyData.depthAll, PyData.eqv, PyData.eqvAll, q_unit_row_0, hc, fzL_fn, hw, hw2]
  show runF 4 [.sh, .sh, .sh] (mSeq z_unit_row_0 (mSeq z_unit_row_1 (mSeq z_unit_row_2 z_unit_row_3))) _ = _
  rw [ev_runF]
  show kRun [.sh, .sh, .sh] (mSeq z_unit_row_0 (mSeq z_unit_row_1 (mSeq z_unit_row_2 z_unit_row_3)) [some (.d (.int i)), some (.d (.int w)), some (.d (.int f)), none]) = _
  rw [ev_mSeq, g0, kSeq_nx, ev_mSeq, g1, kSeq_nx, ev_mSeq, g2, kSeq_nx, g3, kRun_rt]
  rfl
end K10
namespace K10
open PySem L2 MV
/-! ### words -/
def chB : PyData → Bool
  | .str z => decide (97 ≤ z.cps.getD 0 0) && decide (z.cps.getD 0 0 ≤ 122)
  | _ => false
def swordB (z : Str) : Bool := (decide (1 ≤ z.length) && decide (z.length ≤ 8)) && (z.cps.toList.map fun c => (PyData.str ⟨#[c]⟩)).all chB
def wordB : PyData → Bool
  | .str z => swordB z
  | _ => false
theorem letters_mem (c : Nat) : decide (c ∈ ("abcdefghijklmnopqrstuvwxyz" : Str).cps.toList) = (decide (97 ≤ c) && decide (c ≤ 122)) := by
  have e : ("abcdefghijklmnopqrstuvwxyz" : Str).cps.toList = [97, 98, 99, 100, 101, 102, 103, 104, 105, 106, 107, 108, 109, 110, 111, 112, 113, 114, 115, 116, 117, 118, 119, 120, 121, 122] := by decide +kernel
  rw [e, Bool.eq_iff_iff]
  simp only [decide_eq_true_eq, Bool.and_eq_true, List.mem_cons, List.not_mem_nil, or_false]
  omega
theorem lt_one (a c : Nat) : decide ([a] < [c]) = decide (a < c) := by
  apply decide_eq_decide.mpr
  constructor
  · intro h
    cases h with
    | rel h => exact h
    | cons h => cases h
  · intro h
    exact List.Lex.rel h
theorem e_is_name_str {z : Str} (hz : z.length ≤ 10000) : m_is_name [.d (.str z)] = .ret (.d (.bool (swordB z))) [none] := by
  have hs : z.length ≤ sizeLine := le_size hz
  show runF 2 [.sh] (mSeq z_is_name_1 z_is_name_2) _ = _
  rw [ev_runF]
  show kRun [.sh] (mSeq z_is_name_1 z_is_name_2 [some (.d (.str z)), none]) = _
  by_cases h : 1 ≤ z.length ∧ z.length ≤ 8
  · have g1 : z_is_name_1 [some (.d (.str z)), none] = .ok .nx [some (.d (.str z)), none] true := by
      have h1 : (1 : Int) ≤ z.length := by omega
      have h2 : (z.length : Int) ≤ 8 := by omega
      unfold z_is_name_1
      simp [ev_mVar, ev_mD, ev_mV, ev_mNil, ev_mYes, kP_ok, kP_exc, kP_bad, kB_ok, kB_exc, kB_bad, kC2_ok, kC2_exc, kC2_bad, kC1_ok, kC1_exc, kC1_bad, ev_mCons, kOp_ok, kOp_exc, kOp_bad, ev_mOpN, ev_m2, ev_m1, kSh_ok, kSh_exc, kSh_bad, ev_mSh, kD2_some, kD2_none, kD1_some, kD1_none, ev_fD, kT2_some, kT2_none, kTst_ok, kTst_exc, kTst_bad, ev_mTst, boolT_b, kTb_ok, kTb_exc, kTb_bad, ev_mTb, kAnd_t, kAnd_f, kAnd_exc, kAnd_bad, ev_mAndB, kOr_f, kOr_t, kOr_exc, kOr_bad, ev_mOrB, kNot_ok, kNot_exc, kNot_bad, ev_mNotB, kNotV_ok, kNotV_exc, kNotV_bad, ev_mNotV, kAV2_t, kAV2_f, kAV2_n, kAV_ok, kAV_exc, kAV_bad, ev_mAndV, kOV2_f, kOV2_t, kOV2_n, kOV_ok, kOV_exc, kOV_bad, ev_mOrV, kIfE_t, kIfE_f, kIfE_exc, kIfE_bad, ev_mIfE, ev_mSkip, ev_mBrk, ev_mCnt, kSeq_nx, kSeq_rt, kSeq_bk, kSeq_ct, kSeq_exc, kSeq_bad, ev_mSeq, kIf_t, kIf_f, kIf_exc, kIf_bad, ev_mIf, kExpr_ok, kExpr_exc, kExpr_bad, ev_mExpr, kRet_tm, kRet_pl, kRet_exc, kRet_bad, ev_mRet, ev_mRetN, kAsg_tm, kAsg_exc, kAsg_bad, ev_mAsg, kG_ok, kG_bad, kAsgG_tm, kAsgG_exc, kAsgG_bad, ev_mAsgG, kPar_tm, kPar_exc, kPar_bad, ev_mPar, kFor_ok, kFor_exc, kFor_bad, ev_mFor, kI2_some, kI2_none, kIOp_ok, kIOp_exc, kIOp_bad, ev_mIOp, kSI_ok, kSI_exc, kSI_bad, ev_mSeqI, kL2_ok, kLc_ok, kLc_exc, kLc_bad, ev_mLc, ev_mTgN, ev_mGNil, kGs_ok, ev_mGCons, kTg_some, ev_mTgT, ev_mTgL, kS3_some, kS2_l, kS1_ok, ev_mTgS, kH4_some, kH3_some, kH2_ok, kH1_t, kH1_f, kH0_ok, kH_ok, kH_exc, kH_bad, ev_mCh, kInt_ok, ev_mInt, kStr2_ok, kStr_ok, kStr_exc, kStr_bad, ev_mStr, kLs2_ok, kLs_ok, kLs_exc, kLs_bad, ev_mLs, kA2_ok, kA2_exc, kA2_bad, kA1_ok, kA1_exc, kA1_bad, ev_mApp, kF3_some, kF4_some, kF2_ret, kF2_exc, kF1_some, ev_fCall, kK2_ret, kK2_exc, kK1_some, ev_fCallK, kRun_nx, kRun_rt, kRun_exc, kRun_bad, ev_runF, ev_mDct0, kDc2_some, kDc_ok, kDc_exc, kDc_bad, ev_mDct, fIx, fAdd, fMul, fDivmod, fList, fTuple, fLst, fTup, fLen, fIsi, fApp, fSl10, fSl01, fSl11, fSl00, fRng1, fRng2, fIsN, share, look, vw, vws, T.at, T.sub, T.put, T.putS, putT, T.fz, T.fzL, tru, itemAt, atI, ixN, shL, shT, allD, tms, lenT, tyT, tyNs, tyD, subT, tys, nonT, hEq, hNe, hLt, hLe, hGt, hGe, hCmp, hIn, hAbs, h2F, hMax2, hMin2, h2I, hSub, hMod, hDiv, hPow, hNeg, hInt1, hBls, hInts, blsD, intsD, strsD, hJoin, fSl1, seqD, wipable, wipeE, unwipe, outs, isL, keysT, keyD, moveOut, putBack, holes, noIo, isH, arrT, arrG, Op.deep, itemsT, itemsL, SeqAt.shaped, PyData.canLay0, PyData.canLayAll0, PyData.depth, PyData.depthAll, PyData.eqv, PyData.eqvAll, hs, h1, h2]
    have hc : mLcGo [1] g_is_name_0 mYes e_is_name_0 (z.cps.toList.map fun c => (.str ⟨#[c]⟩)) [] [some (.d (.str z)), none] = .ok ((z.cps.toList.map fun c => (PyData.str ⟨#[c]⟩)).map fun d => .d (.bool (chB d))) [some (.d (.str z)), none] true := by
      refine lc_map _ (by rw [List.length_map, Array.length_toList]; exact hz) fun d hd => ?_
      obtain ⟨c, _, rfl⟩ := List.mem_map.mp hd
      have he : e_is_name_0 [some (.d (.str z)), some (.d (.str ⟨#[c]⟩))] = .ok (.tm (.d (.bool (chB (.str ⟨#[c]⟩))))) [some (.d (.str z)), some (.d (.str ⟨#[c]⟩))] true := by
        have e := letters_mem c
        unfold e_is_name_0
        simp [ev_mVar, ev_mD, ev_mV, ev_mNil, ev_mYes, kP_ok, kP_exc, kP_bad, kB_ok, kB_exc, kB_bad, kC2_ok, kC2_exc, kC2_bad, kC1_ok, kC1_exc, kC1_bad, ev_mCons, kOp_ok, kOp_exc, kOp_bad, ev_mOpN, ev_m2, ev_m1, kSh_ok, kSh_exc, kSh_bad, ev_mSh, kD2_some, kD2_none, kD1_some, kD1_none, ev_fD, kT2_some, kT2_none, kTst_ok, kTst_exc, kTst_bad, ev_mTst, boolT_b, kTb_ok, kTb_exc, kTb_bad, ev_mTb, kAnd_t, kAnd_f, kAnd_exc, kAnd_bad, ev_mAndB, kOr_f, kOr_t, kOr_exc, kOr_bad, ev_mOrB, kNot_ok, kNot_exc, kNot_bad, ev_mNotB, kNotV_ok, kNotV_exc, kNotV_bad, ev_mNotV, kAV2_t, kAV2_f, kAV2_n, kAV_ok, kAV_exc, kAV_bad, ev_mAndV, kOV2_f, kOV2_t, kOV2_n, kOV_ok, kOV_exc, kOV_bad, ev_mOrV, kIfE_t, kIfE_f, kIfE_exc, kIfE_bad, ev_mIfE, ev_mSkip, ev_mBrk, ev_mCnt, kSeq_nx, kSeq_rt, kSeq_bk, kSeq_ct, kSeq_exc, kSeq_bad, ev_mSeq, kIf_t, kIf_f, kIf_exc, kIf_bad, ev_mIf, kExpr_ok, kExpr_exc, kExpr_bad, ev_mExpr, kRet_tm, kRet_pl, kRet_exc, kRet_bad, ev_mRet, ev_mRetN, kAsg_tm, kAsg_exc, kAsg_bad, ev_mAsg, kG_ok, kG_bad, kAsgG_tm, kAsgG_exc, kAsgG_bad, ev_mAsgG, kPar_tm, kPar_exc, kPar_bad, ev_mPar, kFor_ok, kFor_exc, kFor_bad, ev_mFor, kI2_some, kI2_none, kIOp_ok, kIOp_exc, kIOp_bad, ev_mIOp, kSI_ok, kSI_exc, kSI_bad, ev_mSeqI, kL2_ok, kLc_ok, kLc_exc, kLc_bad, ev_mLc, ev_mTgN, ev_mGNil, kGs_ok, ev_mGCons, kTg_some, ev_mTgT, ev_mTgL, kS3_some, kS2_l, kS1_ok, ev_mTgS, kH4_some, kH3_some, kH2_ok, kH1_t, kH1_f, kH0_ok, kH_ok, kH_exc, kH_bad, ev_mCh, kInt_ok, ev_mInt, kStr2_ok, kStr_ok, kStr_exc, kStr_bad, ev_mStr, kLs2_ok, kLs_ok, kLs_exc, kLs_bad, ev_mLs, kA2_ok, kA2_exc, kA2_bad, kA1_ok, kA1_exc, kA1_bad, ev_mApp, kF3_some, kF4_some, kF2_ret, kF2_exc, kF1_some, ev_fCall, kK2_ret, kK2_exc, kK1_some, ev_fCallK, kRun_nx, kRun_rt, kRun_exc, kRun_bad, ev_runF, ev_mDct0, kDc2_some, kDc_ok, kDc_exc, kDc_bad, ev_mDct, fIx, fAdd, fMul, fDivmod, fList, fTuple, fLst, fTup, fLen, fIsi, fApp, fSl10, fSl01, fSl11, fSl00, fRng1, fRng2, fIsN, share, look, vw, vws, T.at, T.sub, T.put, T.putS, putT, T.fz, T.fzL, tru, itemAt, atI, ixN, shL, shT, allD, tms, lenT, tyT, tyNs, tyD, subT, tys, nonT, hEq, hNe, hLt, hLe, hGt, hGe, hCmp, hIn, hAbs, h2F, hMax2, hMin2, h2I, hSub, hMod, hDiv, hPow, hNeg, hInt1, hBls, hInts, blsD, intsD, strsD, hJoin, fSl1, seqD, wipable, wipeE, unwipe, outs, isL, keysT, keyD, moveOut, putBack, holes, noIo, isH, arrT, arrG, Op.deep, itemsT, itemsL, SeqAt.shaped, PyData.canLay0, PyData.canLayAll0, PyData.depth, PyData.depthAll, PyData.eqv, PyData.eqvAll, chB]
        simpa using e
      exact ⟨_, _, _, _, _, _, rfl, rfl, he, rfl⟩
    have g2 : z_is_name_2 [some (.d (.str z)), none] = .ok (.rt (.d (.bool (swordB z)))) [some (.d (.str z)), none] true := by
      have e : swordB z = (z.cps.toList.map fun c => (PyData.str ⟨#[c]⟩)).all chB := by
        unfold swordB
        rw [decide_eq_true h.1, decide_eq_true h.2]
        rfl
      rw [e]
      generalize hl : (z.cps.toList.map fun c => (PyData.str ⟨#[c]⟩)) = l at *
      unfold z_is_name_2
      simp [ev_mVar, ev_mD, ev_mV, ev_mNil, ev_mYes, kP_ok, kP_exc, kP_bad, kB_ok, kB_exc, kB_bad, kC2_ok, kC2_exc, kC2_bad, kC1_ok, kC1_exc, kC1_bad, ev_mCons, kOp_ok, kOp_exc, kOp_bad, ev_mOpN, ev_m2, ev_m1, kSh_ok, kSh_exc, kSh_bad, ev_mSh, kD2_some, kD2_none, kD1_some, kD1_none, ev_fD, kT2_some, kT2_none, kTst_ok, kTst_exc, kTst_bad, ev_mTst, boolT_b, kTb_ok, kTb_exc, kTb_bad, ev_mTb, kAnd_t, kAnd_f, kAnd_exc, kAnd_bad, ev_mAndB, kOr_f, kOr_t, kOr_exc, kOr_bad, ev_mOrB, kNot_ok, kNot_exc, kNot_bad, ev_mNotB, kNotV_ok, kNotV_exc, kNotV_bad, ev_mNotV, kAV2_t, kAV2_f, kAV2_n, kAV_ok, kAV_exc, kAV_bad, ev_mAndV, kOV2_f, kOV2_t, kOV2_n, kOV_ok, kOV_exc, kOV_bad, ev_mOrV, kIfE_t, kIfE_f, kIfE_exc, kIfE_bad, ev_mIfE, ev_mSkip, ev_mBrk, ev_mCnt, kSeq_nx, kSeq_rt, kSeq_bk, kSeq_ct, kSeq_exc, kSeq_bad, ev_mSeq, kIf_t, kIf_f, kIf_exc, kIf_bad, ev_mIf, kExpr_ok, kExpr_exc, kExpr_bad, ev_mExpr, kRet_tm, kRet_pl, kRet_exc, kRet_bad, ev_mRet, ev_mRetN, kAsg_tm, kAsg_exc, kAsg_bad, ev_mAsg, kG_ok, kG_bad, kAsgG_tm, kAsgG_exc, kAsgG_bad, ev_mAsgG, kPar_tm, kPar_exc, kPar_bad, ev_mPar, kFor_ok, kFor_exc, kFor_bad, ev_mFor, kI2_some, kI2_none, kIOp_ok, kIOp_exc, kIOp_bad, ev_mIOp, kSI_ok, kSI_exc, kSI_bad, ev_mSeqI, kL2_ok, kLc_ok, kLc_exc, kLc_bad, ev_mLc, ev_mTgN, ev_mGNil, kGs_ok, ev_mGCons, kTg_some, ev_mTgT, ev_mTgL, kS3_some, kS2_l, kS1_ok, ev_mTgS, kH4_some, kH3_some, kH2_ok, kH1_t, kH1_f, kH0_ok, kH_ok, kH_exc, kH_bad, ev_mCh, kInt_ok, ev_mInt, kStr2_ok, kStr_ok, kStr_exc, kStr_bad, ev_mStr, kLs2_ok, kLs_ok, kLs_exc, kLs_bad, ev_mLs, kA2_ok, kA2_exc, kA2_bad, kA1_ok, kA1_exc, kA1_bad, ev_mApp, kF3_some, kF4_some, kF2_ret, kF2_exc, kF1_some, ev_fCall, kK2_ret, kK2_exc, kK1_some, ev_fCallK, kRun_nx, kRun_rt, kRun_exc, kRun_bad, ev_runF, ev_mDct0, kDc2_some, kDc_ok, kDc_exc, kDc_bad, ev_mDct, fIx, fAdd, fMul, fDivmod, fList, fTuple, fLst, fTup, fLen, fIsi, fApp, fSl10, fSl01, fSl11, fSl00, fRng1, fRng2, fIsN, share, look, vw, vws, T.at, T.sub, T.put, T.putS, putT, T.fz, T.fzL, tru, itemAt, atI, ixN, shL, shT, allD, tms, lenT, tyT, tyNs, tyD, subT, tys, nonT, hEq, hNe, hLt, hLe, hGt, hGe, hCmp, hIn, hAbs, h2F, hMax2, hMin2, h2I, hSub, hMod, hDiv, hPow, hNeg, hInt1, hBls, hInts, blsD, intsD, strsD, hJoin, fSl1, seqD, wipable, wipeE, unwipe, outs, isL, keysT, keyD, moveOut, putBack, holes, noIo, isH, arrT, arrG, Op.deep, itemsT, itemsL, SeqAt.shaped, PyData.canLay0, PyData.canLayAll0, PyData.depth, PyData.depthAll, PyData.eqv, PyData.eqvAll, q_is_name_0, hl, hc, fzL_fn, blsD_fn, all_id_map]
    rw [ev_mSeq, g1, kSeq_nx, g2, kRun_rt]
    rfl
  · have g1 : z_is_name_1 [some (.d (.str z)), none] = .ok (.rt (.d (.bool false))) [some (.d (.str z)), none] true := by
      unfold z_is_name_1 z_is_name_0
      by_cases h1 : (1 : Int) ≤ z.length
      · have h2 : ¬ (z.length : Int) ≤ 8 := by omega
        simp [ev_mVar, ev_mD, ev_mV, ev_mNil, ev_mYes, kP_ok, kP_exc, kP_bad, kB_ok, kB_exc, kB_bad, kC2_ok, kC2_exc, kC2_bad, kC1_ok, kC1_exc, kC1_bad, ev_mCons, kOp_ok, kOp_exc, kOp_bad, ev_mOpN, ev_m2, ev_m1, kSh_ok, kSh_exc, kSh_bad, ev_mSh, kD2_some, kD2_none, kD1_some, kD1_none, ev_fD, kT2_some, kT2_none, kTst_ok, kTst_exc, kTst_bad, ev_mTst, boolT_b, kTb_ok, kTb_exc, kTb_bad, ev_mTb, kAnd_t, kAnd_f, kAnd_exc, kAnd_bad, ev_mAndB, kOr_f, kOr_t, kOr_exc, kOr_bad, ev_mOrB, kNot_ok, kNot_exc, kNot_bad, ev_mNotB, kNotV_ok, kNotV_exc, kNotV_bad, ev_mNotV, kAV2_t, kAV2_f, kAV2_n, kAV_ok, kAV_exc, kAV_bad, ev_mAndV, kOV2_f, kOV2_t, kOV2_n, kOV_ok, kOV_exc, kOV_bad, ev_mOrV, kIfE_t, kIfE_f, kIfE_exc, kIfE_bad, ev_mIfE, ev_mSkip, ev_mBrk, ev_mCnt, kSeq_nx, kSeq_rt, kSeq_bk, kSeq_ct, kSeq_exc, kSeq_bad, ev_mSeq, kIf_t, kIf_f, kIf_exc, kIf_bad, ev_mIf, kExpr_ok, kExpr_exc, kExpr_bad, ev_mExpr, kRet_tm, kRet_pl, kRet_exc, kRet_bad, ev_mRet, ev_mRetN, kAsg_tm, kAsg_exc, kAsg_bad, ev_mAsg, kG_ok, kG_bad, kAsgG_tm, kAsgG_exc, kAsgG_bad, ev_mAsgG, kPar_tm, kPar_exc, kPar_bad, ev_mPar, kFor_ok, kFor_exc, kFor_bad, ev_mFor, kI2_some, kI2_none, kIOp_ok, kIOp_exc, kIOp_bad, ev_mIOp, kSI_ok, kSI_exc, kSI_bad, ev_mSeqI, kL2_ok, kLc_ok, kLc_exc, kLc_bad, ev_mLc, ev_mTgN, ev_mGNil, kGs_ok, ev_mGCons, kTg_some, ev_mTgT, ev_mTgL, kS3_some, kS2_l, kS1_ok, ev_mTgS, kH4_some, kH3_some, kH2_ok, kH1_t, kH1_f, kH0_ok, kH_ok, kH_exc, kH_bad, ev_mCh, kInt_ok, ev_mInt, kStr2_ok, kStr_ok, kStr_exc, kStr_bad, ev_mStr, kLs2_ok, kLs_ok, kLs_exc, kLs_bad, ev_mLs, kA2_ok, kA2_exc, kA2_bad, kA1_ok, kA1_exc, kA1_bad, ev_mApp, kF3_some, kF4_some, kF2_ret, kF2_exc, kF1_some, ev_fCall, kK2_ret, kK2_exc, kK1_some, ev_fCallK, kRun_nx, kRun_rt, kRun_exc, kRun_bad, ev_runF, ev_mDct0, kDc2_some, kDc_ok, kDc_exc, kDc_bad, ev_mDct, fIx, fAdd, fMul, fDivmod, fList, fTuple, fLst, fTup, fLen, fIsi, fApp, fSl10, fSl01, fSl11, fSl00, fRng1, fRng2, fIsN, share, look, vw, vws, T.at, T.sub, T.put, T.putS, putT, T.fz, T.fzL, tru, itemAt, atI, ixN, shL, shT, allD, tms, lenT, tyT, tyNs, tyD, subT, tys, nonT, hEq, hNe, hLt, hLe, hGt, hGe, hCmp, hIn, hAbs, h2F, hMax2, hMin2, h2I, hSub, hMod, hDiv, hPow, hNeg, hInt1, hBls, hInts, blsD, intsD, strsD, hJoin, fSl1, seqD, wipable, wipeE, unwipe, outs, isL, keysT, keyD, moveOut, putBack, holes, noIo, isH, arrT, arrG, Op.deep, itemsT, itemsL, SeqAt.shaped, PyData.canLay0, PyData.canLayAll0, PyData.depth, PyData.depthAll, PyData.eqv, PyData.eqvAll, hs, h1, h2]
      · simp [ev_mVar, ev_mD, ev_mV, ev_mNil, ev_mYes, kP_ok, kP_exc, kP_bad, kB_ok, kB_exc, kB_bad, kC2_ok, kC2_exc, kC2_bad, kC1_ok, kC1_exc, kC1_bad, ev_mCons, kOp_ok, kOp_exc, kOp_bad, ev_mOpN, ev_m2, ev_m1, kSh_ok, kSh_exc, kSh_bad, ev_mSh, kD2_some, kD2_none, kD1_some, kD1_none, ev_fD, kT2_some, kT2_none, kTst_ok, kTst_exc, kTst_bad, ev_mTst, boolT_b, kTb_ok, kTb_exc, kTb_bad, ev_mTb, kAnd_t, kAnd_f, kAnd_exc, kAnd_bad, ev_mAndB, kOr_f, kOr_t, kOr_exc, kOr_bad, ev_mOrB, kNot_ok, kNot_exc, kNot_bad, ev_mNotB, kNotV_ok, kNotV_exc, kNotV_bad, ev_mNotV, kAV2_t, kAV2_f, kAV2_n, kAV_ok, kAV_exc, kAV_bad, ev_mAndV, kOV2_f, kOV2_t, kOV2_n, kOV_ok, kOV_exc, kOV_bad, ev_mOrV, kIfE_t, kIfE_f, kIfE_exc, kIfE_bad, ev_mIfE, ev_mSkip, ev_mBrk, ev_mCnt, kSeq_nx, kSeq_rt, kSeq_bk, kSeq_ct, kSeq_exc, kSeq_bad, ev_mSeq, kIf_t, kIf_f, kIf_exc, kIf_bad, ev_mIf, kExpr_ok, kExpr_exc, kExpr_bad, ev_mExpr, kRet_tm, kRet_pl, kRet_exc, kRet_bad, ev_mRet, ev_mRetN, kAsg_tm, kAsg_exc, kAsg_bad, ev_mAsg, kG_ok, kG_bad, kAsgG_tm, kAsgG_exc, kAsgG_bad, ev_mAsgG, kPar_tm, kPar_exc, kPar_bad, ev_mPar, kFor_ok, kFor_exc, kFor_bad, ev_mFor, kI2_some, kI2_none, kIOp_ok, kIOp_exc, kIOp_bad, ev_mIOp, kSI_ok, kSI_exc, kSI_bad, ev_mSeqI, kL2_ok, kLc_ok, kLc_exc, kLc_bad, ev_mLc, ev_mTgN, ev_mGNil, kGs_ok, ev_mGCons, kTg_some, ev_mTgT, ev_mTgL, kS3_some, kS2_l, kS1_ok, ev_mTgS, kH4_some, kH3_some, kH2_ok, kH1_t, kH1_f, kH0_ok, kH_ok, kH_exc, kH_bad, ev_mCh, kInt_ok, ev_mInt, kStr2_ok, kStr_ok, kStr_exc, kStr_bad, ev_mStr, kLs2_ok, kLs_ok, kLs_exc, kLs_bad, ev_mLs, kA2_ok, kA2_exc, kA2_bad, kA1_ok, kA1_exc, kA1_bad, ev_mApp, kF3_some, kF4_some, kF2_ret, kF2_exc, kF1_some, ev_fCall, kK2_ret, kK2_exc, kK1_some, ev_fCallK, kRun_nx, kRun_rt, kRun_exc, kRun_bad, ev_runF, ev_mDct0, kDc2_some, kDc_ok, kDc_exc, kDc_bad, ev_mDct, fIx, fAdd, fMul, fDivmod, fList, fTuple, fLst, fTup, fLen, fIsi, fApp, fSl10, fSl01, fSl11, fSl00, fRng1, fRng2, fIsN, share, look, vw, vws, T.at, T.sub, T.put, T.putS, putT, T.fz, T.fzL, tru, itemAt, atI, ixN, shL, shT, allD, tms, lenT, tyT, tyNs, tyD, subT, tys, nonT, hEq, hNe, hLt, hLe, hGt, hGe, hCmp, hIn, hAbs, h2F, hMax2, hMin2, h2I, hSub, hMod, hDiv, hPow, hNeg, hInt1, hBls, hInts, blsD, intsD, strsD, hJoin, fSl1, seqD, wipable, wipeE, unwipe, outs, isL, keysT, keyD, moveOut, putBack, holes, noIo, isH, arrT, arrG, Op.deep, itemsT, itemsL, SeqAt.shaped, PyData.canLay0, PyData.canLayAll0, PyData.depth, PyData.depthAll, PyData.eqv, PyData.eqvAll, hs, h1]
    have e : swordB z = false := by
      unfold swordB
      have : (decide (1 ≤ z.length) && decide (z.length ≤ 8)) = false := by
        rw [Bool.eq_false_iff]
        intro q
        rw [Bool.and_eq_true] at q
        exact h ⟨of_decide_eq_true q.1, of_decide_eq_true q.2⟩
      rw [this, Bool.false_and]
    rw [ev_mSeq, g1, kSeq_rt, kRun_rt, e]
    rfl
theorem e_is_word_str {z : Str} (hz : z.length ≤ 10000) : m__law_is_word [.d (.str z)] = .ret (.d (.bool (swordB z))) [none] := by
  have hs : z.length ≤ sizeLine := le_size hz
  show runF 2 [.sh] (mSeq z__law_is_word_1 z__law_is_word_2) _ = _
  rw [ev_runF]
  show kRun [.sh] (mSeq z__law_is_word_1 z__law_is_word_2 [some (.d (.str z)), none]) = _
  by_cases h : 1 ≤ z.length ∧ z.length ≤ 8
  · have g1 : z__law_is_word_1 [some (.d (.str z)), none] = .ok .nx [some (.d (.str z)), none] true := by
      have h1 : ¬ (z.length : Int) < 1 := by omega
      have h2 : ¬ (8 : Int) < z.length := by omega
      unfold z__law_is_word_1
      simp [ev_mVar, ev_mD, ev_mV, ev_mNil, ev_mYes, kP_ok, kP_exc, kP_bad, kB_ok, kB_exc, kB_bad, kC2_ok, kC2_exc, kC2_bad, kC1_ok, kC1_exc, kC1_bad, ev_mCons, kOp_ok, kOp_exc, kOp_bad, ev_mOpN, ev_m2, ev_m1, kSh_ok, kSh_exc, kSh_bad, ev_mSh, kD2_some, kD2_none, kD1_some, kD1_none, ev_fD, kT2_some, kT2_none, kTst_ok, kTst_exc, kTst_bad, ev_mTst, boolT_b, kTb_ok, kTb_exc, kTb_bad, ev_mTb, kAnd_t, kAnd_f, kAnd_exc, kAnd_bad, ev_mAndB, kOr_f, kOr_t, kOr_exc, kOr_bad, ev_mOrB, kNot_ok, kNot_exc, kNot_bad, ev_mNotB, kNotV_ok, kNotV_exc, kNotV_bad, ev_mNotV, kAV2_t, kAV2_f, kAV2_n, kAV_ok, kAV_exc, kAV_bad, ev_mAndV, kOV2_f, kOV2_t, kOV2_n, kOV_ok, kOV_exc, kOV_bad, ev_mOrV, kIfE_t, kIfE_f, kIfE_exc, kIfE_bad, ev_mIfE, ev_mSkip, ev_mBrk, ev_mCnt, kSeq_nx, kSeq_rt, kSeq_bk, kSeq_ct, kSeq_exc, kSeq_bad, ev_mSeq, kIf_t, kIf_f, kIf_exc, kIf_bad, ev_mIf, kExpr_ok, kExpr_exc, kExpr_bad, ev_mExpr, kRet_tm, kRet_pl, kRet_exc, kRet_bad, ev_mRet, ev_mRetN, kAsg_tm, kAsg_exc, kAsg_bad, ev_mAsg, kG_ok, kG_bad, kAsgG_tm, kAsgG_exc, kAsgG_bad, ev_mAsgG, kPar_tm, kPar_exc, kPar_bad, ev_mPar, kFor_ok, kFor_exc, kFor_bad, ev_mFor, kI2_some, kI2_none, kIOp_ok, kIOp_exc, kIOp_bad, ev_mIOp, kSI_ok, kSI_exc, kSI_bad, ev_mSeqI, kL2_ok, kLc_ok, kLc_exc, kLc_bad, ev_mLc, ev_mTgN, ev_mGNil, kGs_ok, ev_mGCons, kTg_some, ev_mTgT, ev_mTgL, kS3_some, kS2_l, kS1_ok, ev_mTgS, kH4_some, kH3_some, kH2_ok, kH1_t, kH1_f, kH0_ok, kH_ok, kH_exc, kH_bad, ev_mCh, kInt_ok, ev_mInt, kStr2_ok, kStr_ok, kStr_exc, kStr_bad, ev_mStr, kLs2_ok, kLs_ok, kLs_exc, kLs_bad, ev_mLs, kA2_ok, kA2_exc, kA2_bad, kA1_ok, kA1_exc, kA1_bad, ev_mApp, kF3_some, kF4_some, kF2_ret, kF2_exc, kF1_some, ev_fCall, kK2_ret, kK2_exc, kK1_some, ev_fCallK, kRun_nx, kRun_rt, kRun_exc, kRun_bad, ev_runF, ev_mDct0, kDc2_some, kDc_ok, kDc_exc, kDc_bad, ev_mDct, fIx, fAdd, fMul, fDivmod, fList, fTuple, fLst, fTup, fLen, fIsi, fApp, fSl10, fSl01, fSl11, fSl00, fRng1, fRng2, fIsN, share, look, vw, vws, T.at, T.sub, T.put, T.putS, putT, T.fz, T.fzL, tru, itemAt, atI, ixN, shL, shT, allD, tms, lenT, tyT, tyNs, tyD, subT, tys, nonT, hEq, hNe, hLt, hLe, hGt, hGe, hCmp, hIn, hAbs, h2F, hMax2, hMin2, h2I, hSub, hMod, hDiv, hPow, hNeg, hInt1, hBls, hInts, blsD, intsD, strsD, hJoin, fSl1, seqD, wipable, wipeE, unwipe, outs, isL, keysT, keyD, moveOut, putBack, holes, noIo, isH, arrT, arrG, Op.deep, itemsT, itemsL, SeqAt.shaped, PyData.canLay0, PyData.canLayAll0, PyData.depth, PyData.depthAll, PyData.eqv, PyData.eqvAll, hs, h1, h2]
    have hc : mLcGo [1] g__law_is_word_0 mYes e__law_is_word_0 (z.cps.toList.map fun c => (.str ⟨#[c]⟩)) [] [some (.d (.str z)), none] = .ok ((z.cps.toList.map fun c => (PyData.str ⟨#[c]⟩)).map fun d => .d (.bool (chB d))) [some (.d (.str z)), none] true := by
      refine lc_map _ (by rw [List.length_map, Array.length_toList]; exact hz) fun d hd => ?_
      obtain ⟨c, _, rfl⟩ := List.mem_map.mp hd
      have he : e__law_is_word_0 [some (.d (.str z)), some (.d (.str ⟨#[c]⟩))] = .ok (.tm (.d (.bool (chB (.str ⟨#[c]⟩))))) [some (.d (.str z)), some (.d (.str ⟨#[c]⟩))] true := by
        have ea : ("a" : Str).cps.toList = [97] := by decide +kernel
        have ez : ("z" : Str).cps.toList = [122] := by decide +kernel
        have e1 := lt_one c 97
        have e2 := lt_one 122 c
        have e3 : (!decide (c < 97)) = decide (97 ≤ c) := by rw [Bool.eq_iff_iff]; simp
        have e4 : (!decide (122 < c)) = decide (c ≤ 122) := by rw [Bool.eq_iff_iff]; simp
        have ec : chB (.str ⟨#[c]⟩) = (decide (97 ≤ c) && decide (c ≤ 122)) := rfl
        have f1 : hLe [.str ("a" : Str), .str ⟨#[c]⟩] = some (.bool (decide (97 ≤ c))) := by
          show some (PyData.bool (!decide ((⟨#[c]⟩ : Str).cps.toList < ("a" : Str).cps.toList))) = _
          rw [ea, show (⟨#[c]⟩ : Str).cps.toList = [c] from rfl, e1, e3]
        have f2 : hLe [.str ⟨#[c]⟩, .str ("z" : Str)] = some (.bool (decide (c ≤ 122))) := by
          show some (PyData.bool (!decide (("z" : Str).cps.toList < (⟨#[c]⟩ : Str).cps.toList))) = _
          rw [ez, show (⟨#[c]⟩ : Str).cps.toList = [c] from rfl, e2, e4]
        unfold e__law_is_word_0
        rw [ec]
        simp only [ev_mSh, ev_mCh, ev_mCons, ev_mD, kC1_ok, ev_mVar, ev_mNil, kC2_ok, List.getElem?_cons_zero, List.getElem?_cons_succ, Op.deep, Bool.false_and, Bool.false_eq_true, if_false, kH_ok, vws, vw, look, Option.bind_some, T.at, T.fz, kH0_ok, f1]
        by_cases h97 : 97 ≤ c
        · rw [decide_eq_true h97]
          simp only [kH1_t, ev_mD, kH2_ok, vw, look, Option.bind_some, T.fz, kH3_some, f2, kH4_some, kSh_ok, share, if_true, if_false, Bool.true_and, Bool.false_eq_true, kP_ok, Bool.and_true, Bool.and_self]
        · rw [decide_eq_false h97]
          simp only [kH1_f, kSh_ok, share, Bool.false_eq_true, if_false, kP_ok, Bool.and_true, Bool.false_and, Bool.and_self]
      exact ⟨_, _, _, _, _, _, rfl, rfl, he, rfl⟩
    have g2 : z__law_is_word_2 [some (.d (.str z)), none] = .ok (.rt (.d (.bool (swordB z)))) [some (.d (.str z)), none] true := by
      have e : swordB z = (z.cps.toList.map fun c => (PyData.str ⟨#[c]⟩)).all chB := by
        unfold swordB
        rw [decide_eq_true h.1, decide_eq_true h.2]
        rfl
      rw [e]
      generalize hl : (z.cps.toList.map fun c => (PyData.str ⟨#[c]⟩)) = l at *
      unfold z__law_is_word_2
      simp [ev_mVar, ev_mD, ev_mV, ev_mNil, ev_mYes, kP_ok, kP_exc, kP_bad, kB_ok, kB_exc, kB_bad, kC2_ok, kC2_exc, kC2_bad, kC1_ok, kC1_exc, kC1_bad, ev_mCons, kOp_ok, kOp_exc, kOp_bad, ev_mOpN, ev_m2, ev_m1, kSh_ok, kSh_exc, kSh_bad, ev_mSh, kD2_some, kD2_none, kD1_some, kD1_none, ev_fD, kT2_some, kT2_none, kTst_ok, kTst_exc, kTst_bad, ev_mTst, boolT_b, kTb_ok, kTb_exc, kTb_bad, ev_mTb, kAnd_t, kAnd_f, kAnd_exc, kAnd_bad, ev_mAndB, kOr_f, kOr_t, kOr_exc, kOr_bad, ev_mOrB, kNot_ok, kNot_exc, kNot_bad, ev_mNotB, kNotV_ok, kNotV_exc, kNotV_bad, ev_mNotV, kAV2_t, kAV2_f, kAV2_n, kAV_ok, kAV_exc, kAV_bad, ev_mAndV, kOV2_f, kOV2_t, kOV2_n, kOV_ok, kOV_exc, kOV_bad, ev_mOrV, kIfE_t, kIfE_f, kIfE_exc, kIfE_bad, ev_mIfE, ev_mSkip, ev_mBrk, ev_mCnt, kSeq_nx, kSeq_rt, kSeq_bk, kSeq_ct, kSeq_exc, kSeq_bad, ev_mSeq, kIf_t, kIf_f, kIf_exc, kIf_bad, ev_mIf, kExpr_ok, kExpr_exc, kExpr_bad, ev_mExpr, kRet_tm, kRet_pl, kRet_exc, kRet_bad, ev_mRet, ev_mRetN, kAsg_tm, kAsg_exc, kAsg_bad, ev_mAsg, kG_ok, kG_bad, kAsgG_tm, kAsgG_exc, kAsgG_bad, ev_mAsgG, kPar_tm, kPar_exc, kPar_bad, ev_mPar, kFor_ok, kFor_exc, kFor_bad, ev_mFor, kI2_some, kI2_none, kIOp_ok, kIOp_exc, kIOp_bad, ev_mIOp, kSI_ok, kSI_exc, kSI_bad, ev_mSeqI, kL2_ok, kLc_ok, kLc_exc, kLc_bad, ev_mLc, ev_mTgN, ev_mGNil, kGs_ok, ev_mGCons, kTg_some, ev_mTgT, ev_mTgL, kS3_some, kS2_l, kS1_ok, ev_mTgS, kH4_some, kH3_some, kH2_ok, kH1_t, kH1_f, kH0_ok, kH_ok, kH_exc, kH_bad, ev_mCh, kInt_ok, ev_mInt, kStr2_ok, kStr_ok, kStr_exc, kStr_bad, ev_mStr, kLs2_ok, kLs_ok, kLs_exc, kLs_bad, ev_mLs, kA2_ok, kA2_exc, kA2_bad, kA1_ok, kA1_exc, kA1_bad, ev_mApp, kF3_some, kF4_some, kF2_ret, kF2_exc, kF1_some, ev_fCall, kK2_ret, kK2_exc, kK1_some, ev_fCallK, kRun_nx, kRun_rt, kRun_exc, kRun_bad, ev_runF, ev_mDct0, kDc2_some, kDc_ok, kDc_exc, kDc_bad, ev_mDct, fIx, fAdd, fMul, fDivmod, fList, fTuple, fLst, fTup, fLen, fIsi, fApp, fSl10, fSl01, fSl11, fSl00, fRng1, fRng2, fIsN, share, look, vw, vws, T.at, T.sub, T.put, T.putS, putT, T.fz, T.fzL, tru, itemAt, atI, ixN, shL, shT, allD, tms, lenT, tyT, tyNs, tyD, subT, tys, nonT, hEq, hNe, hLt, hLe, hGt, hGe, hCmp, hIn, hAbs, h2F, hMax2, hMin2, h2I, hSub, hMod, hDiv, hPow, hNeg, hInt1, hBls, hInts, blsD, intsD, strsD, hJoin, fSl1, seqD, wipable, wipeE, unwipe, outs, isL, keysT, keyD, moveOut, putBack, holes, noIo, isH, arrT, arrG, Op.deep, itemsT, itemsL, SeqAt.shaped, PyData.canLay0, PyData.canLayAll0, PyData.depth, PyData.depthAll, PyData.eqv, PyData.eqvAll, q__law_is_word_0, hl, hc, fzL_fn, blsD_fn, all_id_map]
    rw [ev_mSeq, g1, kSeq_nx, g2, kRun_rt]
    rfl
  · have g1 : z__law_is_word_1 [some (.d (.str z)), none] = .ok (.rt (.d (.bool false))) [some (.d (.str z)), none] true := by
      unfold z__law_is_word_1 z__law_is_word_0
      by_cases h1 : (z.length : Int) < 1
      · simp [ev_mVar, ev_mD, ev_mV, ev_mNil, ev_mYes, kP_ok, kP_exc, kP_bad, kB_ok, kB_exc, kB_bad, kC2_ok, kC2_exc, kC2_bad, kC1_ok, kC1_exc, kC1_bad, ev_mCons, kOp_ok, kOp_exc, kOp_bad, ev_mOpN, ev_m2, ev_m1, kSh_ok, kSh_exc, kSh_bad, ev_mSh, kD2_some, kD2_none, kD1_some, kD1_none, ev_fD, kT2_some, kT2_none, kTst_ok, kTst_exc, kTst_bad, ev_mTst, boolT_b, kTb_ok, kTb_exc, kTb_bad, ev_mTb, kAnd_t, kAnd_f, kAnd_exc, kAnd_bad, ev_mAndB, kOr_f, kOr_t, kOr_exc, kOr_bad, ev_mOrB, kNot_ok, kNot_exc, kNot_bad, ev_mNotB, kNotV_ok, kNotV_exc, kNotV_bad, ev_mNotV, kAV2_t, kAV2_f, kAV2_n, kAV_ok, kAV_exc, kAV_bad, ev_mAndV, kOV2_f, kOV2_t, kOV2_n, kOV_ok, kOV_exc, kOV_bad, ev_mOrV, kIfE_t, kIfE_f, kIfE_exc, kIfE_bad, ev_mIfE, ev_mSkip, ev_mBrk, ev_mCnt, kSeq_nx, kSeq_rt, kSeq_bk, kSeq_ct, kSeq_exc, kSeq_bad, ev_mSeq, kIf_t, kIf_f, kIf_exc, kIf_bad, ev_mIf, kExpr_ok, kExpr_exc, kExpr_bad, ev_mExpr, kRet_tm, kRet_pl, kRet_exc, kRet_bad, ev_mRet, ev_mRetN, kAsg_tm, kAsg_exc, kAsg_bad, ev_mAsg, kG_ok, kG_bad, kAsgG_tm, kAsgG_exc, kAsgG_bad, ev_mAsgG, kPar_tm, kPar_exc, kPar_bad, ev_mPar, kFor_ok, kFor_exc, kFor_bad, ev_mFor, kI2_some, kI2_none, kIOp_ok, kIOp_exc, kIOp_bad, ev_mIOp, kSI_ok, kSI_exc, kSI_bad, ev_mSeqI, kL2_ok, kLc_ok, kLc_exc, kLc_bad, ev_mLc, ev_mTgN, ev_mGNil, kGs_ok, ev_mGCons, kTg_some, ev_mTgT, ev_mTgL, kS3_some, kS2_l, kS1_ok, ev_mTgS, kH4_some, kH3_some, kH2_ok, kH1_t, kH1_f, kH0_ok, kH_ok, kH_exc, kH_bad, ev_mCh, kInt_ok, ev_mInt, kStr2_ok, kStr_ok, kStr_exc, kStr_bad, ev_mStr, kLs2_ok, kLs_ok, kLs_exc, kLs_bad, ev_mLs, kA2_ok, kA2_exc, kA2_bad, kA1_ok, kA1_exc, kA1_bad, ev_mApp, kF3_some, kF4_some, kF2_ret, kF2_exc, kF1_some, ev_fCall, kK2_ret, kK2_exc, kK1_some, ev_fCallK, kRun_nx, kRun_rt, kRun_exc, kRun_bad, ev_runF, ev_mDct0, kDc2_some, kDc_ok, kDc_exc, kDc_bad, ev_mDct, fIx, fAdd, fMul, fDivmod, fList, fTuple, fLst, fTup, fLen, fIsi, fApp, fSl10, fSl01, fSl11, fSl00, fRng1, fRng2, fIsN, share, look, vw, vws, T.at, T.sub, T.put, T.putS, putT, T.fz, T.fzL, tru, itemAt, atI, ixN, shL, shT, allD, tms, lenT, tyT, tyNs, tyD, subT, tys, nonT, hEq, hNe, hLt, hLe, hGt, hGe, hCmp, hIn, hAbs, h2F, hMax2, hMin2, h2I, hSub, hMod, hDiv, hPow, hNeg, hInt1, hBls, hInts, blsD, intsD, strsD, hJoin, fSl1, seqD, wipable, wipeE, unwipe, outs, isL, keysT, keyD, moveOut, putBack, holes, noIo, isH, arrT, arrG, Op.deep, itemsT, itemsL, SeqAt.shaped, PyData.canLay0, PyData.canLayAll0, PyData.depth, PyData.depthAll, PyData.eqv, PyData.eqvAll, hs, h1]
      · have h2 : (8 : Int) < z.length := by omega
        simp [ev_mVar, ev_mD, ev_mV, ev_mNil, ev_mYes, kP_ok, kP_exc, kP_bad, kB_ok, kB_exc, kB_bad, kC2_ok, kC2_exc, kC2_bad, kC1_ok, kC1_exc, kC1_bad, ev_mCons, kOp_ok, kOp_exc, kOp_bad, ev_mOpN, ev_m2, ev_m1, kSh_ok, kSh_exc, kSh_bad, ev_mSh, kD2_some, kD2_none, kD1_some, kD1_none, ev_fD, kT2_some, kT2_none, kTst_ok, kTst_exc, kTst_bad, ev_mTst, boolT_b, kTb_ok, kTb_exc, kTb_bad, ev_mTb, kAnd_t, kAnd_f, kAnd_exc, kAnd_bad, ev_mAndB, kOr_f, kOr_t, kOr_exc, kOr_bad, ev_mOrB, kNot_ok, kNot_exc, kNot_bad, ev_mNotB, kNotV_ok, kNotV_exc, kNotV_bad, ev_mNotV, kAV2_t, kAV2_f, kAV2_n, kAV_ok, kAV_exc, kAV_bad, ev_mAndV, kOV2_f, kOV2_t, kOV2_n, kOV_ok, kOV_exc, kOV_bad, ev_mOrV, kIfE_t, kIfE_f, kIfE_exc, kIfE_bad, ev_mIfE, ev_mSkip, ev_mBrk, ev_mCnt, kSeq_nx, kSeq_rt, kSeq_bk, kSeq_ct, kSeq_exc, kSeq_bad, ev_mSeq, kIf_t, kIf_f, kIf_exc, kIf_bad, ev_mIf, kExpr_ok, kExpr_exc, kExpr_bad, ev_mExpr, kRet_tm, kRet_pl, kRet_exc, kRet_bad, ev_mRet, ev_mRetN, kAsg_tm, kAsg_exc, kAsg_bad, ev_mAsg, kG_ok, kG_bad, kAsgG_tm, kAsgG_exc, kAsgG_bad, ev_mAsgG, kPar_tm, kPar_exc, kPar_bad, ev_mPar, kFor_ok, kFor_exc, kFor_bad, ev_mFor, kI2_some, kI2_none, kIOp_ok, kIOp_exc, kIOp_bad, ev_mIOp, kSI_ok, kSI_exc, kSI_bad, ev_mSeqI, kL2_ok, kLc_ok, kLc_exc, kLc_bad, ev_mLc, ev_mTgN, ev_mGNil, kGs_ok, ev_mGCons, kTg_some, ev_mTgT, ev_mTgL, kS3_some, kS2_l, kS1_ok, ev_mTgS, kH4_some, kH3_some, kH2_ok, kH1_t, kH1_f, kH0_ok, kH_ok, kH_exc, kH_bad, ev_mCh, kInt_ok, ev_mInt, kStr2_ok, kStr_ok, kStr_exc, kStr_bad, ev_mStr, kLs2_ok, kLs_ok, kLs_exc, kLs_bad, ev_mLs, kA2_ok, kA2_exc, kA2_bad, kA1_ok, kA1_exc, kA1_bad, ev_mApp, kF3_some, kF4_some, kF2_ret, kF2_exc, kF1_some, ev_fCall, kK2_ret, kK2_exc, kK1_some, ev_fCallK, kRun_nx, kRun_rt, kRun_exc, kRun_bad, ev_runF, ev_mDct0, kDc2_some, kDc_ok, kDc_exc, kDc_bad, ev_mDct, fIx, fAdd, fMul, fDivmod, fList, fTuple, fLst, fTup, fLen, fIsi, fApp, fSl10, fSl01, fSl11, fSl00, fRng1, fRng2, fIsN, share, look, vw, vws, T.at, T.sub, T.put, T.putS, putT, T.fz, T.fzL, tru, itemAt, atI, ixN, shL, shT, allD, tms, lenT, tyT, tyNs, tyD, subT, tys, nonT, hEq, hNe, hLt, hLe, hGt, hGe, hCmp, hIn, hAbs, h2F, hMax2, hMin2, h2I, hSub, hMod, hDiv, hPow, hNeg, hInt1, hBls, hInts, blsD, intsD, strsD, hJoin, fSl1, seqD, wipable, wipeE, unwipe, outs, isL, keysT, keyD, moveOut, putBack, holes, noIo, isH, arrT, arrG, Op.deep, itemsT, itemsL, SeqAt.shaped, PyData.canLay0, PyData.canLayAll0, PyData.depth, PyData.depthAll, PyData.eqv, PyData.eqvAll, hs, h1, h2]
    have e : swordB z = false := by
      unfold swordB
      have : (decide (1 ≤ z.length) && decide (z.length ≤ 8)) = false := by
        rw [Bool.eq_false_iff]
        intro q
        rw [Bool.and_eq_true] at q
        exact h ⟨of_decide_eq_true q.1, of_decide_eq_true q.2⟩
      rw [this, Bool.false_and]
    rw [ev_mSeq, g1, kSeq_rt, kRun_rt, e]
    rfl
theorem e_is_name {x : PyData} (h : ∀ z, x = .str z → z.length ≤ 10000) : m_is_name [.d x] = .ret (.d (.bool (wordB x))) [none] := by
  cases x with
  | str z => exact e_is_name_str (h z rfl)
  | _ => rfl
theorem e_is_word {x : PyData} (h : ∀ z, x = .str z → z.length ≤ 10000) : m__law_is_word [.d x] = .ret (.d (.bool (wordB x))) [none] := by
  cases x with
  | str z => exact e_is_word_str (h z rfl)
  | _ => rfl
end K10
namespace K10
open PySem L2 MV
/-! ### short texts -/
def Gs (n : Nat) (z : Str) : Prop := z.length ≤ n ∧ ∀ c ∈ z.cps.toList, c < 128
theorem cps_append (x y : Str) : (x ++ y).cps.toList = x.cps.toList ++ y.cps.toList := by
  show (x.cps ++ y.cps).toList = _
  simp
theorem Gs.append {m n : Nat} {x y : Str} (h : Gs m x) (k : Gs n y) : Gs (m + n) (x ++ y) := by
  refine ⟨by rw [strLen_append]; have := h.1; have := k.1; omega, fun c hc => ?_⟩
  rw [cps_append, List.mem_append] at hc
  exact hc.elim (h.2 c) (k.2 c)
theorem Gs.mono {m n : Nat} {x : Str} (h : Gs m x) (k : m ≤ n) : Gs n x := ⟨Nat.le_trans h.1 k, h.2⟩
theorem Gs.cut {n : Nat} {z : Str} {lo hi : Option Int} (h : Gs n z) : Gs n (cutS z lo hi) := by
  refine ⟨Nat.le_trans (cutS_length z lo hi) h.1, fun c hc => h.2 c ?_⟩
  unfold cutS at hc
  exact List.mem_of_mem_drop (List.mem_of_mem_take (by simpa using hc))
theorem Gs.one {c : Nat} (h : c < 128) : Gs 1 ⟨#[c]⟩ := ⟨Nat.le_refl _, fun d hd => by
  have e : d = c := by simpa using hd
  rw [e]; exact h⟩
theorem Gs.fine {n : Nat} {z : Str} (h : Gs n z) : fine (.str z) = true := by
  simp only [MV.fine]
  refine List.all_eq_true.mpr fun c hc => decide_eq_true (Nat.lt_trans (h.2 c hc) (by decide))
theorem Gs.join : ∀ {ys : List Str}, (∀ y ∈ ys, Gs 1 y) → Gs ys.length (Str.join ("" : Str) ys)
  | [], _ => ⟨Nat.le_refl _, fun c hc => by
    have e : (Str.join ("" : Str) []).cps.toList = [] := rfl
    rw [e] at hc
    cases hc⟩
  | [y], h => h y (List.mem_cons_self ..)
  | y :: z :: r, h => by
    have ih := Gs.join (ys := z :: r) fun x hx => h x (List.mem_cons_of_mem _ hx)
    have h0 : Gs 0 ("" : Str) := ⟨Nat.le_refl _, fun c hc => by
      have e : ("" : Str).cps.toList = [] := by decide
      rw [e] at hc
      cases hc⟩
    have := ((h y (List.mem_cons_self ..)).append h0).append ih
    show Gs _ (y ++ ("" : Str) ++ Str.join ("" : Str) (z :: r))
    exact this.mono (by simp only [List.length_cons]; omega)
theorem sum_le {ys : List Str} (h : ∀ y ∈ ys, Gs 1 y) : (ys.map (·.length)).sum ≤ ys.length := by
  induction ys with
  | nil => exact Nat.le_refl _
  | cons y ys ih =>
    have h1 := (h y (List.mem_cons_self ..)).1
    have h2 := ih fun x hx => h x (List.mem_cons_of_mem _ hx)
    simp only [List.map_cons, List.sum_cons, List.length_cons]
    omega
theorem at_sign {z : Str} {v : Int} (h0 : 0 ≤ v) (h1 : v < z.length) : ∃ c ∈ z.cps.toList, atI z.cps.toList v = some c := by
  have hl : z.cps.toList.length = z.length := Array.length_toList
  have hlt : v.toNat < z.cps.toList.length := by omega
  refine ⟨z.cps.toList[v.toNat], List.getElem_mem hlt, ?_⟩
  have e := atI_nat (xs := z.cps.toList) (j := v.toNat) (v := z.cps.toList[v.toNat]) (by simp)
  rwa [Int.toNat_of_nonneg h0] at e
/-- what a law draws: short data -/
def Thing (x : PyData) : Prop := fine x = true ∧ big x ≤ 1000 ∧ x.depth ≤ 4 ∧ ∀ z, x = .str z → z.length ≤ 30
theorem thing_str {z : Str} (h : Gs 30 z) : Thing (.str z) := by
  have := h.1
  exact ⟨h.fine, by simp only [big]; omega, by simp [PyData.depth], fun y e => by cases e; exact h.1⟩
end K10
namespace K10
open PySem L2 MV
abbrev Lt : T := .d (.str ("abcdefghijklmnopqrstuvwxyz" : Str))
theorem lt_good : Gs 26 ("abcdefghijklmnopqrstuvwxyz" : Str) := ⟨by decide, by decide⟩
theorem lt_len : ("abcdefghijklmnopqrstuvwxyz" : Str).length = 26 := by decide
theorem th_size {p : Int × Int} (hp : Ok p) : ∃ (n : Nat) (p' : Int × Int), n ≤ 10 ∧ Ok p' ∧ z__law_thing_1 [some (P p), some Lt, none, none, none, none, none, none] = .ok .nx [some (P p'), some Lt, some (.d (.int (n : Nat))), none, none, none, none, none] true := by
  have h11 := e_digit (n := 11) hp (by decide) (by decide)
  obtain ⟨a0, a1⟩ := dg_ok (p := p) (n := 11) (by decide)
  have hp1 := ps_ok (n := 11) hp
  generalize dg p 11 = a at *
  generalize ps p 11 = p1 at *
  have h4 := e_digit (n := 4) hp1 (by decide) (by decide)
  obtain ⟨b0, b1⟩ := dg_ok (p := p1) (n := 4) (by decide)
  have hp2 := ps_ok (n := 4) hp1
  generalize dg p1 4 = b at *
  generalize ps p1 4 = p2 at *
  have hc : b = 0 ∨ b = 1 ∨ b = 2 ∨ b = 3 := by omega
  unfold z__law_thing_1
  rcases hc with rfl | rfl | rfl | rfl
  · refine ⟨a.toNat, p2, by omega, hp2, ?_⟩
    have e : ((a.toNat : Nat) : Int) = a := Int.toNat_of_nonneg a0
    rw [e]
    simp [ev_mVar, ev_mD, ev_mV, ev_mNil, ev_mYes, kP_ok, kP_exc, kP_bad, kB_ok, kB_exc, kB_bad, kC2_ok, kC2_exc, kC2_bad, kC1_ok, kC1_exc, kC1_bad, ev_mCons, kOp_ok, kOp_exc, kOp_bad, ev_mOpN, ev_m2, ev_m1, kSh_ok, kSh_exc, kSh_bad, ev_mSh, kD2_some, kD2_none, kD1_some, kD1_none, ev_fD, kT2_some, kT2_none, kTst_ok, kTst_exc, kTst_bad, ev_mTst, boolT_b, kTb_ok, kTb_exc, kTb_bad, ev_mTb, kAnd_t, kAnd_f, kAnd_exc, kAnd_bad, ev_mAndB, kOr_f, kOr_t, kOr_exc, kOr_bad, ev_mOrB, kNot_ok, kNot_exc, kNot_bad, ev_mNotB, kNotV_ok, kNotV_exc, kNotV_bad, ev_mNotV, kAV2_t, kAV2_f, kAV2_n, kAV_ok, kAV_exc, kAV_bad, ev_mAndV, kOV2_f, kOV2_t, kOV2_n, kOV_ok, kOV_exc, kOV_bad, ev_mOrV, kIfE_t, kIfE_f, kIfE_exc, kIfE_bad, ev_mIfE, ev_mSkip, ev_mBrk, ev_mCnt, kSeq_nx, kSeq_rt, kSeq_bk, kSeq_ct, kSeq_exc, kSeq_bad, ev_mSeq, kIf_t, kIf_f, kIf_exc, kIf_bad, ev_mIf, kExpr_ok, kExpr_exc, kExpr_bad, ev_mExpr, kRet_tm, kRet_pl, kRet_exc, kRet_bad, ev_mRet, ev_mRetN, kAsg_tm, kAsg_exc, kAsg_bad, ev_mAsg, kG_ok, kG_bad, kAsgG_tm, kAsgG_exc, kAsgG_bad, ev_mAsgG, kPar_tm, kPar_exc, kPar_bad, ev_mPar, kFor_ok, kFor_exc, kFor_bad, ev_mFor, kI2_some, kI2_none, kIOp_ok, kIOp_exc, kIOp_bad, ev_mIOp, kSI_ok, kSI_exc, kSI_bad, ev_mSeqI, kL2_ok, kLc_ok, kLc_exc, kLc_bad, ev_mLc, ev_mTgN, ev_mGNil, kGs_ok, ev_mGCons, kTg_some, ev_mTgT, ev_mTgL, kS3_some, kS2_l, kS1_ok, ev_mTgS, kH4_some, kH3_some, kH2_ok, kH1_t, kH1_f, kH0_ok, kH_ok, kH_exc, kH_bad, ev_mCh, kInt_ok, ev_mInt, kStr2_ok, kStr_ok, kStr_exc, kStr_bad, ev_mStr, kLs2_ok, kLs_ok, kLs_exc, kLs_bad, ev_mLs, kA2_ok, kA2_exc, kA2_bad, kA1_ok, kA1_exc, kA1_bad, ev_mApp, kF3_some, kF4_some, kF2_ret, kF2_exc, kF1_some, ev_fCall, kK2_ret, kK2_exc, kK1_some, ev_fCallK, kRun_nx, kRun_rt, kRun_exc, kRun_bad, ev_runF, ev_mDct0, kDc2_some, kDc_ok, kDc_exc, kDc_bad, ev_mDct, fIx, fAdd, fMul, fDivmod, fList, fTuple, fLst, fTup, fLen, fIsi, fApp, fSl10, fSl01, fSl11, fSl00, fRng1, fRng2, fIsN, share, look, vw, vws, T.at, T.sub, T.put, T.putS, putT, T.fz, T.fzL, tru, itemAt, atI, ixN, shL, shT, allD, tms, lenT, tyT, tyNs, tyD, subT, tys, nonT, hEq, hNe, hLt, hLe, hGt, hGe, hCmp, hIn, hAbs, h2F, hMax2, hMin2, h2I, hSub, hMod, hDiv, hPow, hNeg, hInt1, hBls, hInts, blsD, intsD, strsD, hJoin, fSl1, seqD, wipable, wipeE, unwipe, outs, isL, keysT, keyD, moveOut, putBack, holes, noIo, isH, arrT, arrG, Op.deep, itemsT, itemsL, SeqAt.shaped, PyData.canLay0, PyData.canLayAll0, PyData.depth, PyData.depthAll, PyData.eqv, PyData.eqvAll, h11, h4]
  · exact ⟨1, p2, by decide, hp2, by simp [ev_mVar, ev_mD, ev_mV, ev_mNil, ev_mYes, kP_ok, kP_exc, kP_bad, kB_ok, kB_exc, kB_bad, kC2_ok, kC2_exc, kC2_bad, kC1_ok, kC1_exc, kC1_bad, ev_mCons, kOp_ok, kOp_exc, kOp_bad, ev_mOpN, ev_m2, ev_m1, kSh_ok, kSh_exc, kSh_bad, ev_mSh, kD2_some, kD2_none, kD1_some, kD1_none, ev_fD, kT2_some, kT2_none, kTst_ok, kTst_exc, kTst_bad, ev_mTst, boolT_b, kTb_ok, kTb_exc, kTb_bad, ev_mTb, kAnd_t, kAnd_f, kAnd_exc, kAnd_bad, ev_mAndB, kOr_f, kOr_t, kOr_exc, kOr_bad, ev_mOrB, kNot_ok, kNot_exc, kNot_bad, ev_mNotB, kNotV_ok, kNotV_exc, kNotV_bad, ev_mNotV, kAV2_t, kAV2_f, kAV2_n, kAV_ok, kAV_exc, kAV_bad, ev_mAndV, kOV2_f, kOV2_t, kOV2_n, kOV_ok, kOV_exc, kOV_bad, ev_mOrV, kIfE_t, kIfE_f, kIfE_exc, kIfE_bad, ev_mIfE, ev_mSkip, ev_mBrk, ev_mCnt, kSeq_nx, kSeq_rt, kSeq_bk, kSeq_ct, kSeq_exc, kSeq_bad, ev_mSeq, kIf_t, kIf_f, kIf_exc, kIf_bad, ev_mIf, kExpr_ok, kExpr_exc, kExpr_bad, ev_mExpr, kRet_tm, kRet_pl, kRet_exc, kRet_bad, ev_mRet, ev_mRetN, kAsg_tm, kAsg_exc, kAsg_bad, ev_mAsg, kG_ok, kG_bad, kAsgG_tm, kAsgG_exc, kAsgG_bad, ev_mAsgG, kPar_tm, kPar_exc, kPar_bad, ev_mPar, kFor_ok, kFor_exc, kFor_bad, ev_mFor, kI2_some, kI2_none, kIOp_ok, kIOp_exc, kIOp_bad, ev_mIOp, kSI_ok, kSI_exc, kSI_bad, ev_mSeqI, kL2_ok, kLc_ok, kLc_exc, kLc_bad, ev_mLc, ev_mTgN, ev_mGNil, kGs_ok, ev_mGCons, kTg_some, ev_mTgT, ev_mTgL, kS3_some, kS2_l, kS1_ok, ev_mTgS, kH4_some, kH3_some, kH2_ok, kH1_t, kH1_f, kH0_ok, kH_ok, kH_exc, kH_bad, ev_mCh, kInt_ok, ev_mInt, kStr2_ok, kStr_ok, kStr_exc, kStr_bad, ev_mStr, kLs2_ok, kLs_ok, kLs_exc, kLs_bad, ev_mLs, kA2_ok, kA2_exc, kA2_bad, kA1_ok, kA1_exc, kA1_bad, ev_mApp, kF3_some, kF4_some, kF2_ret, kF2_exc, kF1_some, ev_fCall, kK2_ret, kK2_exc, kK1_some, ev_fCallK, kRun_nx, kRun_rt, kRun_exc, kRun_bad, ev_runF, ev_mDct0, kDc2_some, kDc_ok, kDc_exc, kDc_bad, ev_mDct, fIx, fAdd, fMul, fDivmod, fList, fTuple, fLst, fTup, fLen, fIsi, fApp, fSl10, fSl01, fSl11, fSl00, fRng1, fRng2, fIsN, share, look, vw, vws, T.at, T.sub, T.put, T.putS, putT, T.fz, T.fzL, tru, itemAt, atI, ixN, shL, shT, allD, tms, lenT, tyT, tyNs, tyD, subT, tys, nonT, hEq, hNe, hLt, hLe, hGt, hGe, hCmp, hIn, hAbs, h2F, hMax2, hMin2, h2I, hSub, hMod, hDiv, hPow, hNeg, hInt1, hBls, hInts, blsD, intsD, strsD, hJoin, fSl1, seqD, wipable, wipeE, unwipe, outs, isL, keysT, keyD, moveOut, putBack, holes, noIo, isH, arrT, arrG, Op.deep, itemsT, itemsL, SeqAt.shaped, PyData.canLay0, PyData.canLayAll0, PyData.depth, PyData.depthAll, PyData.eqv, PyData.eqvAll, h11, h4]⟩
  · exact ⟨8, p2, by decide, hp2, by simp [ev_mVar, ev_mD, ev_mV, ev_mNil, ev_mYes, kP_ok, kP_exc, kP_bad, kB_ok, kB_exc, kB_bad, kC2_ok, kC2_exc, kC2_bad, kC1_ok, kC1_exc, kC1_bad, ev_mCons, kOp_ok, kOp_exc, kOp_bad, ev_mOpN, ev_m2, ev_m1, kSh_ok, kSh_exc, kSh_bad, ev_mSh, kD2_some, kD2_none, kD1_some, kD1_none, ev_fD, kT2_some, kT2_none, kTst_ok, kTst_exc, kTst_bad, ev_mTst, boolT_b, kTb_ok, kTb_exc, kTb_bad, ev_mTb, kAnd_t, kAnd_f, kAnd_exc, kAnd_bad, ev_mAndB, kOr_f, kOr_t, kOr_exc, kOr_bad, ev_mOrB, kNot_ok, kNot_exc, kNot_bad, ev_mNotB, kNotV_ok, kNotV_exc, kNotV_bad, ev_mNotV, kAV2_t, kAV2_f, kAV2_n, kAV_ok, kAV_exc, kAV_bad, ev_mAndV, kOV2_f, kOV2_t, kOV2_n, kOV_ok, kOV_exc, kOV_bad, ev_mOrV, kIfE_t, kIfE_f, kIfE_exc, kIfE_bad, ev_mIfE, ev_mSkip, ev_mBrk, ev_mCnt, kSeq_nx, kSeq_rt, kSeq_bk, kSeq_ct, kSeq_exc, kSeq_bad, ev_mSeq, kIf_t, kIf_f, kIf_exc, kIf_bad, ev_mIf, kExpr_ok, kExpr_exc, kExpr_bad, ev_mExpr, kRet_tm, kRet_pl, kRet_exc, kRet_bad, ev_mRet, ev_mRetN, kAsg_tm, kAsg_exc, kAsg_bad, ev_mAsg, kG_ok, kG_bad, kAsgG_tm, kAsgG_exc, kAsgG_bad, ev_mAsgG, kPar_tm, kPar_exc, kPar_bad, ev_mPar, kFor_ok, kFor_exc, kFor_bad, ev_mFor, kI2_some, kI2_none, kIOp_ok, kIOp_exc, kIOp_bad, ev_mIOp, kSI_ok, kSI_exc, kSI_bad, ev_mSeqI, kL2_ok, kLc_ok, kLc_exc, kLc_bad, ev_mLc, ev_mTgN, ev_mGNil, kGs_ok, ev_mGCons, kTg_some, ev_mTgT, ev_mTgL, kS3_some, kS2_l, kS1_ok, ev_mTgS, kH4_some, kH3_some, kH2_ok, kH1_t, kH1_f, kH0_ok, kH_ok, kH_exc, kH_bad, ev_mCh, kInt_ok, ev_mInt, kStr2_ok, kStr_ok, kStr_exc, kStr_bad, ev_mStr, kLs2_ok, kLs_ok, kLs_exc, kLs_bad, ev_mLs, kA2_ok, kA2_exc, kA2_bad, kA1_ok, kA1_exc, kA1_bad, ev_mApp, kF3_some, kF4_some, kF2_ret, kF2_exc, kF1_some, ev_fCall, kK2_ret, kK2_exc, kK1_some, ev_fCallK, kRun_nx, kRun_rt, kRun_exc, kRun_bad, ev_runF, ev_mDct0, kDc2_some, kDc_ok, kDc_exc, kDc_bad, ev_mDct, fIx, fAdd, fMul, fDivmod, fList, fTuple, fLst, fTup, fLen, fIsi, fApp, fSl10, fSl01, fSl11, fSl00, fRng1, fRng2, fIsN, share, look, vw, vws, T.at, T.sub, T.put, T.putS, putT, T.fz, T.fzL, tru, itemAt, atI, ixN, shL, shT, allD, tms, lenT, tyT, tyNs, tyD, subT, tys, nonT, hEq, hNe, hLt, hLe, hGt, hGe, hCmp, hIn, hAbs, h2F, hMax2, hMin2, h2I, hSub, hMod, hDiv, hPow, hNeg, hInt1, hBls, hInts, blsD, intsD, strsD, hJoin, fSl1, seqD, wipable, wipeE, unwipe, outs, isL, keysT, keyD, moveOut, putBack, holes, noIo, isH, arrT, arrG, Op.deep, itemsT, itemsL, SeqAt.shaped, PyData.canLay0, PyData.canLayAll0, PyData.depth, PyData.depthAll, PyData.eqv, PyData.eqvAll, h11, h4]⟩
  · exact ⟨9, p2, by decide, hp2, by simp [ev_mVar, ev_mD, ev_mV, ev_mNil, ev_mYes, kP_ok, kP_exc, kP_bad, kB_ok, kB_exc, kB_bad, kC2_ok, kC2_exc, kC2_bad, kC1_ok, kC1_exc, kC1_bad, ev_mCons, kOp_ok, kOp_exc, kOp_bad, ev_mOpN, ev_m2, ev_m1, kSh_ok, kSh_exc, kSh_bad, ev_mSh, kD2_some, kD2_none, kD1_some, kD1_none, ev_fD, kT2_some, kT2_none, kTst_ok, kTst_exc, kTst_bad, ev_mTst, boolT_b, kTb_ok, kTb_exc, kTb_bad, ev_mTb, kAnd_t, kAnd_f, kAnd_exc, kAnd_bad, ev_mAndB, kOr_f, kOr_t, kOr_exc, kOr_bad, ev_mOrB, kNot_ok, kNot_exc, kNot_bad, ev_mNotB, kNotV_ok, kNotV_exc, kNotV_bad, ev_mNotV, kAV2_t, kAV2_f, kAV2_n, kAV_ok, kAV_exc, kAV_bad, ev_mAndV, kOV2_f, kOV2_t, kOV2_n, kOV_ok, kOV_exc, kOV_bad, ev_mOrV, kIfE_t, kIfE_f, kIfE_exc, kIfE_bad, ev_mIfE, ev_mSkip, ev_mBrk, ev_mCnt, kSeq_nx, kSeq_rt, kSeq_bk, kSeq_ct, kSeq_exc, kSeq_bad, ev_mSeq, kIf_t, kIf_f, kIf_exc, kIf_bad, ev_mIf, kExpr_ok, kExpr_exc, kExpr_bad, ev_mExpr, kRet_tm, kRet_pl, kRet_exc, kRet_bad, ev_mRet, ev_mRetN, kAsg_tm, kAsg_exc, kAsg_bad, ev_mAsg, kG_ok, kG_bad, kAsgG_tm, kAsgG_exc, kAsgG_bad, ev_mAsgG, kPar_tm, kPar_exc, kPar_bad, ev_mPar, kFor_ok, kFor_exc, kFor_bad, ev_mFor, kI2_some, kI2_none, kIOp_ok, kIOp_exc, kIOp_bad, ev_mIOp, kSI_ok, kSI_exc, kSI_bad, ev_mSeqI, kL2_ok, kLc_ok, kLc_exc, kLc_bad, ev_mLc, ev_mTgN, ev_mGNil, kGs_ok, ev_mGCons, kTg_some, ev_mTgT, ev_mTgL, kS3_some, kS2_l, kS1_ok, ev_mTgS, kH4_some, kH3_some, kH2_ok, kH1_t, kH1_f, kH0_ok, kH_ok, kH_exc, kH_bad, ev_mCh, kInt_ok, ev_mInt, kStr2_ok, kStr_ok, kStr_exc, kStr_bad, ev_mStr, kLs2_ok, kLs_ok, kLs_exc, kLs_bad, ev_mLs, kA2_ok, kA2_exc, kA2_bad, kA1_ok, kA1_exc, kA1_bad, ev_mApp, kF3_some, kF4_some, kF2_ret, kF2_exc, kF1_some, ev_fCall, kK2_ret, kK2_exc, kK1_some, ev_fCallK, kRun_nx, kRun_rt, kRun_exc, kRun_bad, ev_runF, ev_mDct0, kDc2_some, kDc_ok, kDc_exc, kDc_bad, ev_mDct, fIx, fAdd, fMul, fDivmod, fList, fTuple, fLst, fTup, fLen, fIsi, fApp, fSl10, fSl01, fSl11, fSl00, fRng1, fRng2, fIsN, share, look, vw, vws, T.at, T.sub, T.put, T.putS, putT, T.fz, T.fzL, tru, itemAt, atI, ixN, shL, shT, allD, tms, lenT, tyT, tyNs, tyD, subT, tys, nonT, hEq, hNe, hLt, hLe, hGt, hGe, hCmp, hIn, hAbs, h2F, hMax2, hMin2, h2I, hSub, hMod, hDiv, hPow, hNeg, hInt1, hBls, hInts, blsD, intsD, strsD, hJoin, fSl1, seqD, wipable, wipeE, unwipe, outs, isL, keysT, keyD, moveOut, putBack, holes, noIo, isH, arrT, arrG, Op.deep, itemsT, itemsL, SeqAt.shaped, PyData.canLay0, PyData.canLayAll0, PyData.depth, PyData.depthAll, PyData.eqv, PyData.eqvAll, h11, h4]⟩
theorem th_word {p : Int × Int} {n : Nat} (hn : n ≤ 10) (hp : Ok p) : ∃ (z : Str) (p' : Int × Int), Gs 10 z ∧ Ok p' ∧ z__law_thing_2 [some (P p), some Lt, some (.d (.int (n : Nat))), none, none, none, none, none] = .ok .nx [some (P p'), some Lt, some (.d (.int (n : Nat))), some (.d (.str z)), none, none, none, none] true := by
  have hc := lc_inv (vs := [7]) (mg := g__law_thing_0) (mt := mYes) (me := e__law_thing_0) (ρ0 := [some (P p), some Lt, some (.d (.int (n : Nat))), none, none, none, none, none]) (ds := rangeL 0 (n : Int))
    (fun i acc ρ => ∃ (q : Int × Int) (ys : List Str), Ok q ∧ ys.length = i ∧ (∀ y ∈ ys, Gs 1 y) ∧ acc = ys.map (fun y => T.d (.str y)) ∧ ρ = [some (P q), some Lt, some (.d (.int (n : Nat))), none, none, none, none, none])
    ⟨p, [], hp, rfl, (fun _ z => nomatch z), rfl, rfl⟩ (by simp [rangeL]; omega) (fun i acc ρ ⟨q, ys, _, h, _, e, _⟩ => by rw [e, List.length_map]; omega) (fun i acc ρ d hd ⟨q, ys, hq, hy, hg, ea, er⟩ => by
      subst er
      have h26 := e_digit (n := 26) hq (by decide) (by decide)
      obtain ⟨v0, v1⟩ := dg_ok (p := q) (n := 26) (by decide)
      have hq1 := ps_ok (n := 26) hq
      generalize dg q 26 = v at *
      generalize ps q 26 = q1 at *
      obtain ⟨c, hc1, hc2⟩ := at_sign (z := ("abcdefghijklmnopqrstuvwxyz" : Str)) v0 (by rw [lt_len]; exact v1)
      have he : e__law_thing_0 [some (P q), some Lt, some (.d (.int (n : Nat))), none, none, none, none, some (.d d)] = .ok (.tm (.d (.str ⟨#[c]⟩))) [some (P q1), some Lt, some (.d (.int (n : Nat))), none, none, none, none, some (.d d)] false := by
        have hz : ("abcdefghijklmnopqrstuvwxyz" : Str).length ≤ sizeLine := by rw [lt_len]; decide
        unfold e__law_thing_0
        simp [ev_mVar, ev_mD, ev_mV, ev_mNil, ev_mYes, kP_ok, kP_exc, kP_bad, kB_ok, kB_exc, kB_bad, kC2_ok, kC2_exc, kC2_bad, kC1_ok, kC1_exc, kC1_bad, ev_mCons, kOp_ok, kOp_exc, kOp_bad, ev_mOpN, ev_m2, ev_m1, kSh_ok, kSh_exc, kSh_bad, ev_mSh, kD2_some, kD2_none, kD1_some, kD1_none, ev_fD, kT2_some, kT2_none, kTst_ok, kTst_exc, kTst_bad, ev_mTst, boolT_b, kTb_ok, kTb_exc, kTb_bad, ev_mTb, kAnd_t, kAnd_f, kAnd_exc, kAnd_bad, ev_mAndB, kOr_f, kOr_t, kOr_exc, kOr_bad, ev_mOrB, kNot_ok, kNot_exc, kNot_bad, ev_mNotB, kNotV_ok, kNotV_exc, kNotV_bad, ev_mNotV, kAV2_t, kAV2_f, kAV2_n, kAV_ok, kAV_exc, kAV_bad, ev_mAndV, kOV2_f, kOV2_t, kOV2_n, kOV_ok, kOV_exc, kOV_bad, ev_mOrV, kIfE_t, kIfE_f, kIfE_exc, kIfE_bad, ev_mIfE, ev_mSkip, ev_mBrk, ev_mCnt, kSeq_nx, kSeq_rt, kSeq_bk, kSeq_ct, kSeq_exc, kSeq_bad, ev_mSeq, kIf_t, kIf_f, kIf_exc, kIf_bad, ev_mIf, kExpr_ok, kExpr_exc, kExpr_bad, ev_mExpr, kRet_tm, kRet_pl, kRet_exc, kRet_bad, ev_mRet, ev_mRetN, kAsg_tm, kAsg_exc, kAsg_bad, ev_mAsg, kG_ok, kG_bad, kAsgG_tm, kAsgG_exc, kAsgG_bad, ev_mAsgG, kPar_tm, kPar_exc, kPar_bad, ev_mPar, kFor_ok, kFor_exc, kFor_bad, ev_mFor, kI2_some, kI2_none, kIOp_ok, kIOp_exc, kIOp_bad, ev_mIOp, kSI_ok, kSI_exc, kSI_bad, ev_mSeqI, kL2_ok, kLc_ok, kLc_exc, kLc_bad, ev_mLc, ev_mTgN, ev_mGNil, kGs_ok, ev_mGCons, kTg_some, ev_mTgT, ev_mTgL, kS3_some, kS2_l, kS1_ok, ev_mTgS, kH4_some, kH3_some, kH2_ok, kH1_t, kH1_f, kH0_ok, kH_ok, kH_exc, kH_bad, ev_mCh, kInt_ok, ev_mInt, kStr2_ok, kStr_ok, kStr_exc, kStr_bad, ev_mStr, kLs2_ok, kLs_ok, kLs_exc, kLs_bad, ev_mLs, kA2_ok, kA2_exc, kA2_bad, kA1_ok, kA1_exc, kA1_bad, ev_mApp, kF3_some, kF4_some, kF2_ret, kF2_exc, kF1_some, ev_fCall, kK2_ret, kK2_exc, kK1_some, ev_fCallK, kRun_nx, kRun_rt, kRun_exc, kRun_bad, ev_runF, ev_mDct0, kDc2_some, kDc_ok, kDc_exc, kDc_bad, ev_mDct, fIx, fAdd, fMul, fDivmod, fList, fTuple, fLst, fTup, fLen, fIsi, fApp, fSl10, fSl01, fSl11, fSl00, fRng1, fRng2, fIsN, share, look, vw, vws, T.at, T.sub, T.put, T.putS, putT, T.fz, T.fzL, tru, itemAt, ixN, shL, shT, allD, tms, lenT, tyT, tyNs, tyD, subT, tys, nonT, hEq, hNe, hLt, hLe, hGt, hGe, hCmp, hIn, hAbs, h2F, hMax2, hMin2, h2I, hSub, hMod, hDiv, hPow, hNeg, hInt1, hBls, hInts, blsD, intsD, strsD, hJoin, fSl1, seqD, wipable, wipeE, unwipe, outs, isL, keysT, keyD, moveOut, putBack, holes, noIo, isH, arrT, arrG, Op.deep, itemsT, itemsL, SeqAt.shaped, PyData.canLay0, PyData.canLayAll0, PyData.depth, PyData.depthAll, PyData.eqv, PyData.eqvAll, h26, hz, hc2]
      exact ⟨_, _, rfl, .inl ⟨_, _, _, _, _, rfl, he, q1, ys ++ [⟨#[c]⟩], hq1, by simp [hy], fun y hy => by
        rcases List.mem_append.mp hy with h | h
        · exact hg y h
        · have e : y = ⟨#[c]⟩ := by simpa using h
          rw [e]
          exact Gs.one (lt_good.2 c hc1), by simp [ea], rfl⟩⟩)
  obtain ⟨ts, ρ', p', h1, q, ys, hq, hy, hg, rfl, rfl⟩ := hc
  have hl : ys.length = n := by rw [hy]; simp [rangeL]
  refine ⟨Str.join ("" : Str) ys, q, (Gs.join hg).mono (by omega), hq, ?_⟩
  have hs := sum_le hg
  have hj : hJoin [.str ("" : Str), .list (ys.map fun y => .str y)] = some (.str (Str.join ("" : Str) ys)) := by
    have e0 : ("" : Str).length = 0 := rfl
    unfold hJoin
    dsimp only
    have e1 := strsD_fn (fun y : Str => y) ys
    rw [e1, List.map_id']
    dsimp only
    rw [if_pos (by rw [e0]; omega), TL.join_eq]
  have hw : (n : Int) < 4611686018427387904 := by omega
  have hw2 : (-4611686018427387904 : Int) ≤ n := by omega
  have hf := fzL_fn (fun y : Str => PyData.str y) ys
  unfold z__law_thing_2
  simp [ev_mVar, ev_mD, ev_mV, ev_mNil, ev_mYes, kP_ok, kP_exc, kP_bad, kB_ok, kB_exc, kB_bad, kC2_ok, kC2_exc, kC2_bad, kC1_ok, kC1_exc, kC1_bad, ev_mCons, kOp_ok, kOp_exc, kOp_bad, ev_mOpN, ev_m2, ev_m1, kSh_ok, kSh_exc, kSh_bad, ev_mSh, kD2_some, kD2_none, kD1_some, kD1_none, ev_fD, kT2_some, kT2_none, kTst_ok, kTst_exc, kTst_bad, ev_mTst, boolT_b, kTb_ok, kTb_exc, kTb_bad, ev_mTb, kAnd_t, kAnd_f, kAnd_exc, kAnd_bad, ev_mAndB, kOr_f, kOr_t, kOr_exc, kOr_bad, ev_mOrB, kNot_ok, kNot_exc, kNot_bad, ev_mNotB, kNotV_ok, kNotV_exc, kNotV_bad, ev_mNotV, kAV2_t, kAV2_f, kAV2_n, kAV_ok, kAV_exc, kAV_bad, ev_mAndV, kOV2_f, kOV2_t, kOV2_n, kOV_ok, kOV_exc, kOV_bad, ev_mOrV, kIfE_t, kIfE_f, kIfE_exc, kIfE_bad, ev_mIfE, ev_mSkip, ev_mBrk, ev_mCnt, kSeq_nx, kSeq_rt, kSeq_bk, kSeq_ct, kSeq_exc, kSeq_bad, ev_mSeq, kIf_t, kIf_f, kIf_exc, kIf_bad, ev_mIf, kExpr_ok, kExpr_exc, kExpr_bad, ev_mExpr, kRet_tm, kRet_pl, kRet_exc, kRet_bad, ev_mRet, ev_mRetN, kAsg_tm, kAsg_exc, kAsg_bad, ev_mAsg, kG_ok, kG_bad, kAsgG_tm, kAsgG_exc, kAsgG_bad, ev_mAsgG, kPar_tm, kPar_exc, kPar_bad, ev_mPar, kFor_ok, kFor_exc, kFor_bad, ev_mFor, kI2_some, kI2_none, kIOp_ok, kIOp_exc, kIOp_bad, ev_mIOp, kSI_ok, kSI_exc, kSI_bad, ev_mSeqI, kL2_ok, kLc_ok, kLc_exc, kLc_bad, ev_mLc, ev_mTgN, ev_mGNil, kGs_ok, ev_mGCons, kTg_some, ev_mTgT, ev_mTgL, kS3_some, kS2_l, kS1_ok, ev_mTgS, kH4_some, kH3_some, kH2_ok, kH1_t, kH1_f, kH0_ok, kH_ok, kH_exc, kH_bad, ev_mCh, kInt_ok, ev_mInt, kStr2_ok, kStr_ok, kStr_exc, kStr_bad, ev_mStr, kLs2_ok, kLs_ok, kLs_exc, kLs_bad, ev_mLs, kA2_ok, kA2_exc, kA2_bad, kA1_ok, kA1_exc, kA1_bad, ev_mApp, kF3_some, kF4_some, kF2_ret, kF2_exc, kF1_some, ev_fCall, kK2_ret, kK2_exc, kK1_some, ev_fCallK, kRun_nx, kRun_rt, kRun_exc, kRun_bad, ev_runF, ev_mDct0, kDc2_some, kDc_ok, kDc_exc, kDc_bad, ev_mDct, fIx, fAdd, fMul, fDivmod, fList, fTuple, fLst, fTup, fLen, fIsi, fApp, fSl10, fSl01, fSl11, fSl00, fRng1, fRng2, fIsN, share, look, vw, vws, T.at, T.sub, T.put, T.putS, putT, T.fz, T.fzL, tru, itemAt, ixN, shL, shT, allD, tms, lenT, tyT, tyNs, tyD, subT, tys, nonT, hEq, hNe, hLt, hLe, hGt, hGe, hCmp, hIn, hAbs, h2F, hMax2, hMin2, h2I, hSub, hMod, hDiv, hPow, hNeg, hInt1, hBls, hInts, blsD, intsD, strsD, fSl1, seqD, wipable, wipeE, unwipe, outs, isL, keysT, keyD, moveOut, putBack, holes, noIo, isH, arrT, arrG, Op.deep, itemsT, itemsL, SeqAt.shaped, PyData.canLay0, PyData.canLayAll0, PyData.depth, PyData.depthAll, PyData.eqv, PyData.eqvAll, q__law_thing_0, hw, hw2, h1, hf, hj]
def pickL (z : Str) (i : Int) : List PyData := [.none, .bool true, .bool false, .int 0, .int (-1), .int i, .list [], .tuple [], .dict [], .list [.str z], .tuple [.str z], .dict [(.str z, .int 1)], .tuple [.str ("a" : Str), .str ("b" : Str)]]
theorem pick_thing {z : Str} {i : Int} (hz : Gs 10 z) (hi : i.natAbs ≤ 10 ^ 40) {x : PyData} (h : x ∈ pickL z i) : Thing x := by
  have hf := hz.fine
  have hl := hz.1
  have hlog : i.natAbs.log2 < 140 := log2_lt_of (by decide) (Nat.lt_of_le_of_lt hi (by decide))
  simp only [pickL, List.mem_cons, List.not_mem_nil, or_false] at h
  have fz : fine (.int i) = true := by simp only [fine]; exact decide_eq_true (by omega)
  rcases h with rfl | rfl | rfl | rfl | rfl | rfl | rfl | rfl | rfl | rfl | rfl | rfl | rfl
  · exact ⟨rfl, by decide, by decide, fun _ e => nomatch e⟩
  · exact ⟨rfl, by decide, by decide, fun _ e => nomatch e⟩
  · exact ⟨rfl, by decide, by decide, fun _ e => nomatch e⟩
  · exact ⟨by decide, by decide, by decide, fun _ e => nomatch e⟩
  · exact ⟨by decide, by decide, by decide, fun _ e => nomatch e⟩
  · exact ⟨fz, by simp only [big]; omega, by simp [PyData.depth], fun _ e => nomatch e⟩
  · exact ⟨by decide, by decide, by decide, fun _ e => nomatch e⟩
  · exact ⟨by decide, by decide, by decide, fun _ e => nomatch e⟩
  · exact ⟨by decide, by decide, by decide, fun _ e => nomatch e⟩
  · exact ⟨by rw [show fine (.list [.str z]) = (fine (.str z) && true) by simp only [fine, fineAll], hf]; rfl, by simp only [big, bigAll]; omega, by simp [PyData.depth, PyData.depthAll], fun _ e => nomatch e⟩
  · exact ⟨by rw [show fine (.tuple [.str z]) = (fine (.str z) && true) by simp only [fine, fineAll], hf]; rfl, by simp only [big, bigAll]; omega, by simp [PyData.depth, PyData.depthAll], fun _ e => nomatch e⟩
  · refine ⟨?_, ?_, by simp [PyData.depth, PyData.depthKv], fun _ e => nomatch e⟩
    · rw [show fine (.dict [(.str z, .int 1)]) = (fine (.str z) && fine (.int 1) && true) by simp only [fine, fineKv], hf, show fine (.int 1) = true by decide]
      rfl
    · have h1 : big (.int 1) = 2 := by decide
      simp only [big, bigKv]
      have : (1 : Int).natAbs.log2 = 0 := by decide
      omega
  · exact ⟨by decide, by decide, by decide, fun _ e => nomatch e⟩
theorem th_thing {p : Int × Int} (hp : Ok p) : ∃ (x : PyData) (p' : Int × Int), Ok p' ∧ Thing x ∧ m__law_thing [P p] = .ret (.d x) [some (P p')] := by
  have g0 : z__law_thing_0 [some (P p), none, none, none, none, none, none, none] = .ok .nx [some (P p), some Lt, none, none, none, none, none, none] true := by
    unfold z__law_thing_0
    simp [ev_mVar, ev_mD, ev_mV, ev_mNil, ev_mYes, kP_ok, kP_exc, kP_bad, kB_ok, kB_exc, kB_bad, kC2_ok, kC2_exc, kC2_bad, kC1_ok, kC1_exc, kC1_bad, ev_mCons, kOp_ok, kOp_exc, kOp_bad, ev_mOpN, ev_m2, ev_m1, kSh_ok, kSh_exc, kSh_bad, ev_mSh, kD2_some, kD2_none, kD1_some, kD1_none, ev_fD, kT2_some, kT2_none, kTst_ok, kTst_exc, kTst_bad, ev_mTst, boolT_b, kTb_ok, kTb_exc, kTb_bad, ev_mTb, kAnd_t, kAnd_f, kAnd_exc, kAnd_bad, ev_mAndB, kOr_f, kOr_t, kOr_exc, kOr_bad, ev_mOrB, kNot_ok, kNot_exc, kNot_bad, ev_mNotB, kNotV_ok, kNotV_exc, kNotV_bad, ev_mNotV, kAV2_t, kAV2_f, kAV2_n, kAV_ok, kAV_exc, kAV_bad, ev_mAndV, kOV2_f, kOV2_t, kOV2_n, kOV_ok, kOV_exc, kOV_bad, ev_mOrV, kIfE_t, kIfE_f, kIfE_exc, kIfE_bad, ev_mIfE, ev_mSkip, ev_mBrk, ev_mCnt, kSeq_nx, kSeq_rt, kSeq_bk, kSeq_ct, kSeq_exc, kSeq_bad, ev_mSeq, kIf_t, kIf_f, kIf_exc, kIf_bad, ev_mIf, kExpr_ok, kExpr_exc, kExpr_bad, ev_mExpr, kRet_tm, kRet_pl, kRet_exc, kRet_bad, ev_mRet, ev_mRetN, kAsg_tm, kAsg_exc, kAsg_bad, ev_mAsg, kG_ok, kG_bad, kAsgG_tm, kAsgG_exc, kAsgG_bad, ev_mAsgG, kPar_tm, kPar_exc, kPar_bad, ev_mPar, kFor_ok, kFor_exc, kFor_bad, ev_mFor, kI2_some, kI2_none, kIOp_ok, kIOp_exc, kIOp_bad, ev_mIOp, kSI_ok, kSI_exc, kSI_bad, ev_mSeqI, kL2_ok, kLc_ok, kLc_exc, kLc_bad, ev_mLc, ev_mTgN, ev_mGNil, kGs_ok, ev_mGCons, kTg_some, ev_mTgT, ev_mTgL, kS3_some, kS2_l, kS1_ok, ev_mTgS, kH4_some, kH3_some, kH2_ok, kH1_t, kH1_f, kH0_ok, kH_ok, kH_exc, kH_bad, ev_mCh, kInt_ok, ev_mInt, kStr2_ok, kStr_ok, kStr_exc, kStr_bad, ev_mStr, kLs2_ok, kLs_ok, kLs_exc, kLs_bad, ev_mLs, kA2_ok, kA2_exc, kA2_bad, kA1_ok, kA1_exc, kA1_bad, ev_mApp, kF3_some, kF4_some, kF2_ret, kF2_exc, kF1_some, ev_fCall, kK2_ret, kK2_exc, kK1_some, ev_fCallK, kRun_nx, kRun_rt, kRun_exc, kRun_bad, ev_runF, ev_mDct0, kDc2_some, kDc_ok, kDc_exc, kDc_bad, ev_mDct, fIx, fAdd, fMul, fDivmod, fList, fTuple, fLst, fTup, fLen, fIsi, fApp, fSl10, fSl01, fSl11, fSl00, fRng1, fRng2, fIsN, share, look, vw, vws, T.at, T.sub, T.put, T.putS, putT, T.fz, T.fzL, tru, itemAt, atI, ixN, shL, shT, allD, tms, lenT, tyT, tyNs, tyD, subT, tys, nonT, hEq, hNe, hLt, hLe, hGt, hGe, hCmp, hIn, hAbs, h2F, hMax2, hMin2, h2I, hSub, hMod, hDiv, hPow, hNeg, hInt1, hBls, hInts, blsD, intsD, strsD, hJoin, fSl1, seqD, wipable, wipeE, unwipe, outs, isL, keysT, keyD, moveOut, putBack, holes, noIo, isH, arrT, arrG, Op.deep, itemsT, itemsL, SeqAt.shaped, PyData.canLay0, PyData.canLayAll0, PyData.depth, PyData.depthAll, PyData.eqv, PyData.eqvAll]
  obtain ⟨n, p1, hn, hp1, g1⟩ := th_size hp
  obtain ⟨z, p2, hz, hp2, g2⟩ := th_word hn hp1
  have h5 := e_digit (n := 5) hp2 (by decide) (by decide)
  obtain ⟨w0, w1⟩ := dg_ok (p := p2) (n := 5) (by decide)
  have hp3 := ps_ok (n := 5) hp2
  generalize dg p2 5 = way at *
  generalize ps p2 5 = p3 at *
  have g3 : z__law_thing_3 [some (P p2), some Lt, some (.d (.int (n : Nat))), some (.d (.str z)), none, none, none, none] = .ok .nx [some (P p3), some Lt, some (.d (.int (n : Nat))), some (.d (.str z)), some (.d (.int way)), none, none, none] true := by
    unfold z__law_thing_3
    simp [ev_mVar, ev_mD, ev_mV, ev_mNil, ev_mYes, kP_ok, kP_exc, kP_bad, kB_ok, kB_exc, kB_bad, kC2_ok, kC2_exc, kC2_bad, kC1_ok, kC1_exc, kC1_bad, ev_mCons, kOp_ok, kOp_exc, kOp_bad, ev_mOpN, ev_m2, ev_m1, kSh_ok, kSh_exc, kSh_bad, ev_mSh, kD2_some, kD2_none, kD1_some, kD1_none, ev_fD, kT2_some, kT2_none, kTst_ok, kTst_exc, kTst_bad, ev_mTst, boolT_b, kTb_ok, kTb_exc, kTb_bad, ev_mTb, kAnd_t, kAnd_f, kAnd_exc, kAnd_bad, ev_mAndB, kOr_f, kOr_t, kOr_exc, kOr_bad, ev_mOrB, kNot_ok, kNot_exc, kNot_bad, ev_mNotB, kNotV_ok, kNotV_exc, kNotV_bad, ev_mNotV, kAV2_t, kAV2_f, kAV2_n, kAV_ok, kAV_exc, kAV_bad, ev_mAndV, kOV2_f, kOV2_t, kOV2_n, kOV_ok, kOV_exc, kOV_bad, ev_mOrV, kIfE_t, kIfE_f, kIfE_exc, kIfE_bad, ev_mIfE, ev_mSkip, ev_mBrk, ev_mCnt, kSeq_nx, kSeq_rt, kSeq_bk, kSeq_ct, kSeq_exc, kSeq_bad, ev_mSeq, kIf_t, kIf_f, kIf_exc, kIf_bad, ev_mIf, kExpr_ok, kExpr_exc, kExpr_bad, ev_mExpr, kRet_tm, kRet_pl, kRet_exc, kRet_bad, ev_mRet, ev_mRetN, kAsg_tm, kAsg_exc, kAsg_bad, ev_mAsg, kG_ok, kG_bad, kAsgG_tm, kAsgG_exc, kAsgG_bad, ev_mAsgG, kPar_tm, kPar_exc, kPar_bad, ev_mPar, kFor_ok, kFor_exc, kFor_bad, ev_mFor, kI2_some, kI2_none, kIOp_ok, kIOp_exc, kIOp_bad, ev_mIOp, kSI_ok, kSI_exc, kSI_bad, ev_mSeqI, kL2_ok, kLc_ok, kLc_exc, kLc_bad, ev_mLc, ev_mTgN, ev_mGNil, kGs_ok, ev_mGCons, kTg_some, ev_mTgT, ev_mTgL, kS3_some, kS2_l, kS1_ok, ev_mTgS, kH4_some, kH3_some, kH2_ok, kH1_t, kH1_f, kH0_ok, kH_ok, kH_exc, kH_bad, ev_mCh, kInt_ok, ev_mInt, kStr2_ok, kStr_ok, kStr_exc, kStr_bad, ev_mStr, kLs2_ok, kLs_ok, kLs_exc, kLs_bad, ev_mLs, kA2_ok, kA2_exc, kA2_bad, kA1_ok, kA1_exc, kA1_bad, ev_mApp, kF3_some, kF4_some, kF2_ret, kF2_exc, kF1_some, ev_fCall, kK2_ret, kK2_exc, kK1_some, ev_fCallK, kRun_nx, kRun_rt, kRun_exc, kRun_bad, ev_runF, ev_mDct0, kDc2_some, kDc_ok, kDc_exc, kDc_bad, ev_mDct, fIx, fAdd, fMul, fDivmod, fList, fTuple, fLst, fTup, fLen, fIsi, fApp, fSl10, fSl01, fSl11, fSl00, fRng1, fRng2, fIsN, share, look, vw, vws, T.at, T.sub, T.put, T.putS, putT, T.fz, T.fzL, tru, itemAt, atI, ixN, shL, shT, allD, tms, lenT, tyT, tyNs, tyD, subT, tys, nonT, hEq, hNe, hLt, hLe, hGt, hGe, hCmp, hIn, hAbs, h2F, hMax2, hMin2, h2I, hSub, hMod, hDiv, hPow, hNeg, hInt1, hBls, hInts, blsD, intsD, strsD, hJoin, fSl1, seqD, wipable, wipeE, unwipe, outs, isL, keysT, keyD, moveOut, putBack, holes, noIo, isH, arrT, arrG, Op.deep, itemsT, itemsL, SeqAt.shaped, PyData.canLay0, PyData.canLayAll0, PyData.depth, PyData.depthAll, PyData.eqv, PyData.eqvAll, h5]
  have run : ∀ r, kSeq (mSeq z__law_thing_8 (mSeq z__law_thing_9 z__law_thing_10)) (z__law_thing_6 [some (P p3), some Lt, some (.d (.int (n : Nat))), some (.d (.str z)), some (.d (.int way)), none, none, none]) = r → m__law_thing [P p] = kRun [.io] r := by
    intro r hr
    show runF 8 [.io] (mSeq z__law_thing_0 (mSeq z__law_thing_1 (mSeq z__law_thing_2 (mSeq z__law_thing_3 (mSeq z__law_thing_6 (mSeq z__law_thing_8 (mSeq z__law_thing_9 z__law_thing_10))))))) _ = _
    rw [ev_runF]
    show kRun [.io] (mSeq z__law_thing_0 (mSeq z__law_thing_1 (mSeq z__law_thing_2 (mSeq z__law_thing_3 (mSeq z__law_thing_6 (mSeq z__law_thing_8 (mSeq z__law_thing_9 z__law_thing_10)))))) [some (P p), none, none, none, none, none, none, none]) = _
    rw [ev_mSeq, g0, kSeq_nx, ev_mSeq, g1, kSeq_nx, ev_mSeq, g2, kSeq_nx, ev_mSeq, g3, kSeq_nx, ev_mSeq, hr]
  by_cases hA : way < 2 ∧ z ≠ ("" : Str)
  · have hzl : 0 < z.length := Nat.pos_of_ne_zero fun h => hA.2 (by
      obtain ⟨c⟩ := z
      have e : c = #[] := Array.eq_empty_of_size_eq_zero h
      rw [e]
      rfl)
    have hz10 := hz.1
    have hzs : z.length ≤ sizeLine := le_size (by omega)
    have hL := e_digit (n := (z.length : Int)) hp3 (by omega) (Int.lt_of_le_of_lt (b := 10) (by omega) (by decide))
    obtain ⟨a0, a1⟩ := dg_ok (p := p3) (n := (z.length : Int)) (by omega)
    have hp4 := ps_ok (n := (z.length : Int)) hp3
    generalize dg p3 (z.length : Int) = at_ at *
    generalize ps p3 (z.length : Int) = p4 at *
    have h16 := e_digit (n := 16) hp4 (by decide) (by decide)
    obtain ⟨v0, v1⟩ := dg_ok (p := p4) (n := 16) (by decide)
    have hp5 := ps_ok (n := 16) hp4
    generalize dg p4 16 = v at *
    generalize ps p4 16 = p5 at *
    have ol : ("ABYZ09 _-`{~@.,\n" : Str).length = 16 := by decide
    have og : ∀ c ∈ ("ABYZ09 _-`{~@.,\n" : Str).cps.toList, c < 128 := by decide
    have os : ("ABYZ09 _-`{~@.,\n" : Str).length ≤ sizeLine := by rw [ol]; decide
    obtain ⟨c, hc1, hc2⟩ := at_sign (z := ("ABYZ09 _-`{~@.,\n" : Str)) v0 (by rw [ol]; exact v1)
    have k1 : Gs 10 (cutS z none (some at_)) := hz.cut
    have k2 : Gs 1 (⟨#[c]⟩ : Str) := Gs.one (og c hc1)
    have k3 : Gs 10 (cutS z (some (at_ + 1)) none) := hz.cut
    have k4 := k1.append k2
    have k5 := k4.append k3
    have s1 : (cutS z none (some at_)).length + (⟨#[c]⟩ : Str).length ≤ sizeLine := le_size (by have := k1.1; have := k2.1; omega)
    have s2 : (cutS z none (some at_) ++ (⟨#[c]⟩ : Str)).length + (cutS z (some (at_ + 1)) none).length ≤ sizeLine := le_size (by have := k4.1; have := k3.1; omega)
    have g4 : z__law_thing_4 [some (P p3), some Lt, some (.d (.int (n : Nat))), some (.d (.str z)), some (.d (.int way)), none, none, none] = .ok .nx [some (P p4), some Lt, some (.d (.int (n : Nat))), some (.d (.str z)), some (.d (.int way)), some (.d (.int at_)), none, none] true := by
      unfold z__law_thing_4
      simp [ev_mVar, ev_mD, ev_mV, ev_mNil, ev_mYes, kP_ok, kP_exc, kP_bad, kB_ok, kB_exc, kB_bad, kC2_ok, kC2_exc, kC2_bad, kC1_ok, kC1_exc, kC1_bad, ev_mCons, kOp_ok, kOp_exc, kOp_bad, ev_mOpN, ev_m2, ev_m1, kSh_ok, kSh_exc, kSh_bad, ev_mSh, kD2_some, kD2_none, kD1_some, kD1_none, ev_fD, kT2_some, kT2_none, kTst_ok, kTst_exc, kTst_bad, ev_mTst, boolT_b, kTb_ok, kTb_exc, kTb_bad, ev_mTb, kAnd_t, kAnd_f, kAnd_exc, kAnd_bad, ev_mAndB, kOr_f, kOr_t, kOr_exc, kOr_bad, ev_mOrB, kNot_ok, kNot_exc, kNot_bad, ev_mNotB, kNotV_ok, kNotV_exc, kNotV_bad, ev_mNotV, kAV2_t, kAV2_f, kAV2_n, kAV_ok, kAV_exc, kAV_bad, ev_mAndV, kOV2_f, kOV2_t, kOV2_n, kOV_ok, kOV_exc, kOV_bad, ev_mOrV, kIfE_t, kIfE_f, kIfE_exc, kIfE_bad, ev_mIfE, ev_mSkip, ev_mBrk, ev_mCnt, kSeq_nx, kSeq_rt, kSeq_bk, kSeq_ct, kSeq_exc, kSeq_bad, ev_mSeq, kIf_t, kIf_f, kIf_exc, kIf_bad, ev_mIf, kExpr_ok, kExpr_exc, kExpr_bad, ev_mExpr, kRet_tm, kRet_pl, kRet_exc, kRet_bad, ev_mRet, ev_mRetN, kAsg_tm, kAsg_exc, kAsg_bad, ev_mAsg, kG_ok, kG_bad, kAsgG_tm, kAsgG_exc, kAsgG_bad, ev_mAsgG, kPar_tm, kPar_exc, kPar_bad, ev_mPar, kFor_ok, kFor_exc, kFor_bad, ev_mFor, kI2_some, kI2_none, kIOp_ok, kIOp_exc, kIOp_bad, ev_mIOp, kSI_ok, kSI_exc, kSI_bad, ev_mSeqI, kL2_ok, kLc_ok, kLc_exc, kLc_bad, ev_mLc, ev_mTgN, ev_mGNil, kGs_ok, ev_mGCons, kTg_some, ev_mTgT, ev_mTgL, kS3_some, kS2_l, kS1_ok, ev_mTgS, kH4_some, kH3_some, kH2_ok, kH1_t, kH1_f, kH0_ok, kH_ok, kH_exc, kH_bad, ev_mCh, kInt_ok, ev_mInt, kStr2_ok, kStr_ok, kStr_exc, kStr_bad, ev_mStr, kLs2_ok, kLs_ok, kLs_exc, kLs_bad, ev_mLs, kA2_ok, kA2_exc, kA2_bad, kA1_ok, kA1_exc, kA1_bad, ev_mApp, kF3_some, kF4_some, kF2_ret, kF2_exc, kF1_some, ev_fCall, kK2_ret, kK2_exc, kK1_some, ev_fCallK, kRun_nx, kRun_rt, kRun_exc, kRun_bad, ev_runF, ev_mDct0, kDc2_some, kDc_ok, kDc_exc, kDc_bad, ev_mDct, fIx, fAdd, fMul, fDivmod, fList, fTuple, fLst, fTup, fLen, fIsi, fApp, fSl10, fSl01, fSl11, fSl00, fRng1, fRng2, fIsN, share, look, vw, vws, T.at, T.sub, T.put, T.putS, putT, T.fz, T.fzL, tru, itemAt, atI, ixN, shL, shT, allD, tms, lenT, tyT, tyNs, tyD, subT, tys, nonT, hEq, hNe, hLt, hLe, hGt, hGe, hCmp, hIn, hAbs, h2F, hMax2, hMin2, h2I, hSub, hMod, hDiv, hPow, hNeg, hInt1, hBls, hInts, blsD, intsD, strsD, hJoin, fSl1, seqD, wipable, wipeE, unwipe, outs, isL, keysT, keyD, moveOut, putBack, holes, noIo, isH, arrT, arrG, Op.deep, itemsT, itemsL, SeqAt.shaped, PyData.canLay0, PyData.canLayAll0, PyData.depth, PyData.depthAll, PyData.eqv, PyData.eqvAll, hzs, hL]
    have g5 : z__law_thing_5 [some (P p4), some Lt, some (.d (.int (n : Nat))), some (.d (.str z)), some (.d (.int way)), some (.d (.int at_)), none, none] = .ok (.rt (.d (.str (cutS z none (some at_) ++ (⟨#[c]⟩ : Str) ++ cutS z (some (at_ + 1)) none)))) [some (P p5), some Lt, some (.d (.int (n : Nat))), some (.d (.str z)), some (.d (.int way)), some (.d (.int at_)), none, none] true := by
      unfold z__law_thing_5
      simp [ev_mVar, ev_mD, ev_mV, ev_mNil, ev_mYes, kP_ok, kP_exc, kP_bad, kB_ok, kB_exc, kB_bad, kC2_ok, kC2_exc, kC2_bad, kC1_ok, kC1_exc, kC1_bad, ev_mCons, kOp_ok, kOp_exc, kOp_bad, ev_mOpN, ev_m2, ev_m1, kSh_ok, kSh_exc, kSh_bad, ev_mSh, kD2_some, kD2_none, kD1_some, kD1_none, ev_fD, kT2_some, kT2_none, kTst_ok, kTst_exc, kTst_bad, ev_mTst, boolT_b, kTb_ok, kTb_exc, kTb_bad, ev_mTb, kAnd_t, kAnd_f, kAnd_exc, kAnd_bad, ev_mAndB, kOr_f, kOr_t, kOr_exc, kOr_bad, ev_mOrB, kNot_ok, kNot_exc, kNot_bad, ev_mNotB, kNotV_ok, kNotV_exc, kNotV_bad, ev_mNotV, kAV2_t, kAV2_f, kAV2_n, kAV_ok, kAV_exc, kAV_bad, ev_mAndV, kOV2_f, kOV2_t, kOV2_n, kOV_ok, kOV_exc, kOV_bad, ev_mOrV, kIfE_t, kIfE_f, kIfE_exc, kIfE_bad, ev_mIfE, ev_mSkip, ev_mBrk, ev_mCnt, kSeq_nx, kSeq_rt, kSeq_bk, kSeq_ct, kSeq_exc, kSeq_bad, ev_mSeq, kIf_t, kIf_f, kIf_exc, kIf_bad, ev_mIf, kExpr_ok, kExpr_exc, kExpr_bad, ev_mExpr, kRet_tm, kRet_pl, kRet_exc, kRet_bad, ev_mRet, ev_mRetN, kAsg_tm, kAsg_exc, kAsg_bad, ev_mAsg, kG_ok, kG_bad, kAsgG_tm, kAsgG_exc, kAsgG_bad, ev_mAsgG, kPar_tm, kPar_exc, kPar_bad, ev_mPar, kFor_ok, kFor_exc, kFor_bad, ev_mFor, kI2_some, kI2_none, kIOp_ok, kIOp_exc, kIOp_bad, ev_mIOp, kSI_ok, kSI_exc, kSI_bad, ev_mSeqI, kL2_ok, kLc_ok, kLc_exc, kLc_bad, ev_mLc, ev_mTgN, ev_mGNil, kGs_ok, ev_mGCons, kTg_some, ev_mTgT, ev_mTgL, kS3_some, kS2_l, kS1_ok, ev_mTgS, kH4_some, kH3_some, kH2_ok, kH1_t, kH1_f, kH0_ok, kH_ok, kH_exc, kH_bad, ev_mCh, kInt_ok, ev_mInt, kStr2_ok, kStr_ok, kStr_exc, kStr_bad, ev_mStr, kLs2_ok, kLs_ok, kLs_exc, kLs_bad, ev_mLs, kA2_ok, kA2_exc, kA2_bad, kA1_ok, kA1_exc, kA1_bad, ev_mApp, kF3_some, kF4_some, kF2_ret, kF2_exc, kF1_some, ev_fCall, kK2_ret, kK2_exc, kK1_some, ev_fCallK, kRun_nx, kRun_rt, kRun_exc, kRun_bad, ev_runF, ev_mDct0, kDc2_some, kDc_ok, kDc_exc, kDc_bad, ev_mDct, fIx, fAdd, fMul, fDivmod, fList, fTuple, fLst, fTup, fLen, fIsi, fApp, fSl10, fSl01, fSl11, fSl00, fRng1, fRng2, fIsN, share, look, vw, vws, T.at, T.sub, T.put, T.putS, putT, T.fz, T.fzL, tru, itemAt, ixN, shL, shT, allD, tms, lenT, tyT, tyNs, tyD, subT, tys, nonT, hEq, hNe, hLt, hLe, hGt, hGe, hCmp, hIn, hAbs, h2F, hMax2, hMin2, h2I, hSub, hMod, hDiv, hPow, hNeg, hInt1, hBls, hInts, blsD, intsD, strsD, hJoin, fSl1, seqD, wipable, wipeE, unwipe, outs, isL, keysT, keyD, moveOut, putBack, holes, noIo, isH, arrT, arrG, Op.deep, itemsT, itemsL, SeqAt.shaped, PyData.canLay0, PyData.canLayAll0, PyData.depth, PyData.depthAll, PyData.eqv, PyData.eqvAll, hzs, h16, os, hc2, s1, s2]
    have hcond : mAndB (mTb (m2 (fD hLt) (mVar 4) (mD (.int 2)))) (mTb (m2 (fD hNe) (mVar 3) (mD (.str ("" : Str))))) [some (P p3), some Lt, some (.d (.int (n : Nat))), some (.d (.str z)), some (.d (.int way)), none, none, none] = .ok true [some (P p3), some Lt, some (.d (.int (n : Nat))), some (.d (.str z)), some (.d (.int way)), none, none, none] true := by
      simp [ev_mVar, ev_mD, ev_mV, ev_mNil, ev_mYes, kP_ok, kP_exc, kP_bad, kB_ok, kB_exc, kB_bad, kC2_ok, kC2_exc, kC2_bad, kC1_ok, kC1_exc, kC1_bad, ev_mCons, kOp_ok, kOp_exc, kOp_bad, ev_mOpN, ev_m2, ev_m1, kSh_ok, kSh_exc, kSh_bad, ev_mSh, kD2_some, kD2_none, kD1_some, kD1_none, ev_fD, kT2_some, kT2_none, kTst_ok, kTst_exc, kTst_bad, ev_mTst, boolT_b, kTb_ok, kTb_exc, kTb_bad, ev_mTb, kAnd_t, kAnd_f, kAnd_exc, kAnd_bad, ev_mAndB, kOr_f, kOr_t, kOr_exc, kOr_bad, ev_mOrB, kNot_ok, kNot_exc, kNot_bad, ev_mNotB, kNotV_ok, kNotV_exc, kNotV_bad, ev_mNotV, kAV2_t, kAV2_f, kAV2_n, kAV_ok, kAV_exc, kAV_bad, ev_mAndV, kOV2_f, kOV2_t, kOV2_n, kOV_ok, kOV_exc, kOV_bad, ev_mOrV, kIfE_t, kIfE_f, kIfE_exc, kIfE_bad, ev_mIfE, ev_mSkip, ev_mBrk, ev_mCnt, kSeq_nx, kSeq_rt, kSeq_bk, kSeq_ct, kSeq_exc, kSeq_bad, ev_mSeq, kIf_t, kIf_f, kIf_exc, kIf_bad, ev_mIf, kExpr_ok, kExpr_exc, kExpr_bad, ev_mExpr, kRet_tm, kRet_pl, kRet_exc, kRet_bad, ev_mRet, ev_mRetN, kAsg_tm, kAsg_exc, kAsg_bad, ev_mAsg, kG_ok, kG_bad, kAsgG_tm, kAsgG_exc, kAsgG_bad, ev_mAsgG, kPar_tm, kPar_exc, kPar_bad, ev_mPar, kFor_ok, kFor_exc, kFor_bad, ev_mFor, kI2_some, kI2_none, kIOp_ok, kIOp_exc, kIOp_bad, ev_mIOp, kSI_ok, kSI_exc, kSI_bad, ev_mSeqI, kL2_ok, kLc_ok, kLc_exc, kLc_bad, ev_mLc, ev_mTgN, ev_mGNil, kGs_ok, ev_mGCons, kTg_some, ev_mTgT, ev_mTgL, kS3_some, kS2_l, kS1_ok, ev_mTgS, kH4_some, kH3_some, kH2_ok, kH1_t, kH1_f, kH0_ok, kH_ok, kH_exc, kH_bad, ev_mCh, kInt_ok, ev_mInt, kStr2_ok, kStr_ok, kStr_exc, kStr_bad, ev_mStr, kLs2_ok, kLs_ok, kLs_exc, kLs_bad, ev_mLs, kA2_ok, kA2_exc, kA2_bad, kA1_ok, kA1_exc, kA1_bad, ev_mApp, kF3_some, kF4_some, kF2_ret, kF2_exc, kF1_some, ev_fCall, kK2_ret, kK2_exc, kK1_some, ev_fCallK, kRun_nx, kRun_rt, kRun_exc, kRun_bad, ev_runF, ev_mDct0, kDc2_some, kDc_ok, kDc_exc, kDc_bad, ev_mDct, fIx, fAdd, fMul, fDivmod, fList, fTuple, fLst, fTup, fLen, fIsi, fApp, fSl10, fSl01, fSl11, fSl00, fRng1, fRng2, fIsN, share, look, vw, vws, T.at, T.sub, T.put, T.putS, putT, T.fz, T.fzL, tru, itemAt, atI, ixN, shL, shT, allD, tms, lenT, tyT, tyNs, tyD, subT, tys, nonT, hEq, hNe, hLt, hLe, hGt, hGe, hCmp, hIn, hAbs, h2F, hMax2, hMin2, h2I, hSub, hMod, hDiv, hPow, hNeg, hInt1, hBls, hInts, blsD, intsD, strsD, hJoin, fSl1, seqD, wipable, wipeE, unwipe, outs, isL, keysT, keyD, moveOut, putBack, holes, noIo, isH, arrT, arrG, Op.deep, itemsT, itemsL, SeqAt.shaped, PyData.canLay0, PyData.canLayAll0, PyData.depth, PyData.depthAll, PyData.eqv, PyData.eqvAll, hA.1, hA.2]
    have g6 : z__law_thing_6 [some (P p3), some Lt, some (.d (.int (n : Nat))), some (.d (.str z)), some (.d (.int way)), none, none, none] = .ok (.rt (.d (.str (cutS z none (some at_) ++ (⟨#[c]⟩ : Str) ++ cutS z (some (at_ + 1)) none)))) [some (P p5), some Lt, some (.d (.int (n : Nat))), some (.d (.str z)), some (.d (.int way)), some (.d (.int at_)), none, none] true := by
      unfold z__law_thing_6
      rw [ev_mIf, hcond, kIf_t, ev_mSeq, g4, kSeq_nx, g5]
    refine ⟨_, p5, hp5, thing_str (k5.mono (by decide)), ?_⟩
    rw [run _ (by rw [g6, kSeq_rt]), kRun_rt]
    rfl
  · have g6 : z__law_thing_6 [some (P p3), some Lt, some (.d (.int (n : Nat))), some (.d (.str z)), some (.d (.int way)), none, none, none] = .ok .nx [some (P p3), some Lt, some (.d (.int (n : Nat))), some (.d (.str z)), some (.d (.int way)), none, none, none] true := by
      unfold z__law_thing_6
      by_cases h2 : way < 2
      · have he : z = ("" : Str) := Classical.byContradiction fun h => hA ⟨h2, h⟩
        simp [ev_mVar, ev_mD, ev_mV, ev_mNil, ev_mYes, kP_ok, kP_exc, kP_bad, kB_ok, kB_exc, kB_bad, kC2_ok, kC2_exc, kC2_bad, kC1_ok, kC1_exc, kC1_bad, ev_mCons, kOp_ok, kOp_exc, kOp_bad, ev_mOpN, ev_m2, ev_m1, kSh_ok, kSh_exc, kSh_bad, ev_mSh, kD2_some, kD2_none, kD1_some, kD1_none, ev_fD, kT2_some, kT2_none, kTst_ok, kTst_exc, kTst_bad, ev_mTst, boolT_b, kTb_ok, kTb_exc, kTb_bad, ev_mTb, kAnd_t, kAnd_f, kAnd_exc, kAnd_bad, ev_mAndB, kOr_f, kOr_t, kOr_exc, kOr_bad, ev_mOrB, kNot_ok, kNot_exc, kNot_bad, ev_mNotB, kNotV_ok, kNotV_exc, kNotV_bad, ev_mNotV, kAV2_t, kAV2_f, kAV2_n, kAV_ok, kAV_exc, kAV_bad, ev_mAndV, kOV2_f, kOV2_t, kOV2_n, kOV_ok, kOV_exc, kOV_bad, ev_mOrV, kIfE_t, kIfE_f, kIfE_exc, kIfE_bad, ev_mIfE, ev_mSkip, ev_mBrk, ev_mCnt, kSeq_nx, kSeq_rt, kSeq_bk, kSeq_ct, kSeq_exc, kSeq_bad, ev_mSeq, kIf_t, kIf_f, kIf_exc, kIf_bad, ev_mIf, kExpr_ok, kExpr_exc, kExpr_bad, ev_mExpr, kRet_tm, kRet_pl, kRet_exc, kRet_bad, ev_mRet, ev_mRetN, kAsg_tm, kAsg_exc, kAsg_bad, ev_mAsg, kG_ok, kG_bad, kAsgG_tm, kAsgG_exc, kAsgG_bad, ev_mAsgG, kPar_tm, kPar_exc, kPar_bad, ev_mPar, kFor_ok, kFor_exc, kFor_bad, ev_mFor, kI2_some, kI2_none, kIOp_ok, kIOp_exc, kIOp_bad, ev_mIOp, kSI_ok, kSI_exc, kSI_bad, ev_mSeqI, kL2_ok, kLc_ok, kLc_exc, kLc_bad, ev_mLc, ev_mTgN, ev_mGNil, kGs_ok, ev_mGCons, kTg_some, ev_mTgT, ev_mTgL, kS3_some, kS2_l, kS1_ok, ev_mTgS, kH4_some, kH3_some, kH2_ok, kH1_t, kH1_f, kH0_ok, kH_ok, kH_exc, kH_bad, ev_mCh, kInt_ok, ev_mInt, kStr2_ok, kStr_ok, kStr_exc, kStr_bad, ev_mStr, kLs2_ok, kLs_ok, kLs_exc, kLs_bad, ev_mLs, kA2_ok, kA2_exc, kA2_bad, kA1_ok, kA1_exc, kA1_bad, ev_mApp, kF3_some, kF4_some, kF2_ret, kF2_exc, kF1_some, ev_fCall, kK2_ret, kK2_exc, kK1_some, ev_fCallK, kRun_nx, kRun_rt, kRun_exc, kRun_bad, ev_runF, ev_mDct0, kDc2_some, kDc_ok, kDc_exc, kDc_bad, ev_mDct, fIx, fAdd, fMul, fDivmod, fList, fTuple, fLst, fTup, fLen, fIsi, fApp, fSl10, fSl01, fSl11, fSl00, fRng1, fRng2, fIsN, share, look, vw, vws, T.at, T.sub, T.put, T.putS, putT, T.fz, T.fzL, tru, itemAt, atI, ixN, shL, shT, allD, tms, lenT, tyT, tyNs, tyD, subT, tys, nonT, hEq, hNe, hLt, hLe, hGt, hGe, hCmp, hIn, hAbs, h2F, hMax2, hMin2, h2I, hSub, hMod, hDiv, hPow, hNeg, hInt1, hBls, hInts, blsD, intsD, strsD, hJoin, fSl1, seqD, wipable, wipeE, unwipe, outs, isL, keysT, keyD, moveOut, putBack, holes, noIo, isH, arrT, arrG, Op.deep, itemsT, itemsL, SeqAt.shaped, PyData.canLay0, PyData.canLayAll0, PyData.depth, PyData.depthAll, PyData.eqv, PyData.eqvAll, h2, he]
      · simp [ev_mVar, ev_mD, ev_mV, ev_mNil, ev_mYes, kP_ok, kP_exc, kP_bad, kB_ok, kB_exc, kB_bad, kC2_ok, kC2_exc, kC2_bad, kC1_ok, kC1_exc, kC1_bad, ev_mCons, kOp_ok, kOp_exc, kOp_bad, ev_mOpN, ev_m2, ev_m1, kSh_ok, kSh_exc, kSh_bad, ev_mSh, kD2_some, kD2_none, kD1_some, kD1_none, ev_fD, kT2_some, kT2_none, kTst_ok, kTst_exc, kTst_bad, ev_mTst, boolT_b, kTb_ok, kTb_exc, kTb_bad, ev_mTb, kAnd_t, kAnd_f, kAnd_exc, kAnd_bad, ev_mAndB, kOr_f, kOr_t, kOr_exc, kOr_bad, ev_mOrB, kNot_ok, kNot_exc, kNot_bad, ev_mNotB, kNotV_ok, kNotV_exc, kNotV_bad, ev_mNotV, kAV2_t, kAV2_f, kAV2_n, kAV_ok, kAV_exc, kAV_bad, ev_mAndV, kOV2_f, kOV2_t, kOV2_n, kOV_ok, kOV_exc, kOV_bad, ev_mOrV, kIfE_t, kIfE_f, kIfE_exc, kIfE_bad, ev_mIfE, ev_mSkip, ev_mBrk, ev_mCnt, kSeq_nx, kSeq_rt, kSeq_bk, kSeq_ct, kSeq_exc, kSeq_bad, ev_mSeq, kIf_t, kIf_f, kIf_exc, kIf_bad, ev_mIf, kExpr_ok, kExpr_exc, kExpr_bad, ev_mExpr, kRet_tm, kRet_pl, kRet_exc, kRet_bad, ev_mRet, ev_mRetN, kAsg_tm, kAsg_exc, kAsg_bad, ev_mAsg, kG_ok, kG_bad, kAsgG_tm, kAsgG_exc, kAsgG_bad, ev_mAsgG, kPar_tm, kPar_exc, kPar_bad, ev_mPar, kFor_ok, kFor_exc, kFor_bad, ev_mFor, kI2_some, kI2_none, kIOp_ok, kIOp_exc, kIOp_bad, ev_mIOp, kSI_ok, kSI_exc, kSI_bad, ev_mSeqI, kL2_ok, kLc_ok, kLc_exc, kLc_bad, ev_mLc, ev_mTgN, ev_mGNil, kGs_ok, ev_mGCons, kTg_some, ev_mTgT, ev_mTgL, kS3_some, kS2_l, kS1_ok, ev_mTgS, kH4_some, kH3_some, kH2_ok, kH1_t, kH1_f, kH0_ok, kH_ok, kH_exc, kH_bad, ev_mCh, kInt_ok, ev_mInt, kStr2_ok, kStr_ok, kStr_exc, kStr_bad, ev_mStr, kLs2_ok, kLs_ok, kLs_exc, kLs_bad, ev_mLs, kA2_ok, kA2_exc, kA2_bad, kA1_ok, kA1_exc, kA1_bad, ev_mApp, kF3_some, kF4_some, kF2_ret, kF2_exc, kF1_some, ev_fCall, kK2_ret, kK2_exc, kK1_some, ev_fCallK, kRun_nx, kRun_rt, kRun_exc, kRun_bad, ev_runF, ev_mDct0, kDc2_some, kDc_ok, kDc_exc, kDc_bad, ev_mDct, fIx, fAdd, fMul, fDivmod, fList, fTuple, fLst, fTup, fLen, fIsi, fApp, fSl10, fSl01, fSl11, fSl00, fRng1, fRng2, fIsN, share, look, vw, vws, T.at, T.sub, T.put, T.putS, putT, T.fz, T.fzL, tru, itemAt, atI, ixN, shL, shT, allD, tms, lenT, tyT, tyNs, tyD, subT, tys, nonT, hEq, hNe, hLt, hLe, hGt, hGe, hCmp, hIn, hAbs, h2F, hMax2, hMin2, h2I, hSub, hMod, hDiv, hPow, hNeg, hInt1, hBls, hInts, blsD, intsD, strsD, hJoin, fSl1, seqD, wipable, wipeE, unwipe, outs, isL, keysT, keyD, moveOut, putBack, holes, noIo, isH, arrT, arrG, Op.deep, itemsT, itemsL, SeqAt.shaped, PyData.canLay0, PyData.canLayAll0, PyData.depth, PyData.depthAll, PyData.eqv, PyData.eqvAll, h2]
    by_cases h4 : way < 4
    · have g8 : z__law_thing_8 [some (P p3), some Lt, some (.d (.int (n : Nat))), some (.d (.str z)), some (.d (.int way)), none, none, none] = .ok (.rt (.d (.str z))) [some (P p3), some Lt, some (.d (.int (n : Nat))), none, some (.d (.int way)), none, none, none] true := by
        unfold z__law_thing_8 z__law_thing_7
        simp [ev_mVar, ev_mD, ev_mV, ev_mNil, ev_mYes, kP_ok, kP_exc, kP_bad, kB_ok, kB_exc, kB_bad, kC2_ok, kC2_exc, kC2_bad, kC1_ok, kC1_exc, kC1_bad, ev_mCons, kOp_ok, kOp_exc, kOp_bad, ev_mOpN, ev_m2, ev_m1, kSh_ok, kSh_exc, kSh_bad, ev_mSh, kD2_some, kD2_none, kD1_some, kD1_none, ev_fD, kT2_some, kT2_none, kTst_ok, kTst_exc, kTst_bad, ev_mTst, boolT_b, kTb_ok, kTb_exc, kTb_bad, ev_mTb, kAnd_t, kAnd_f, kAnd_exc, kAnd_bad, ev_mAndB, kOr_f, kOr_t, kOr_exc, kOr_bad, ev_mOrB, kNot_ok, kNot_exc, kNot_bad, ev_mNotB, kNotV_ok, kNotV_exc, kNotV_bad, ev_mNotV, kAV2_t, kAV2_f, kAV2_n, kAV_ok, kAV_exc, kAV_bad, ev_mAndV, kOV2_f, kOV2_t, kOV2_n, kOV_ok, kOV_exc, kOV_bad, ev_mOrV, kIfE_t, kIfE_f, kIfE_exc, kIfE_bad, ev_mIfE, ev_mSkip, ev_mBrk, ev_mCnt, kSeq_nx, kSeq_rt, kSeq_bk, kSeq_ct, kSeq_exc, kSeq_bad, ev_mSeq, kIf_t, kIf_f, kIf_exc, kIf_bad, ev_mIf, kExpr_ok, kExpr_exc, kExpr_bad, ev_mExpr, kRet_tm, kRet_pl, kRet_exc, kRet_bad, ev_mRet, ev_mRetN, kAsg_tm, kAsg_exc, kAsg_bad, ev_mAsg, kG_ok, kG_bad, kAsgG_tm, kAsgG_exc, kAsgG_bad, ev_mAsgG, kPar_tm, kPar_exc, kPar_bad, ev_mPar, kFor_ok, kFor_exc, kFor_bad, ev_mFor, kI2_some, kI2_none, kIOp_ok, kIOp_exc, kIOp_bad, ev_mIOp, kSI_ok, kSI_exc, kSI_bad, ev_mSeqI, kL2_ok, kLc_ok, kLc_exc, kLc_bad, ev_mLc, ev_mTgN, ev_mGNil, kGs_ok, ev_mGCons, kTg_some, ev_mTgT, ev_mTgL, kS3_some, kS2_l, kS1_ok, ev_mTgS, kH4_some, kH3_some, kH2_ok, kH1_t, kH1_f, kH0_ok, kH_ok, kH_exc, kH_bad, ev_mCh, kInt_ok, ev_mInt, kStr2_ok, kStr_ok, kStr_exc, kStr_bad, ev_mStr, kLs2_ok, kLs_ok, kLs_exc, kLs_bad, ev_mLs, kA2_ok, kA2_exc, kA2_bad, kA1_ok, kA1_exc, kA1_bad, ev_mApp, kF3_some, kF4_some, kF2_ret, kF2_exc, kF1_some, ev_fCall, kK2_ret, kK2_exc, kK1_some, ev_fCallK, kRun_nx, kRun_rt, kRun_exc, kRun_bad, ev_runF, ev_mDct0, kDc2_some, kDc_ok, kDc_exc, kDc_bad, ev_mDct, fIx, fAdd, fMul, fDivmod, fList, fTuple, fLst, fTup, fLen, fIsi, fApp, fSl10, fSl01, fSl11, fSl00, fRng1, fRng2, fIsN, share, look, vw, vws, T.at, T.sub, T.put, T.putS, putT, T.fz, T.fzL, tru, itemAt, atI, ixN, shL, shT, allD, tms, lenT, tyT, tyNs, tyD, subT, tys, nonT, hEq, hNe, hLt, hLe, hGt, hGe, hCmp, hIn, hAbs, h2F, hMax2, hMin2, h2I, hSub, hMod, hDiv, hPow, hNeg, hInt1, hBls, hInts, blsD, intsD, strsD, hJoin, fSl1, seqD, wipable, wipeE, unwipe, outs, isL, keysT, keyD, moveOut, putBack, holes, noIo, isH, arrT, arrG, Op.deep, itemsT, itemsL, SeqAt.shaped, PyData.canLay0, PyData.canLayAll0, PyData.depth, PyData.depthAll, PyData.eqv, PyData.eqvAll, h4]
      refine ⟨.str z, p3, hp3, thing_str (hz.mono (by decide)), ?_⟩
      rw [run _ (by rw [g6, kSeq_nx, ev_mSeq, g8, kSeq_rt]), kRun_rt]
      rfl
    · have g8 : z__law_thing_8 [some (P p3), some Lt, some (.d (.int (n : Nat))), some (.d (.str z)), some (.d (.int way)), none, none, none] = .ok .nx [some (P p3), some Lt, some (.d (.int (n : Nat))), some (.d (.str z)), some (.d (.int way)), none, none, none] true := by
        unfold z__law_thing_8
        simp [ev_mVar, ev_mD, ev_mV, ev_mNil, ev_mYes, kP_ok, kP_exc, kP_bad, kB_ok, kB_exc, kB_bad, kC2_ok, kC2_exc, kC2_bad, kC1_ok, kC1_exc, kC1_bad, ev_mCons, kOp_ok, kOp_exc, kOp_bad, ev_mOpN, ev_m2, ev_m1, kSh_ok, kSh_exc, kSh_bad, ev_mSh, kD2_some, kD2_none, kD1_some, kD1_none, ev_fD, kT2_some, kT2_none, kTst_ok, kTst_exc, kTst_bad, ev_mTst, boolT_b, kTb_ok, kTb_exc, kTb_bad, ev_mTb, kAnd_t, kAnd_f, kAnd_exc, kAnd_bad, ev_mAndB, kOr_f, kOr_t, kOr_exc, kOr_bad, ev_mOrB, kNot_ok, kNot_exc, kNot_bad, ev_mNotB, kNotV_ok, kNotV_exc, kNotV_bad, ev_mNotV, kAV2_t, kAV2_f, kAV2_n, kAV_ok, kAV_exc, kAV_bad, ev_mAndV, kOV2_f, kOV2_t, kOV2_n, kOV_ok, kOV_exc, kOV_bad, ev_mOrV, kIfE_t, kIfE_f, kIfE_exc, kIfE_bad, ev_mIfE, ev_mSkip, ev_mBrk, ev_mCnt, kSeq_nx, kSeq_rt, kSeq_bk, kSeq_ct, kSeq_exc, kSeq_bad, ev_mSeq, kIf_t, kIf_f, kIf_exc, kIf_bad, ev_mIf, kExpr_ok, kExpr_exc, kExpr_bad, ev_mExpr, kRet_tm, kRet_pl, kRet_exc, kRet_bad, ev_mRet, ev_mRetN, kAsg_tm, kAsg_exc, kAsg_bad, ev_mAsg, kG_ok, kG_bad, kAsgG_tm, kAsgG_exc, kAsgG_bad, ev_mAsgG, kPar_tm, kPar_exc, kPar_bad, ev_mPar, kFor_ok, kFor_exc, kFor_bad, ev_mFor, kI2_some, kI2_none, kIOp_ok, kIOp_exc, kIOp_bad, ev_mIOp, kSI_ok, kSI_exc, kSI_bad, ev_mSeqI, kL2_ok, kLc_ok, kLc_exc, kLc_bad, ev_mLc, ev_mTgN, ev_mGNil, kGs_ok, ev_mGCons, kTg_some, ev_mTgT, ev_mTgL, kS3_some, kS2_l, kS1_ok, ev_mTgS, kH4_some, kH3_some, kH2_ok, kH1_t, kH1_f, kH0_ok, kH_ok, kH_exc, kH_bad, ev_mCh, kInt_ok, ev_mInt, kStr2_ok, kStr_ok, kStr_exc, kStr_bad, ev_mStr, kLs2_ok, kLs_ok, kLs_exc, kLs_bad, ev_mLs, kA2_ok, kA2_exc, kA2_bad, kA1_ok, kA1_exc, kA1_bad, ev_mApp, kF3_some, kF4_some, kF2_ret, kF2_exc, kF1_some, ev_fCall, kK2_ret, kK2_exc, kK1_some, ev_fCallK, kRun_nx, kRun_rt, kRun_exc, kRun_bad, ev_runF, ev_mDct0, kDc2_some, kDc_ok, kDc_exc, kDc_bad, ev_mDct, fIx, fAdd, fMul, fDivmod, fList, fTuple, fLst, fTup, fLen, fIsi, fApp, fSl10, fSl01, fSl11, fSl00, fRng1, fRng2, fIsN, share, look, vw, vws, T.at, T.sub, T.put, T.putS, putT, T.fz, T.fzL, tru, itemAt, atI, ixN, shL, shT, allD, tms, lenT, tyT, tyNs, tyD, subT, tys, nonT, hEq, hNe, hLt, hLe, hGt, hGe, hCmp, hIn, hAbs, h2F, hMax2, hMin2, h2I, hSub, hMod, hDiv, hPow, hNeg, hInt1, hBls, hInts, blsD, intsD, strsD, hJoin, fSl1, seqD, wipable, wipeE, unwipe, outs, isL, keysT, keyD, moveOut, putBack, holes, noIo, isH, arrT, arrG, Op.deep, itemsT, itemsL, SeqAt.shaped, PyData.canLay0, PyData.canLayAll0, PyData.depth, PyData.depthAll, PyData.eqv, PyData.eqvAll, h4]
      obtain ⟨i, p4, hp4, hi, hin⟩ := e_integer hp3
      have g9 : z__law_thing_9 [some (P p3), some Lt, some (.d (.int (n : Nat))), some (.d (.str z)), some (.d (.int way)), none, none, none] = .ok .nx [some (P p4), some Lt, some (.d (.int (n : Nat))), some (.d (.str z)), some (.d (.int way)), none, some (.d (.list (pickL z i))), none] true := by
        unfold z__law_thing_9 pickL
        simp [ev_mVar, ev_mD, ev_mV, ev_mNil, ev_mYes, kP_ok, kP_exc, kP_bad, kB_ok, kB_exc, kB_bad, kC2_ok, kC2_exc, kC2_bad, kC1_ok, kC1_exc, kC1_bad, ev_mCons, kOp_ok, kOp_exc, kOp_bad, ev_mOpN, ev_m2, ev_m1, kSh_ok, kSh_exc, kSh_bad, ev_mSh, kD2_some, kD2_none, kD1_some, kD1_none, ev_fD, kT2_some, kT2_none, kTst_ok, kTst_exc, kTst_bad, ev_mTst, boolT_b, kTb_ok, kTb_exc, kTb_bad, ev_mTb, kAnd_t, kAnd_f, kAnd_exc, kAnd_bad, ev_mAndB, kOr_f, kOr_t, kOr_exc, kOr_bad, ev_mOrB, kNot_ok, kNot_exc, kNot_bad, ev_mNotB, kNotV_ok, kNotV_exc, kNotV_bad, ev_mNotV, kAV2_t, kAV2_f, kAV2_n, kAV_ok, kAV_exc, kAV_bad, ev_mAndV, kOV2_f, kOV2_t, kOV2_n, kOV_ok, kOV_exc, kOV_bad, ev_mOrV, kIfE_t, kIfE_f, kIfE_exc, kIfE_bad, ev_mIfE, ev_mSkip, ev_mBrk, ev_mCnt, kSeq_nx, kSeq_rt, kSeq_bk, kSeq_ct, kSeq_exc, kSeq_bad, ev_mSeq, kIf_t, kIf_f, kIf_exc, kIf_bad, ev_mIf, kExpr_ok, kExpr_exc, kExpr_bad, ev_mExpr, kRet_tm, kRet_pl, kRet_exc, kRet_bad, ev_mRet, ev_mRetN, kAsg_tm, kAsg_exc, kAsg_bad, ev_mAsg, kG_ok, kG_bad, kAsgG_tm, kAsgG_exc, kAsgG_bad, ev_mAsgG, kPar_tm, kPar_exc, kPar_bad, ev_mPar, kFor_ok, kFor_exc, kFor_bad, ev_mFor, kI2_some, kI2_none, kIOp_ok, kIOp_exc, kIOp_bad, ev_mIOp, kSI_ok, kSI_exc, kSI_bad, ev_mSeqI, kL2_ok, kLc_ok, kLc_exc, kLc_bad, ev_mLc, ev_mTgN, ev_mGNil, kGs_ok, ev_mGCons, kTg_some, ev_mTgT, ev_mTgL, kS3_some, kS2_l, kS1_ok, ev_mTgS, kH4_some, kH3_some, kH2_ok, kH1_t, kH1_f, kH0_ok, kH_ok, kH_exc, kH_bad, ev_mCh, kInt_ok, ev_mInt, kStr2_ok, kStr_ok, kStr_exc, kStr_bad, ev_mStr, kLs2_ok, kLs_ok, kLs_exc, kLs_bad, ev_mLs, kA2_ok, kA2_exc, kA2_bad, kA1_ok, kA1_exc, kA1_bad, ev_mApp, kF3_some, kF4_some, kF2_ret, kF2_exc, kF1_some, ev_fCall, kK2_ret, kK2_exc, kK1_some, ev_fCallK, kRun_nx, kRun_rt, kRun_exc, kRun_bad, ev_runF, ev_mDct0, kDc2_some, kDc_ok, kDc_exc, kDc_bad, ev_mDct, fIx, fAdd, fMul, fDivmod, fList, fTuple, fLst, fTup, fLen, fIsi, fApp, fSl10, fSl01, fSl11, fSl00, fRng1, fRng2, fIsN, share, look, vw, vws, T.at, T.sub, T.put, T.putS, putT, T.fz, T.fzL, tru, itemAt, atI, ixN, shL, shT, allD, tms, lenT, tyT, tyNs, tyD, subT, tys, nonT, hEq, hNe, hLt, hLe, hGt, hGe, hCmp, hIn, hAbs, h2F, hMax2, hMin2, h2I, hSub, hMod, hDiv, hPow, hNeg, hInt1, hBls, hInts, blsD, intsD, strsD, hJoin, fSl1, seqD, wipable, wipeE, unwipe, outs, isL, keysT, keyD, moveOut, putBack, holes, noIo, isH, arrT, arrG, Op.deep, itemsT, itemsL, SeqAt.shaped, PyData.canLay0, PyData.canLayAll0, PyData.depth, PyData.depthAll, PyData.eqv, PyData.eqvAll, hin, kdict, dkey]
      obtain ⟨x, hx, hx2⟩ := pick_mem (p := p4) (ds := pickL z i) (by show 0 < 13; decide)
      have hpk := e_pick hp4 (by show 0 < 13; decide) (by show 13 ≤ 1000; decide) hx2
      have hp5 := ps_ok (n := ((pickL z i).length : Int)) hp4
      generalize ps p4 ((pickL z i).length : Int) = p5 at *
      have g10 : z__law_thing_10 [some (P p4), some Lt, some (.d (.int (n : Nat))), some (.d (.str z)), some (.d (.int way)), none, some (.d (.list (pickL z i))), none] = .ok (.rt (.d x)) [some (P p5), some Lt, some (.d (.int (n : Nat))), some (.d (.str z)), some (.d (.int way)), none, some (.d (.list (pickL z i))), none] true := by
        unfold z__law_thing_10
        simp [ev_mVar, ev_mD, ev_mV, ev_mNil, ev_mYes, kP_ok, kP_exc, kP_bad, kB_ok, kB_exc, kB_bad, kC2_ok, kC2_exc, kC2_bad, kC1_ok, kC1_exc, kC1_bad, ev_mCons, kOp_ok, kOp_exc, kOp_bad, ev_mOpN, ev_m2, ev_m1, kSh_ok, kSh_exc, kSh_bad, ev_mSh, kD2_some, kD2_none, kD1_some, kD1_none, ev_fD, kT2_some, kT2_none, kTst_ok, kTst_exc, kTst_bad, ev_mTst, boolT_b, kTb_ok, kTb_exc, kTb_bad, ev_mTb, kAnd_t, kAnd_f, kAnd_exc, kAnd_bad, ev_mAndB, kOr_f, kOr_t, kOr_exc, kOr_bad, ev_mOrB, kNot_ok, kNot_exc, kNot_bad, ev_mNotB, kNotV_ok, kNotV_exc, kNotV_bad, ev_mNotV, kAV2_t, kAV2_f, kAV2_n, kAV_ok, kAV_exc, kAV_bad, ev_mAndV, kOV2_f, kOV2_t, kOV2_n, kOV_ok, kOV_exc, kOV_bad, ev_mOrV, kIfE_t, kIfE_f, kIfE_exc, kIfE_bad, ev_mIfE, ev_mSkip, ev_mBrk, ev_mCnt, kSeq_nx, kSeq_rt, kSeq_bk, kSeq_ct, kSeq_exc, kSeq_bad, ev_mSeq, kIf_t, kIf_f, kIf_exc, kIf_bad, ev_mIf, kExpr_ok, kExpr_exc, kExpr_bad, ev_mExpr, kRet_tm, kRet_pl, kRet_exc, kRet_bad, ev_mRet, ev_mRetN, kAsg_tm, kAsg_exc, kAsg_bad, ev_mAsg, kG_ok, kG_bad, kAsgG_tm, kAsgG_exc, kAsgG_bad, ev_mAsgG, kPar_tm, kPar_exc, kPar_bad, ev_mPar, kFor_ok, kFor_exc, kFor_bad, ev_mFor, kI2_some, kI2_none, kIOp_ok, kIOp_exc, kIOp_bad, ev_mIOp, kSI_ok, kSI_exc, kSI_bad, ev_mSeqI, kL2_ok, kLc_ok, kLc_exc, kLc_bad, ev_mLc, ev_mTgN, ev_mGNil, kGs_ok, ev_mGCons, kTg_some, ev_mTgT, ev_mTgL, kS3_some, kS2_l, kS1_ok, ev_mTgS, kH4_some, kH3_some, kH2_ok, kH1_t, kH1_f, kH0_ok, kH_ok, kH_exc, kH_bad, ev_mCh, kInt_ok, ev_mInt, kStr2_ok, kStr_ok, kStr_exc, kStr_bad, ev_mStr, kLs2_ok, kLs_ok, kLs_exc, kLs_bad, ev_mLs, kA2_ok, kA2_exc, kA2_bad, kA1_ok, kA1_exc, kA1_bad, ev_mApp, kF3_some, kF4_some, kF2_ret, kF2_exc, kF1_some, ev_fCall, kK2_ret, kK2_exc, kK1_some, ev_fCallK, kRun_nx, kRun_rt, kRun_exc, kRun_bad, ev_runF, ev_mDct0, kDc2_some, kDc_ok, kDc_exc, kDc_bad, ev_mDct, fIx, fAdd, fMul, fDivmod, fList, fTuple, fLst, fTup, fLen, fIsi, fApp, fSl10, fSl01, fSl11, fSl00, fRng1, fRng2, fIsN, share, look, vw, vws, T.at, T.sub, T.put, T.putS, putT, T.fz, T.fzL, tru, itemAt, atI, ixN, shL, shT, allD, tms, lenT, tyT, tyNs, tyD, subT, tys, nonT, hEq, hNe, hLt, hLe, hGt, hGe, hCmp, hIn, hAbs, h2F, hMax2, hMin2, h2I, hSub, hMod, hDiv, hPow, hNeg, hInt1, hBls, hInts, blsD, intsD, strsD, hJoin, fSl1, seqD, wipable, wipeE, unwipe, outs, isL, keysT, keyD, moveOut, putBack, holes, noIo, isH, arrT, arrG, Op.deep, itemsT, itemsL, SeqAt.shaped, PyData.canLay0, PyData.canLayAll0, PyData.depth, PyData.depthAll, PyData.eqv, PyData.eqvAll, hpk]
      refine ⟨x, p5, hp5, pick_thing hz hi hx, ?_⟩
      rw [run _ (by rw [g6, kSeq_nx, ev_mSeq, g8, kSeq_nx, ev_mSeq, g9, kSeq_nx, g10]), kRun_rt]
      rfl
end K10
namespace K10
open PySem L2 MV
theorem names_right {p : Int × Int} (hp : Ok p) : ∃ p', Ok p' ∧ m__law_names_right [P p] = .ret (.d (.bool true)) [some (P p')] := by
  obtain ⟨x, p1, hp1, hx, h0⟩ := th_thing hp
  obtain ⟨f1, f2, f3, f4⟩ := hx
  have g0 : z__law_names_right_0 [some (P p), none, none, none, none, none, none] = .ok .nx [some (P p1), some (.d x), none, none, none, none, none] true := by
    unfold z__law_names_right_0
    simp [ev_mVar, ev_mD, ev_mV, ev_mNil, ev_mYes, kP_ok, kP_exc, kP_bad, kB_ok, kB_exc, kB_bad, kC2_ok, kC2_exc, kC2_bad, kC1_ok, kC1_exc, kC1_bad, ev_mCons, kOp_ok, kOp_exc, kOp_bad, ev_mOpN, ev_m2, ev_m1, kSh_ok, kSh_exc, kSh_bad, ev_mSh, kD2_some, kD2_none, kD1_some, kD1_none, ev_fD, kT2_some, kT2_none, kTst_ok, kTst_exc, kTst_bad, ev_mTst, boolT_b, kTb_ok, kTb_exc, kTb_bad, ev_mTb, kAnd_t, kAnd_f, kAnd_exc, kAnd_bad, ev_mAndB, kOr_f, kOr_t, kOr_exc, kOr_bad, ev_mOrB, kNot_ok, kNot_exc, kNot_bad, ev_mNotB, kNotV_ok, kNotV_exc, kNotV_bad, ev_mNotV, kAV2_t, kAV2_f, kAV2_n, kAV_ok, kAV_exc, kAV_bad, ev_mAndV, kOV2_f, kOV2_t, kOV2_n, kOV_ok, kOV_exc, kOV_bad, ev_mOrV, kIfE_t, kIfE_f, kIfE_exc, kIfE_bad, ev_mIfE, ev_mSkip, ev_mBrk, ev_mCnt, kSeq_nx, kSeq_rt, kSeq_bk, kSeq_ct, kSeq_exc, kSeq_bad, ev_mSeq, kIf_t, kIf_f, kIf_exc, kIf_bad, ev_mIf, kExpr_ok, kExpr_exc, kExpr_bad, ev_mExpr, kRet_tm, kRet_pl, kRet_exc, kRet_bad, ev_mRet, ev_mRetN, kAsg_tm, kAsg_exc, kAsg_bad, ev_mAsg, kG_ok, kG_bad, kAsgG_tm, kAsgG_exc, kAsgG_bad, ev_mAsgG, kPar_tm, kPar_exc, kPar_bad, ev_mPar, kFor_ok, kFor_exc, kFor_bad, ev_mFor, kI2_some, kI2_none, kIOp_ok, kIOp_exc, kIOp_bad, ev_mIOp, kSI_ok, kSI_exc, kSI_bad, ev_mSeqI, kL2_ok, kLc_ok, kLc_exc, kLc_bad, ev_mLc, ev_mTgN, ev_mGNil, kGs_ok, ev_mGCons, kTg_some, ev_mTgT, ev_mTgL, kS3_some, kS2_l, kS1_ok, ev_mTgS, kH4_some, kH3_some, kH2_ok, kH1_t, kH1_f, kH0_ok, kH_ok, kH_exc, kH_bad, ev_mCh, kInt_ok, ev_mInt, kStr2_ok, kStr_ok, kStr_exc, kStr_bad, ev_mStr, kLs2_ok, kLs_ok, kLs_exc, kLs_bad, ev_mLs, kA2_ok, kA2_exc, kA2_bad, kA1_ok, kA1_exc, kA1_bad, ev_mApp, kF3_some, kF4_some, kF2_ret, kF2_exc, kF1_some, ev_fCall, kK2_ret, kK2_exc, kK1_some, ev_fCallK, kRun_nx, kRun_rt, kRun_exc, kRun_bad, ev_runF, ev_mDct0, kDc2_some, kDc_ok, kDc_exc, kDc_bad, ev_mDct, fIx, fAdd, fMul, fDivmod, fList, fTuple, fLst, fTup, fLen, fIsi, fApp, fSl10, fSl01, fSl11, fSl00, fRng1, fRng2, fIsN, share, look, vw, vws, T.at, T.sub, T.put, T.putS, putT, T.fz, T.fzL, tru, itemAt, atI, ixN, shL, shT, allD, tms, lenT, tyT, tyNs, tyD, subT, tys, nonT, hEq, hNe, hLt, hLe, hGt, hGe, hCmp, hIn, hAbs, h2F, hMax2, hMin2, h2I, hSub, hMod, hDiv, hPow, hNeg, hInt1, hBls, hInts, blsD, intsD, strsD, hJoin, fSl1, seqD, wipable, wipeE, unwipe, outs, isL, keysT, keyD, moveOut, putBack, holes, noIo, isH, arrT, arrG, Op.deep, itemsT, itemsL, SeqAt.shaped, PyData.canLay0, PyData.canLayAll0, PyData.depth, PyData.depthAll, PyData.eqv, PyData.eqvAll, h0]
  have g1 : z__law_names_right_1 [some (P p1), some (.d x), none, none, none, none, none] = .ok .nx [some (P p1), some (.d x), some (.d (.bool (isI x))), none, none, none, none] true := by
    cases x <;> rfl
  have hw := e_is_word (x := x) fun z e => Nat.le_trans (f4 z e) (by decide)
  have hn := e_is_name (x := x) fun z e => Nat.le_trans (f4 z e) (by decide)
  have hi := e_is_integer x
  have hr := hRepr_ok f1 (Nat.le_trans f2 (by decide)) (Nat.le_trans f3 (by decide))
  generalize wordB x = a at *
  generalize isI x = b at *
  have g2 : z__law_names_right_2 [some (P p1), some (.d x), some (.d (.bool b)), none, none, none, none] = .ok .nx [some (P p1), some (.d x), some (.d (.bool b)), some (.d (.str x.shown)), some (.d (.list [.bool a, .bool b])), none, none] true := by
    unfold z__law_names_right_2
    simp [ev_mVar, ev_mD, ev_mV, ev_mNil, ev_mYes, kP_ok, kP_exc, kP_bad, kB_ok, kB_exc, kB_bad, kC2_ok, kC2_exc, kC2_bad, kC1_ok, kC1_exc, kC1_bad, ev_mCons, kOp_ok, kOp_exc, kOp_bad, ev_mOpN, ev_m2, ev_m1, kSh_ok, kSh_exc, kSh_bad, ev_mSh, kD2_some, kD2_none, kD1_some, kD1_none, ev_fD, kT2_some, kT2_none, kTst_ok, kTst_exc, kTst_bad, ev_mTst, boolT_b, kTb_ok, kTb_exc, kTb_bad, ev_mTb, kAnd_t, kAnd_f, kAnd_exc, kAnd_bad, ev_mAndB, kOr_f, kOr_t, kOr_exc, kOr_bad, ev_mOrB, kNot_ok, kNot_exc, kNot_bad, ev_mNotB, kNotV_ok, kNotV_exc, kNotV_bad, ev_mNotV, kAV2_t, kAV2_f, kAV2_n, kAV_ok, kAV_exc, kAV_bad, ev_mAndV, kOV2_f, kOV2_t, kOV2_n, kOV_ok, kOV_exc, kOV_bad, ev_mOrV, kIfE_t, kIfE_f, kIfE_exc, kIfE_bad, ev_mIfE, ev_mSkip, ev_mBrk, ev_mCnt, kSeq_nx, kSeq_rt, kSeq_bk, kSeq_ct, kSeq_exc, kSeq_bad, ev_mSeq, kIf_t, kIf_f, kIf_exc, kIf_bad, ev_mIf, kExpr_ok, kExpr_exc, kExpr_bad, ev_mExpr, kRet_tm, kRet_pl, kRet_exc, kRet_bad, ev_mRet, ev_mRetN, kAsg_tm, kAsg_exc, kAsg_bad, ev_mAsg, kG_ok, kG_bad, kAsgG_tm, kAsgG_exc, kAsgG_bad, ev_mAsgG, kPar_tm, kPar_exc, kPar_bad, ev_mPar, kFor_ok, kFor_exc, kFor_bad, ev_mFor, kI2_some, kI2_none, kIOp_ok, kIOp_exc, kIOp_bad, ev_mIOp, kSI_ok, kSI_exc, kSI_bad, ev_mSeqI, kL2_ok, kLc_ok, kLc_exc, kLc_bad, ev_mLc, ev_mTgN, ev_mGNil, kGs_ok, ev_mGCons, kTg_some, ev_mTgT, ev_mTgL, kS3_some, kS2_l, kS1_ok, ev_mTgS, kH4_some, kH3_some, kH2_ok, kH1_t, kH1_f, kH0_ok, kH_ok, kH_exc, kH_bad, ev_mCh, kInt_ok, ev_mInt, kStr2_ok, kStr_ok, kStr_exc, kStr_bad, ev_mStr, kLs2_ok, kLs_ok, kLs_exc, kLs_bad, ev_mLs, kA2_ok, kA2_exc, kA2_bad, kA1_ok, kA1_exc, kA1_bad, ev_mApp, kF3_some, kF4_some, kF2_ret, kF2_exc, kF1_some, ev_fCall, kK2_ret, kK2_exc, kK1_some, ev_fCallK, kRun_nx, kRun_rt, kRun_exc, kRun_bad, ev_runF, ev_mDct0, kDc2_some, kDc_ok, kDc_exc, kDc_bad, ev_mDct, fIx, fAdd, fMul, fDivmod, fList, fTuple, fLst, fTup, fLen, fIsi, fApp, fSl10, fSl01, fSl11, fSl00, fRng1, fRng2, fIsN, share, look, vw, vws, T.at, T.sub, T.put, T.putS, putT, T.fz, T.fzL, tru, itemAt, atI, ixN, shL, shT, allD, tms, lenT, tyT, tyNs, tyD, subT, tys, nonT, hEq, hNe, hLt, hLe, hGt, hGe, hCmp, hIn, hAbs, h2F, hMax2, hMin2, h2I, hSub, hMod, hDiv, hPow, hNeg, hInt1, hBls, hInts, blsD, intsD, strsD, hJoin, fSl1, seqD, wipable, wipeE, unwipe, outs, isL, keysT, keyD, moveOut, putBack, holes, noIo, isH, arrT, arrG, Op.deep, itemsT, itemsL, SeqAt.shaped, PyData.canLay0, PyData.canLayAll0, PyData.depth, PyData.depthAll, PyData.eqv, PyData.eqvAll, hw, hr]
  have g3 : z__law_names_right_3 [some (P p1), some (.d x), some (.d (.bool b)), some (.d (.str x.shown)), some (.d (.list [.bool a, .bool b])), none, none] = .ok .nx [some (P p1), some (.d x), some (.d (.bool b)), some (.d (.str x.shown)), some (.d (.list [.bool a, .bool b])), some (.d (.list [.bool a, .bool b])), none] true := by
    unfold z__law_names_right_3
    simp [ev_mVar, ev_mD, ev_mV, ev_mNil, ev_mYes, kP_ok, kP_exc, kP_bad, kB_ok, kB_exc, kB_bad, kC2_ok, kC2_exc, kC2_bad, kC1_ok, kC1_exc, kC1_bad, ev_mCons, kOp_ok, kOp_exc, kOp_bad, ev_mOpN, ev_m2, ev_m1, kSh_ok, kSh_exc, kSh_bad, ev_mSh, kD2_some, kD2_none, kD1_some, kD1_none, ev_fD, kT2_some, kT2_none, kTst_ok, kTst_exc, kTst_bad, ev_mTst, boolT_b, kTb_ok, kTb_exc, kTb_bad, ev_mTb, kAnd_t, kAnd_f, kAnd_exc, kAnd_bad, ev_mAndB, kOr_f, kOr_t, kOr_exc, kOr_bad, ev_mOrB, kNot_ok, kNot_exc, kNot_bad, ev_mNotB, kNotV_ok, kNotV_exc, kNotV_bad, ev_mNotV, kAV2_t, kAV2_f, kAV2_n, kAV_ok, kAV_exc, kAV_bad, ev_mAndV, kOV2_f, kOV2_t, kOV2_n, kOV_ok, kOV_exc, kOV_bad, ev_mOrV, kIfE_t, kIfE_f, kIfE_exc, kIfE_bad, ev_mIfE, ev_mSkip, ev_mBrk, ev_mCnt, kSeq_nx, kSeq_rt, kSeq_bk, kSeq_ct, kSeq_exc, kSeq_bad, ev_mSeq, kIf_t, kIf_f, kIf_exc, kIf_bad, ev_mIf, kExpr_ok, kExpr_exc, kExpr_bad, ev_mExpr, kRet_tm, kRet_pl, kRet_exc, kRet_bad, ev_mRet, ev_mRetN, kAsg_tm, kAsg_exc, kAsg_bad, ev_mAsg, kG_ok, kG_bad, kAsgG_tm, kAsgG_exc, kAsgG_bad, ev_mAsgG, kPar_tm, kPar_exc, kPar_bad, ev_mPar, kFor_ok, kFor_exc, kFor_bad, ev_mFor, kI2_some, kI2_none, kIOp_ok, kIOp_exc, kIOp_bad, ev_mIOp, kSI_ok, kSI_exc, kSI_bad, ev_mSeqI, kL2_ok, kLc_ok, kLc_exc, kLc_bad, ev_mLc, ev_mTgN, ev_mGNil, kGs_ok, ev_mGCons, kTg_some, ev_mTgT, ev_mTgL, kS3_some, kS2_l, kS1_ok, ev_mTgS, kH4_some, kH3_some, kH2_ok, kH1_t, kH1_f, kH0_ok, kH_ok, kH_exc, kH_bad, ev_mCh, kInt_ok, ev_mInt, kStr2_ok, kStr_ok, kStr_exc, kStr_bad, ev_mStr, kLs2_ok, kLs_ok, kLs_exc, kLs_bad, ev_mLs, kA2_ok, kA2_exc, kA2_bad, kA1_ok, kA1_exc, kA1_bad, ev_mApp, kF3_some, kF4_some, kF2_ret, kF2_exc, kF1_some, ev_fCall, kK2_ret, kK2_exc, kK1_some, ev_fCallK, kRun_nx, kRun_rt, kRun_exc, kRun_bad, ev_runF, ev_mDct0, kDc2_some, kDc_ok, kDc_exc, kDc_bad, ev_mDct, fIx, fAdd, fMul, fDivmod, fList, fTuple, fLst, fTup, fLen, fIsi, fApp, fSl10, fSl01, fSl11, fSl00, fRng1, fRng2, fIsN, share, look, vw, vws, T.at, T.sub, T.put, T.putS, putT, T.fz, T.fzL, tru, itemAt, atI, ixN, shL, shT, allD, tms, lenT, tyT, tyNs, tyD, subT, tys, nonT, hEq, hNe, hLt, hLe, hGt, hGe, hCmp, hIn, hAbs, h2F, hMax2, hMin2, h2I, hSub, hMod, hDiv, hPow, hNeg, hInt1, hBls, hInts, blsD, intsD, strsD, hJoin, fSl1, seqD, wipable, wipeE, unwipe, outs, isL, keysT, keyD, moveOut, putBack, holes, noIo, isH, arrT, arrG, Op.deep, itemsT, itemsL, SeqAt.shaped, PyData.canLay0, PyData.canLayAll0, PyData.depth, PyData.depthAll, PyData.eqv, PyData.eqvAll, hn, hi]
  have g4 : z__law_names_right_4 [some (P p1), some (.d x), some (.d (.bool b)), some (.d (.str x.shown)), some (.d (.list [.bool a, .bool b])), some (.d (.list [.bool a, .bool b])), none] = .ok .nx [some (P p1), some (.d x), some (.d (.bool b)), some (.d (.str x.shown)), some (.d (.list [.bool a, .bool b])), some (.d (.list [.bool a, .bool b])), some (.d (.list [.bool a, .bool b]))] true := by
    have e1 : arrT [.inl 0] [.d x] = [T.d x] := rfl
    unfold z__law_names_right_4
    simp [ev_mVar, ev_mD, ev_mV, ev_mNil, ev_mYes, kP_ok, kP_exc, kP_bad, kB_ok, kB_exc, kB_bad, kC2_ok, kC2_exc, kC2_bad, kC1_ok, kC1_exc, kC1_bad, ev_mCons, kOp_ok, kOp_exc, kOp_bad, ev_mOpN, ev_m2, ev_m1, kSh_ok, kSh_exc, kSh_bad, ev_mSh, kD2_some, kD2_none, kD1_some, kD1_none, ev_fD, kT2_some, kT2_none, kTst_ok, kTst_exc, kTst_bad, ev_mTst, boolT_b, kTb_ok, kTb_exc, kTb_bad, ev_mTb, kAnd_t, kAnd_f, kAnd_exc, kAnd_bad, ev_mAndB, kOr_f, kOr_t, kOr_exc, kOr_bad, ev_mOrB, kNot_ok, kNot_exc, kNot_bad, ev_mNotB, kNotV_ok, kNotV_exc, kNotV_bad, ev_mNotV, kAV2_t, kAV2_f, kAV2_n, kAV_ok, kAV_exc, kAV_bad, ev_mAndV, kOV2_f, kOV2_t, kOV2_n, kOV_ok, kOV_exc, kOV_bad, ev_mOrV, kIfE_t, kIfE_f, kIfE_exc, kIfE_bad, ev_mIfE, ev_mSkip, ev_mBrk, ev_mCnt, kSeq_nx, kSeq_rt, kSeq_bk, kSeq_ct, kSeq_exc, kSeq_bad, ev_mSeq, kIf_t, kIf_f, kIf_exc, kIf_bad, ev_mIf, kExpr_ok, kExpr_exc, kExpr_bad, ev_mExpr, kRet_tm, kRet_pl, kRet_exc, kRet_bad, ev_mRet, ev_mRetN, kAsg_tm, kAsg_exc, kAsg_bad, ev_mAsg, kG_ok, kG_bad, kAsgG_tm, kAsgG_exc, kAsgG_bad, ev_mAsgG, kPar_tm, kPar_exc, kPar_bad, ev_mPar, kFor_ok, kFor_exc, kFor_bad, ev_mFor, kI2_some, kI2_none, kIOp_ok, kIOp_exc, kIOp_bad, ev_mIOp, kSI_ok, kSI_exc, kSI_bad, ev_mSeqI, kL2_ok, kLc_ok, kLc_exc, kLc_bad, ev_mLc, ev_mTgN, ev_mGNil, kGs_ok, ev_mGCons, kTg_some, ev_mTgT, ev_mTgL, kS3_some, kS2_l, kS1_ok, ev_mTgS, kH4_some, kH3_some, kH2_ok, kH1_t, kH1_f, kH0_ok, kH_ok, kH_exc, kH_bad, ev_mCh, kInt_ok, ev_mInt, kStr2_ok, kStr_ok, kStr_exc, kStr_bad, ev_mStr, kLs2_ok, kLs_ok, kLs_exc, kLs_bad, ev_mLs, kA2_ok, kA2_exc, kA2_bad, kA1_ok, kA1_exc, kA1_bad, ev_mApp, kF3_some, kF4_some, kF2_ret, kF2_exc, kF1_some, ev_fCall, kK2_ret, kK2_exc, kK1_some, ev_fCallK, kRun_nx, kRun_rt, kRun_exc, kRun_bad, ev_runF, ev_mDct0, kDc2_some, kDc_ok, kDc_exc, kDc_bad, ev_mDct, fIx, fAdd, fMul, fDivmod, fList, fTuple, fLst, fTup, fLen, fIsi, fApp, fSl10, fSl01, fSl11, fSl00, fRng1, fRng2, fIsN, share, look, vw, vws, T.at, T.sub, T.put, T.putS, putT, T.fz, T.fzL, tru, itemAt, atI, ixN, shL, shT, allD, tms, lenT, tyT, tyNs, tyD, subT, tys, nonT, hEq, hNe, hLt, hLe, hGt, hGe, hCmp, hIn, hAbs, h2F, hMax2, hMin2, h2I, hSub, hMod, hDiv, hPow, hNeg, hInt1, hBls, hInts, blsD, intsD, strsD, hJoin, fSl1, seqD, wipable, wipeE, unwipe, outs, isL, keysT, keyD, moveOut, putBack, holes, noIo, isH, Op.deep, itemsT, itemsL, SeqAt.shaped, PyData.canLay0, PyData.canLayAll0, PyData.depth, PyData.depthAll, PyData.eqv, PyData.eqvAll, e1, hn, hi]
  have hr2 := hRepr_ok (d := .list [.list [.bool a, .bool b], .list [.bool a, .bool b]]) (by simp [fine, fineAll]) (by simp [big, bigAll]) (by simp [PyData.depth, PyData.depthAll])
  generalize (PyData.list [.list [.bool a, .bool b], .list [.bool a, .bool b]]).shown = t at *
  have g5 : z__law_names_right_5 [some (P p1), some (.d x), some (.d (.bool b)), some (.d (.str x.shown)), some (.d (.list [.bool a, .bool b])), some (.d (.list [.bool a, .bool b])), some (.d (.list [.bool a, .bool b]))] = .ok (.rt (.d (.bool true))) [some (P p1), some (.d x), some (.d (.bool b)), some (.d (.str x.shown)), some (.d (.list [.bool a, .bool b])), some (.d (.list [.bool a, .bool b])), some (.d (.list [.bool a, .bool b]))] true := by
    unfold z__law_names_right_5
    simp [ev_mVar, ev_mD, ev_mV, ev_mNil, ev_mYes, kP_ok, kP_exc, kP_bad, kB_ok, kB_exc, kB_bad, kC2_ok, kC2_exc, kC2_bad, kC1_ok, kC1_exc, kC1_bad, ev_mCons, kOp_ok, kOp_exc, kOp_bad, ev_mOpN, ev_m2, ev_m1, kSh_ok, kSh_exc, kSh_bad, ev_mSh, kD2_some, kD2_none, kD1_some, kD1_none, ev_fD, kT2_some, kT2_none, kTst_ok, kTst_exc, kTst_bad, ev_mTst, boolT_b, kTb_ok, kTb_exc, kTb_bad, ev_mTb, kAnd_t, kAnd_f, kAnd_exc, kAnd_bad, ev_mAndB, kOr_f, kOr_t, kOr_exc, kOr_bad, ev_mOrB, kNot_ok, kNot_exc, kNot_bad, ev_mNotB, kNotV_ok, kNotV_exc, kNotV_bad, ev_mNotV, kAV2_t, kAV2_f, kAV2_n, kAV_ok, kAV_exc, kAV_bad, ev_mAndV, kOV2_f, kOV2_t, kOV2_n, kOV_ok, kOV_exc, kOV_bad, ev_mOrV, kIfE_t, kIfE_f, kIfE_exc, kIfE_bad, ev_mIfE, ev_mSkip, ev_mBrk, ev_mCnt, kSeq_nx, kSeq_rt, kSeq_bk, kSeq_ct, kSeq_exc, kSeq_bad, ev_mSeq, kIf_t, kIf_f, kIf_exc, kIf_bad, ev_mIf, kExpr_ok, kExpr_exc, kExpr_bad, ev_mExpr, kRet_tm, kRet_pl, kRet_exc, kRet_bad, ev_mRet, ev_mRetN, kAsg_tm, kAsg_exc, kAsg_bad, ev_mAsg, kG_ok, kG_bad, kAsgG_tm, kAsgG_exc, kAsgG_bad, ev_mAsgG, kPar_tm, kPar_exc, kPar_bad, ev_mPar, kFor_ok, kFor_exc, kFor_bad, ev_mFor, kI2_some, kI2_none, kIOp_ok, kIOp_exc, kIOp_bad, ev_mIOp, kSI_ok, kSI_exc, kSI_bad, ev_mSeqI, kL2_ok, kLc_ok, kLc_exc, kLc_bad, ev_mLc, ev_mTgN, ev_mGNil, kGs_ok, ev_mGCons, kTg_some, ev_mTgT, ev_mTgL, kS3_some, kS2_l, kS1_ok, ev_mTgS, kH4_some, kH3_some, kH2_ok, kH1_t, kH1_f, kH0_ok, kH_ok, kH_exc, kH_bad, ev_mCh, kInt_ok, ev_mInt, kStr2_ok, kStr_ok, kStr_exc, kStr_bad, ev_mStr, kLs2_ok, kLs_ok, kLs_exc, kLs_bad, ev_mLs, kA2_ok, kA2_exc, kA2_bad, kA1_ok, kA1_exc, kA1_bad, ev_mApp, kF3_some, kF4_some, kF2_ret, kF2_exc, kF1_some, ev_fCall, kK2_ret, kK2_exc, kK1_some, ev_fCallK, kRun_nx, kRun_rt, kRun_exc, kRun_bad, ev_runF, ev_mDct0, kDc2_some, kDc_ok, kDc_exc, kDc_bad, ev_mDct, fIx, fAdd, fMul, fDivmod, fList, fTuple, fLst, fTup, fLen, fIsi, fApp, fSl10, fSl01, fSl11, fSl00, fRng1, fRng2, fIsN, share, look, vw, vws, T.at, T.sub, T.put, T.putS, putT, T.fz, T.fzL, tru, itemAt, atI, ixN, shL, shT, allD, tms, lenT, tyT, tyNs, tyD, subT, tys, nonT, hEq, hNe, hLt, hLe, hGt, hGe, hCmp, hIn, hAbs, h2F, hMax2, hMin2, h2I, hSub, hMod, hDiv, hPow, hNeg, hInt1, hBls, hInts, blsD, intsD, strsD, hJoin, fSl1, seqD, wipable, wipeE, unwipe, outs, isL, keysT, keyD, moveOut, putBack, holes, noIo, isH, arrT, arrG, Op.deep, itemsT, itemsL, SeqAt.shaped, PyData.canLay0, PyData.canLayAll0, PyData.depth, PyData.depthAll, PyData.eqv, PyData.eqvAll, hr2, hr]
  refine ⟨p1, hp1, ?_⟩
  show runF 7 [.io] (mSeq z__law_names_right_0 (mSeq z__law_names_right_1 (mSeq z__law_names_right_2 (mSeq z__law_names_right_3 (mSeq z__law_names_right_4 z__law_names_right_5))))) _ = _
  rw [ev_runF]
  show kRun [.io] (mSeq z__law_names_right_0 (mSeq z__law_names_right_1 (mSeq z__law_names_right_2 (mSeq z__law_names_right_3 (mSeq z__law_names_right_4 z__law_names_right_5)))) [some (P p), none, none, none, none, none, none]) = _
  rw [ev_mSeq, g0, kSeq_nx, ev_mSeq, g1, kSeq_nx, ev_mSeq, g2, kSeq_nx, ev_mSeq, g3, kSeq_nx, ev_mSeq, g4, kSeq_nx, g5, kRun_rt]
  rfl
end K10
namespace K10
open PySem L2 MV
theorem draw_ints {me : M} (hme : me = mSh false (mOpN (fCall [.io] m__law_integer) (mCons (mVar 0) mNil))) {n : Nat} (hn : n ≤ 100) {p : Int × Int} (hp : Ok p) (r1 r2 r3 r4 r5 r6 r7 : Option T) : ∃ (is : List Int) (p' : Int × Int), is.length = n ∧ (∀ i ∈ is, i.natAbs ≤ 10 ^ 40) ∧ Ok p' ∧ ∃ pf,
    mLcGo [8] (mTgN [0, 1, 2, 3, 4, 5, 6, 7] 8) mYes me (rangeL 0 (n : Int)) [] [some (P p), r1, r2, r3, r4, r5, r6, r7, none] = .ok (is.map fun i => T.d (.int i)) [some (P p'), r1, r2, r3, r4, r5, r6, r7, none] pf := by
  have hc := lc_inv (vs := [8]) (mg := mTgN [0, 1, 2, 3, 4, 5, 6, 7] 8) (mt := mYes) (me := me) (ρ0 := [some (P p), r1, r2, r3, r4, r5, r6, r7, none]) (ds := rangeL 0 (n : Int))
    (fun i acc ρ => ∃ (q : Int × Int) (is : List Int), Ok q ∧ is.length = i ∧ (∀ y ∈ is, y.natAbs ≤ 10 ^ 40) ∧ acc = is.map (fun i => T.d (.int i)) ∧ ρ = [some (P q), r1, r2, r3, r4, r5, r6, r7, none])
    ⟨p, [], hp, rfl, (fun _ z => nomatch z), rfl, rfl⟩ (by simp [rangeL]; omega) (fun i acc ρ ⟨q, is, _, h, _, e, _⟩ => by rw [e, List.length_map]; omega) (fun i acc ρ d hd ⟨q, is, hq, hl, hb, ea, er⟩ => by
      subst er
      obtain ⟨j, q1, hq1, hj, h⟩ := e_integer hq
      have he : me [some (P q), r1, r2, r3, r4, r5, r6, r7, some (.d d)] = .ok (.tm (.d (.int j))) [some (P q1), r1, r2, r3, r4, r5, r6, r7, some (.d d)] false := by
        rw [hme]
        simp [ev_mVar, ev_mD, ev_mV, ev_mNil, ev_mYes, kP_ok, kP_exc, kP_bad, kB_ok, kB_exc, kB_bad, kC2_ok, kC2_exc, kC2_bad, kC1_ok, kC1_exc, kC1_bad, ev_mCons, kOp_ok, kOp_exc, kOp_bad, ev_mOpN, ev_m2, ev_m1, kSh_ok, kSh_exc, kSh_bad, ev_mSh, kD2_some, kD2_none, kD1_some, kD1_none, ev_fD, kT2_some, kT2_none, kTst_ok, kTst_exc, kTst_bad, ev_mTst, boolT_b, kTb_ok, kTb_exc, kTb_bad, ev_mTb, kAnd_t, kAnd_f, kAnd_exc, kAnd_bad, ev_mAndB, kOr_f, kOr_t, kOr_exc, kOr_bad, ev_mOrB, kNot_ok, kNot_exc, kNot_bad, ev_mNotB, kNotV_ok, kNotV_exc, kNotV_bad, ev_mNotV, kAV2_t, kAV2_f, kAV2_n, kAV_ok, kAV_exc, kAV_bad, ev_mAndV, kOV2_f, kOV2_t, kOV2_n, kOV_ok, kOV_exc, kOV_bad, ev_mOrV, kIfE_t, kIfE_f, kIfE_exc, kIfE_bad, ev_mIfE, ev_mSkip, ev_mBrk, ev_mCnt, kSeq_nx, kSeq_rt, kSeq_bk, kSeq_ct, kSeq_exc, kSeq_bad, ev_mSeq, kIf_t, kIf_f, kIf_exc, kIf_bad, ev_mIf, kExpr_ok, kExpr_exc, kExpr_bad, ev_mExpr, kRet_tm, kRet_pl, kRet_exc, kRet_bad, ev_mRet, ev_mRetN, kAsg_tm, kAsg_exc, kAsg_bad, ev_mAsg, kG_ok, kG_bad, kAsgG_tm, kAsgG_exc, kAsgG_bad, ev_mAsgG, kPar_tm, kPar_exc, kPar_bad, ev_mPar, kFor_ok, kFor_exc, kFor_bad, ev_mFor, kI2_some, kI2_none, kIOp_ok, kIOp_exc, kIOp_bad, ev_mIOp, kSI_ok, kSI_exc, kSI_bad, ev_mSeqI, kL2_ok, kLc_ok, kLc_exc, kLc_bad, ev_mLc, ev_mTgN, ev_mGNil, kGs_ok, ev_mGCons, kTg_some, ev_mTgT, ev_mTgL, kS3_some, kS2_l, kS1_ok, ev_mTgS, kH4_some, kH3_some, kH2_ok, kH1_t, kH1_f, kH0_ok, kH_ok, kH_exc, kH_bad, ev_mCh, kInt_ok, ev_mInt, kStr2_ok, kStr_ok, kStr_exc, kStr_bad, ev_mStr, kLs2_ok, kLs_ok, kLs_exc, kLs_bad, ev_mLs, kA2_ok, kA2_exc, kA2_bad, kA1_ok, kA1_exc, kA1_bad, ev_mApp, kF3_some, kF4_some, kF2_ret, kF2_exc, kF1_some, ev_fCall, kK2_ret, kK2_exc, kK1_some, ev_fCallK, kRun_nx, kRun_rt, kRun_exc, kRun_bad, ev_runF, ev_mDct0, kDc2_some, kDc_ok, kDc_exc, kDc_bad, ev_mDct, fIx, fAdd, fMul, fDivmod, fList, fTuple, fLst, fTup, fLen, fIsi, fApp, fSl10, fSl01, fSl11, fSl00, fRng1, fRng2, fIsN, share, look, vw, vws, T.at, T.sub, T.put, T.putS, putT, T.fz, T.fzL, tru, itemAt, atI, ixN, shL, shT, allD, tms, lenT, tyT, tyNs, tyD, subT, tys, nonT, hEq, hNe, hLt, hLe, hGt, hGe, hCmp, hIn, hAbs, h2F, hMax2, hMin2, h2I, hSub, hMod, hDiv, hPow, hNeg, hInt1, hBls, hInts, blsD, intsD, strsD, hJoin, fSl1, seqD, wipable, wipeE, unwipe, outs, isL, keysT, keyD, moveOut, putBack, holes, noIo, isH, arrT, arrG, Op.deep, itemsT, itemsL, SeqAt.shaped, PyData.canLay0, PyData.canLayAll0, PyData.depth, PyData.depthAll, PyData.eqv, PyData.eqvAll, h]
      exact ⟨_, _, rfl, .inl ⟨_, _, _, _, _, rfl, he, q1, is ++ [j], hq1, by simp [hl], fun y hy => by
        rcases List.mem_append.mp hy with h | h
        · exact hb y h
        · have e : y = j := by simpa using h
          rw [e]
          exact hj, by simp [ea], rfl⟩⟩)
  obtain ⟨ts, ρ', p', h1, q, is, hq, hl, hb, rfl, rfl⟩ := hc
  exact ⟨is, q, by rw [hl]; simp [rangeL], hb, hq, p', h1⟩
def rowD (is : List Int) : List PyData := is.map PyData.int
theorem row_isI (is : List Int) : (rowD is).all isI = true := by
  rw [List.all_eq_true]
  intro x hx
  obtain ⟨i, _, rfl⟩ := List.mem_map.mp hx
  rfl
theorem rowB_row {is : List Int} (h1 : 1 ≤ is.length) (h2 : is.length ≤ 16) : rowB (.list (rowD is)) = true := by
  have e : (rowD is).length = is.length := List.length_map _
  show ((rowD is).all isI && (decide (1 ≤ (rowD is).length) && decide ((rowD is).length ≤ 16))) = true
  rw [row_isI, e, decide_eq_true h1, decide_eq_true h2]
  rfl
def spoilL (ds : List PyData) : List PyData := [.list ds, .tuple ds, .list (ds ++ [.bool true]), .list (ds ++ [.none]), .str ("1" : Str), .none, .list [], .list [.list ds]]
theorem spoil_len {ds : List PyData} (h : ds.length ≤ 16) {x : PyData} (hx : x ∈ spoilL ds) : lenD x ≤ 10000 := by
  simp only [spoilL, List.mem_cons, List.not_mem_nil, or_false] at hx
  rcases hx with rfl | rfl | rfl | rfl | rfl | rfl | rfl | rfl <;> simp [lenD] <;> omega
theorem rows_spoilt {p : Int × Int} {is : List Int} {w : Int} (hl : is.length ≤ 16) (hp : Ok p) : ∃ (x : PyData) (p' : Int × Int), Ok p' ∧ lenD x ≤ 10000 ∧
    z__law_rows_right_2 [some (P p), some (.d (.int w)), some (.d (.list (rowD is))), none, none, none, none, none, none] = .ok .nx [some (P p'), some (.d (.int w)), some (.d (.list (rowD is))), some (.d x), none, none, none, none, none] true := by
  have h8 := e_digit (n := 8) hp (by decide) (by decide)
  obtain ⟨v0, v1⟩ := dg_ok (p := p) (n := 8) (by decide)
  have hp1 := ps_ok (n := 8) hp
  generalize dg p 8 = v at *
  generalize ps p 8 = p1 at *
  have hlr : (rowD is).length = is.length := List.length_map _
  generalize rowD is = ds at *
  have hds : ds.length ≤ 16 := by omega
  have hlt : v.toNat < (spoilL ds).length := by show v.toNat < 8; omega
  have ha : atI (spoilL ds) v = some (spoilL ds)[v.toNat] := by
    have e := atI_nat (xs := spoilL ds) (j := v.toNat) (v := (spoilL ds)[v.toNat]) (by simp)
    rwa [Int.toNat_of_nonneg v0] at e
  refine ⟨(spoilL ds)[v.toNat], p1, hp1, spoil_len hds (List.getElem_mem hlt), ?_⟩
  generalize (spoilL ds)[v.toNat] = x at *
  have hadd : ∀ y : PyData, ds.length + [y].length ≤ 10000 := fun y => by simp only [List.length_cons, List.length_nil]; omega
  have hf := fzL_map_d (ds ++ [PyData.bool true])
  have hf2 := fzL_map_d (ds ++ [PyData.none])
  unfold spoilL at ha
  rw [List.map_append] at hf hf2
  have hd1 : ds.length + 1 ≤ 10000 := by omega
  have hd9 : ds.length ≤ 9999 := by omega
  unfold z__law_rows_right_2
  simp only [List.map_cons, List.map_nil] at hf hf2
  simp [ev_mVar, ev_mD, ev_mV, ev_mNil, ev_mYes, kP_ok, kP_exc, kP_bad, kB_ok, kB_exc, kB_bad, kC2_ok, kC2_exc, kC2_bad, kC1_ok, kC1_exc, kC1_bad, ev_mCons, kOp_ok, kOp_exc, kOp_bad, ev_mOpN, ev_m2, ev_m1, kSh_ok, kSh_exc, kSh_bad, ev_mSh, kD2_some, kD2_none, kD1_some, kD1_none, ev_fD, kT2_some, kT2_none, kTst_ok, kTst_exc, kTst_bad, ev_mTst, boolT_b, kTb_ok, kTb_exc, kTb_bad, ev_mTb, kAnd_t, kAnd_f, kAnd_exc, kAnd_bad, ev_mAndB, kOr_f, kOr_t, kOr_exc, kOr_bad, ev_mOrB, kNot_ok, kNot_exc, kNot_bad, ev_mNotB, kNotV_ok, kNotV_exc, kNotV_bad, ev_mNotV, kAV2_t, kAV2_f, kAV2_n, kAV_ok, kAV_exc, kAV_bad, ev_mAndV, kOV2_f, kOV2_t, kOV2_n, kOV_ok, kOV_exc, kOV_bad, ev_mOrV, kIfE_t, kIfE_f, kIfE_exc, kIfE_bad, ev_mIfE, ev_mSkip, ev_mBrk, ev_mCnt, kSeq_nx, kSeq_rt, kSeq_bk, kSeq_ct, kSeq_exc, kSeq_bad, ev_mSeq, kIf_t, kIf_f, kIf_exc, kIf_bad, ev_mIf, kExpr_ok, kExpr_exc, kExpr_bad, ev_mExpr, kRet_tm, kRet_pl, kRet_exc, kRet_bad, ev_mRet, ev_mRetN, kAsg_tm, kAsg_exc, kAsg_bad, ev_mAsg, kG_ok, kG_bad, kAsgG_tm, kAsgG_exc, kAsgG_bad, ev_mAsgG, kPar_tm, kPar_exc, kPar_bad, ev_mPar, kFor_ok, kFor_exc, kFor_bad, ev_mFor, kI2_some, kI2_none, kIOp_ok, kIOp_exc, kIOp_bad, ev_mIOp, kSI_ok, kSI_exc, kSI_bad, ev_mSeqI, kL2_ok, kLc_ok, kLc_exc, kLc_bad, ev_mLc, ev_mTgN, ev_mGNil, kGs_ok, ev_mGCons, kTg_some, ev_mTgT, ev_mTgL, kS3_some, kS2_l, kS1_ok, ev_mTgS, kH4_some, kH3_some, kH2_ok, kH1_t, kH1_f, kH0_ok, kH_ok, kH_exc, kH_bad, ev_mCh, kInt_ok, ev_mInt, kStr2_ok, kStr_ok, kStr_exc, kStr_bad, ev_mStr, kLs2_ok, kLs_ok, kLs_exc, kLs_bad, ev_mLs, kA2_ok, kA2_exc, kA2_bad, kA1_ok, kA1_exc, kA1_bad, ev_mApp, kF3_some, kF4_some, kF2_ret, kF2_exc, kF1_some, ev_fCall, kK2_ret, kK2_exc, kK1_some, ev_fCallK, kRun_nx, kRun_rt, kRun_exc, kRun_bad, ev_runF, ev_mDct0, kDc2_some, kDc_ok, kDc_exc, kDc_bad, ev_mDct, fIx, fAdd, fMul, fDivmod, fList, fTuple, fLst, fTup, fLen, fIsi, fApp, fSl10, fSl01, fSl11, fSl00, fRng1, fRng2, fIsN, share, look, vw, vws, T.at, T.sub, T.put, T.putS, putT, T.fz, T.fzL, tru, itemAt, ixN, shL, shT, allD, tms, lenT, tyT, tyNs, tyD, subT, tys, nonT, hEq, hNe, hLt, hLe, hGt, hGe, hCmp, hIn, hAbs, h2F, hMax2, hMin2, h2I, hSub, hMod, hDiv, hPow, hNeg, hInt1, hBls, hInts, blsD, intsD, strsD, hJoin, fSl1, seqD, wipable, wipeE, unwipe, outs, isL, keysT, keyD, moveOut, putBack, holes, noIo, isH, arrT, arrG, Op.deep, itemsT, itemsL, SeqAt.shaped, PyData.canLay0, PyData.canLayAll0, PyData.depth, PyData.depthAll, PyData.eqv, PyData.eqvAll, h8, ha, hf, hf2, hd1, hd9]
end K10
namespace K10
open PySem L2 MV
theorem fineAll_of {ds : List PyData} (h : ∀ d ∈ ds, fine d = true) : fineAll ds = true := by
  induction ds with
  | nil => simp only [fineAll]
  | cons d ds ih => rw [show fineAll (d :: ds) = (fine d && fineAll ds) by simp only [fineAll], h d (List.mem_cons_self ..), ih fun x hx => h x (List.mem_cons_of_mem _ hx)]; rfl
theorem bigAll_le {ds : List PyData} {B : Nat} (h : ∀ d ∈ ds, big d ≤ B) : bigAll ds ≤ ds.length * (B + 2) := by
  induction ds with
  | nil => simp [bigAll]
  | cons d ds ih =>
    have h1 := h d (List.mem_cons_self ..)
    have h2 := ih fun x hx => h x (List.mem_cons_of_mem _ hx)
    rw [show bigAll (d :: ds) = big d + 2 + bigAll ds by simp only [bigAll], List.length_cons, Nat.succ_mul]
    omega
theorem depthAll_le {ds : List PyData} {B : Nat} (h : ∀ d ∈ ds, d.depth ≤ B) : PyData.depthAll ds ≤ B := by
  induction ds with
  | nil => simp [PyData.depthAll]
  | cons d ds ih =>
    rw [show PyData.depthAll (d :: ds) = max d.depth (PyData.depthAll ds) by simp only [PyData.depthAll]]
    exact Nat.max_le.mpr ⟨h d (List.mem_cons_self ..), ih fun x hx => h x (List.mem_cons_of_mem _ hx)⟩
theorem unit_item {i : Int} {w : Nat} {d : PyData} (h : d ∈ unitD i 1 w) : d = .int 1 ∨ d = .int 0 := by
  obtain ⟨x, _, rfl⟩ := List.mem_map.mp h
  split
  · exact .inl rfl
  · exact .inr rfl
theorem unit_repr {i : Int} {w : Nat} (hw : w ≤ 16) : hRepr [.list [.list (unitD i 1 w), .list (unitD i 1 w), .list (unitD i 1 w)]] = some (.str (PyData.list [.list (unitD i 1 w), .list (unitD i 1 w), .list (unitD i 1 w)]).shown) := by
  have hf : fineAll (unitD i 1 w) = true := fineAll_of fun d hd => by rcases unit_item hd with rfl | rfl <;> decide
  have hb : bigAll (unitD i 1 w) ≤ (unitD i 1 w).length * (2 + 2) := bigAll_le fun d hd => by rcases unit_item hd with rfl | rfl <;> decide
  have hd : PyData.depthAll (unitD i 1 w) ≤ 0 := depthAll_le fun d hd => by rcases unit_item hd with rfl | rfl <;> decide
  have hl : (unitD i 1 w).length = w := by simp [unitD, rangeL]
  rw [hl] at hb
  generalize unitD i 1 w = u at *
  refine hRepr_ok ?_ ?_ ?_
  · simp only [fine, fineAll, hf, Bool.and_self]
  · simp only [big, bigAll]
    omega
  · simp only [PyData.depth, PyData.depthAll]
    omega
theorem rows_right {p : Int × Int} (hp : Ok p) : ∃ p', Ok p' ∧ m__law_rows_right [P p] = .ret (.d (.bool true)) [some (P p')] := by
  have h16 := e_digit (n := 16) hp (by decide) (by decide)
  obtain ⟨v0, v1⟩ := dg_ok (p := p) (n := 16) (by decide)
  have hp1 := ps_ok (n := 16) hp
  generalize dg p 16 = v at *
  generalize ps p 16 = p1 at *
  obtain ⟨w, hw⟩ : ∃ w : Nat, (w : Int) = 1 + v := ⟨(1 + v).toNat, by omega⟩
  have w1 : 1 ≤ w := by omega
  have w2 : w ≤ 16 := by omega
  have g0 : z__law_rows_right_0 [some (P p), none, none, none, none, none, none, none, none] = .ok .nx [some (P p1), some (.d (.int (w : Nat))), none, none, none, none, none, none, none] true := by
    unfold z__law_rows_right_0
    simp [ev_mVar, ev_mD, ev_mV, ev_mNil, ev_mYes, kP_ok, kP_exc, kP_bad, kB_ok, kB_exc, kB_bad, kC2_ok, kC2_exc, kC2_bad, kC1_ok, kC1_exc, kC1_bad, ev_mCons, kOp_ok, kOp_exc, kOp_bad, ev_mOpN, ev_m2, ev_m1, kSh_ok, kSh_exc, kSh_bad, ev_mSh, kD2_some, kD2_none, kD1_some, kD1_none, ev_fD, kT2_some, kT2_none, kTst_ok, kTst_exc, kTst_bad, ev_mTst, boolT_b, kTb_ok, kTb_exc, kTb_bad, ev_mTb, kAnd_t, kAnd_f, kAnd_exc, kAnd_bad, ev_mAndB, kOr_f, kOr_t, kOr_exc, kOr_bad, ev_mOrB, kNot_ok, kNot_exc, kNot_bad, ev_mNotB, kNotV_ok, kNotV_exc, kNotV_bad, ev_mNotV, kAV2_t, kAV2_f, kAV2_n, kAV_ok, kAV_exc, kAV_bad, ev_mAndV, kOV2_f, kOV2_t, kOV2_n, kOV_ok, kOV_exc, kOV_bad, ev_mOrV, kIfE_t, kIfE_f, kIfE_exc, kIfE_bad, ev_mIfE, ev_mSkip, ev_mBrk, ev_mCnt, kSeq_nx, kSeq_rt, kSeq_bk, kSeq_ct, kSeq_exc, kSeq_bad, ev_mSeq, kIf_t, kIf_f, kIf_exc, kIf_bad, ev_mIf, kExpr_ok, kExpr_exc, kExpr_bad, ev_mExpr, kRet_tm, kRet_pl, kRet_exc, kRet_bad, ev_mRet, ev_mRetN, kAsg_tm, kAsg_exc, kAsg_bad, ev_mAsg, kG_ok, kG_bad, kAsgG_tm, kAsgG_exc, kAsgG_bad, ev_mAsgG, kPar_tm, kPar_exc, kPar_bad, ev_mPar, kFor_ok, kFor_exc, kFor_bad, ev_mFor, kI2_some, kI2_none, kIOp_ok, kIOp_exc, kIOp_bad, ev_mIOp, kSI_ok, kSI_exc, kSI_bad, ev_mSeqI, kL2_ok, kLc_ok, kLc_exc, kLc_bad, ev_mLc, ev_mTgN, ev_mGNil, kGs_ok, ev_mGCons, kTg_some, ev_mTgT, ev_mTgL, kS3_some, kS2_l, kS1_ok, ev_mTgS, kH4_some, kH3_some, kH2_ok, kH1_t, kH1_f, kH0_ok, kH_ok, kH_exc, kH_bad, ev_mCh, kInt_ok, ev_mInt, kStr2_ok, kStr_ok, kStr_exc, kStr_bad, ev_mStr, kLs2_ok, kLs_ok, kLs_exc, kLs_bad, ev_mLs, kA2_ok, kA2_exc, kA2_bad, kA1_ok, kA1_exc, kA1_bad, ev_mApp, kF3_some, kF4_some, kF2_ret, kF2_exc, kF1_some, ev_fCall, kK2_ret, kK2_exc, kK1_some, ev_fCallK, kRun_nx, kRun_rt, kRun_exc, kRun_bad, ev_runF, ev_mDct0, kDc2_some, kDc_ok, kDc_exc, kDc_bad, ev_mDct, fIx, fAdd, fMul, fDivmod, fList, fTuple, fLst, fTup, fLen, fIsi, fApp, fSl10, fSl01, fSl11, fSl00, fRng1, fRng2, fIsN, share, look, vw, vws, T.at, T.sub, T.put, T.putS, putT, T.fz, T.fzL, tru, itemAt, atI, ixN, shL, shT, allD, tms, lenT, tyT, tyNs, tyD, subT, tys, nonT, hEq, hNe, hLt, hLe, hGt, hGe, hCmp, hIn, hAbs, h2F, hMax2, hMin2, h2I, hSub, hMod, hDiv, hPow, hNeg, hInt1, hBls, hInts, blsD, intsD, strsD, hJoin, fSl1, seqD, wipable, wipeE, unwipe, outs, isL, keysT, keyD, moveOut, putBack, holes, noIo, isH, arrT, arrG, Op.deep, itemsT, itemsL, SeqAt.shaped, PyData.canLay0, PyData.canLayAll0, PyData.depth, PyData.depthAll, PyData.eqv, PyData.eqvAll, h16, hw]
  have hwr : (w : Int) < 4611686018427387904 := by omega
  have hwr2 : (-4611686018427387904 : Int) ≤ w := by omega
  obtain ⟨is, p2, il, ib, hp2, pf, hc⟩ := draw_ints (me := e__law_rows_right_0) rfl (n := w) (by omega) hp1 (some (.d (.int (w : Nat)))) none none none none none none
  have g1 : z__law_rows_right_1 [some (P p1), some (.d (.int (w : Nat))), none, none, none, none, none, none, none] = .ok .nx [some (P p2), some (.d (.int (w : Nat))), some (.d (.list (rowD is))), none, none, none, none, none, none] true := by
    have hf := fzL_fn PyData.int is
    unfold z__law_rows_right_1 rowD
    simp [ev_mVar, ev_mD, ev_mV, ev_mNil, ev_mYes, kP_ok, kP_exc, kP_bad, kB_ok, kB_exc, kB_bad, kC2_ok, kC2_exc, kC2_bad, kC1_ok, kC1_exc, kC1_bad, ev_mCons, kOp_ok, kOp_exc, kOp_bad, ev_mOpN, ev_m2, ev_m1, kSh_ok, kSh_exc, kSh_bad, ev_mSh, kD2_some, kD2_none, kD1_some, kD1_none, ev_fD, kT2_some, kT2_none, kTst_ok, kTst_exc, kTst_bad, ev_mTst, boolT_b, kTb_ok, kTb_exc, kTb_bad, ev_mTb, kAnd_t, kAnd_f, kAnd_exc, kAnd_bad, ev_mAndB, kOr_f, kOr_t, kOr_exc, kOr_bad, ev_mOrB, kNot_ok, kNot_exc, kNot_bad, ev_mNotB, kNotV_ok, kNotV_exc, kNotV_bad, ev_mNotV, kAV2_t, kAV2_f, kAV2_n, kAV_ok, kAV_exc, kAV_bad, ev_mAndV, kOV2_f, kOV2_t, kOV2_n, kOV_ok, kOV_exc, kOV_bad, ev_mOrV, kIfE_t, kIfE_f, kIfE_exc, kIfE_bad, ev_mIfE, ev_mSkip, ev_mBrk, ev_mCnt, kSeq_nx, kSeq_rt, kSeq_bk, kSeq_ct, kSeq_exc, kSeq_bad, ev_mSeq, kIf_t, kIf_f, kIf_exc, kIf_bad, ev_mIf, kExpr_ok, kExpr_exc, kExpr_bad, ev_mExpr, kRet_tm, kRet_pl, kRet_exc, kRet_bad, ev_mRet, ev_mRetN, kAsg_tm, kAsg_exc, kAsg_bad, ev_mAsg, kG_ok, kG_bad, kAsgG_tm, kAsgG_exc, kAsgG_bad, ev_mAsgG, kPar_tm, kPar_exc, kPar_bad, ev_mPar, kFor_ok, kFor_exc, kFor_bad, ev_mFor, kI2_some, kI2_none, kIOp_ok, kIOp_exc, kIOp_bad, ev_mIOp, kSI_ok, kSI_exc, kSI_bad, ev_mSeqI, kL2_ok, kLc_ok, kLc_exc, kLc_bad, ev_mLc, ev_mTgN, ev_mGNil, kGs_ok, ev_mGCons, kTg_some, ev_mTgT, ev_mTgL, kS3_some, kS2_l, kS1_ok, ev_mTgS, kH4_some, kH3_some, kH2_ok, kH1_t, kH1_f, kH0_ok, kH_ok, kH_exc, kH_bad, ev_mCh, kInt_ok, ev_mInt, kStr2_ok, kStr_ok, kStr_exc, kStr_bad, ev_mStr, kLs2_ok, kLs_ok, kLs_exc, kLs_bad, ev_mLs, kA2_ok, kA2_exc, kA2_bad, kA1_ok, kA1_exc, kA1_bad, ev_mApp, kF3_some, kF4_some, kF2_ret, kF2_exc, kF1_some, ev_fCall, kK2_ret, kK2_exc, kK1_some, ev_fCallK, kRun_nx, kRun_rt, kRun_exc, kRun_bad, ev_runF, ev_mDct0, kDc2_some, kDc_ok, kDc_exc, kDc_bad, ev_mDct, fIx, fAdd, fMul, fDivmod, fList, fTuple, fLst, fTup, fLen, fIsi, fApp, fSl10, fSl01, fSl11, fSl00, fRng1, fRng2, fIsN, share, look, vw, vws, T.at, T.sub, T.put, T.putS, putT, T.fz, T.fzL, tru, itemAt, atI, ixN, shL, shT, allD, tms, lenT, tyT, tyNs, tyD, subT, tys, nonT, hEq, hNe, hLt, hLe, hGt, hGe, hCmp, hIn, hAbs, h2F, hMax2, hMin2, h2I, hSub, hMod, hDiv, hPow, hNeg, hInt1, hBls, hInts, blsD, intsD, strsD, hJoin, fSl1, seqD, wipable, wipeE, unwipe, outs, isL, keysT, keyD, moveOut, putBack, holes, noIo, isH, arrT, arrG, Op.deep, itemsT, itemsL, SeqAt.shaped, PyData.canLay0, PyData.canLayAll0, PyData.depth, PyData.depthAll, PyData.eqv, PyData.eqvAll, q__law_rows_right_0, g__law_rows_right_0, hwr, hwr2]
    simp [ev_mVar, ev_mD, ev_mV, ev_mNil, ev_mYes, kP_ok, kP_exc, kP_bad, kB_ok, kB_exc, kB_bad, kC2_ok, kC2_exc, kC2_bad, kC1_ok, kC1_exc, kC1_bad, ev_mCons, kOp_ok, kOp_exc, kOp_bad, ev_mOpN, ev_m2, ev_m1, kSh_ok, kSh_exc, kSh_bad, ev_mSh, kD2_some, kD2_none, kD1_some, kD1_none, ev_fD, kT2_some, kT2_none, kTst_ok, kTst_exc, kTst_bad, ev_mTst, boolT_b, kTb_ok, kTb_exc, kTb_bad, ev_mTb, kAnd_t, kAnd_f, kAnd_exc, kAnd_bad, ev_mAndB, kOr_f, kOr_t, kOr_exc, kOr_bad, ev_mOrB, kNot_ok, kNot_exc, kNot_bad, ev_mNotB, kNotV_ok, kNotV_exc, kNotV_bad, ev_mNotV, kAV2_t, kAV2_f, kAV2_n, kAV_ok, kAV_exc, kAV_bad, ev_mAndV, kOV2_f, kOV2_t, kOV2_n, kOV_ok, kOV_exc, kOV_bad, ev_mOrV, kIfE_t, kIfE_f, kIfE_exc, kIfE_bad, ev_mIfE, ev_mSkip, ev_mBrk, ev_mCnt, kSeq_nx, kSeq_rt, kSeq_bk, kSeq_ct, kSeq_exc, kSeq_bad, ev_mSeq, kIf_t, kIf_f, kIf_exc, kIf_bad, ev_mIf, kExpr_ok, kExpr_exc, kExpr_bad, ev_mExpr, kRet_tm, kRet_pl, kRet_exc, kRet_bad, ev_mRet, ev_mRetN, kAsg_tm, kAsg_exc, kAsg_bad, ev_mAsg, kG_ok, kG_bad, kAsgG_tm, kAsgG_exc, kAsgG_bad, ev_mAsgG, kPar_tm, kPar_exc, kPar_bad, ev_mPar, kFor_ok, kFor_exc, kFor_bad, ev_mFor, kI2_some, kI2_none, kIOp_ok, kIOp_exc, kIOp_bad, ev_mIOp, kSI_ok, kSI_exc, kSI_bad, ev_mSeqI, kL2_ok, kLc_ok, kLc_exc, kLc_bad, ev_mLc, ev_mTgN, ev_mGNil, kGs_ok, ev_mGCons, kTg_some, ev_mTgT, ev_mTgL, kS3_some, kS2_l, kS1_ok, ev_mTgS, kH4_some, kH3_some, kH2_ok, kH1_t, kH1_f, kH0_ok, kH_ok, kH_exc, kH_bad, ev_mCh, kInt_ok, ev_mInt, kStr2_ok, kStr_ok, kStr_exc, kStr_bad, ev_mStr, kLs2_ok, kLs_ok, kLs_exc, kLs_bad, ev_mLs, kA2_ok, kA2_exc, kA2_bad, kA1_ok, kA1_exc, kA1_bad, ev_mApp, kF3_some, kF4_some, kF2_ret, kF2_exc, kF1_some, ev_fCall, kK2_ret, kK2_exc, kK1_some, ev_fCallK, kRun_nx, kRun_rt, kRun_exc, kRun_bad, ev_runF, ev_mDct0, kDc2_some, kDc_ok, kDc_exc, kDc_bad, ev_mDct, fIx, fAdd, fMul, fDivmod, fList, fTuple, fLst, fTup, fLen, fIsi, fApp, fSl10, fSl01, fSl11, fSl00, fRng1, fRng2, fIsN, share, look, vw, vws, T.at, T.sub, T.put, T.putS, putT, T.fz, T.fzL, tru, itemAt, atI, ixN, shL, shT, allD, tms, lenT, tyT, tyNs, tyD, subT, tys, nonT, hEq, hNe, hLt, hLe, hGt, hGe, hCmp, hIn, hAbs, h2F, hMax2, hMin2, h2I, hSub, hMod, hDiv, hPow, hNeg, hInt1, hBls, hInts, blsD, intsD, strsD, hJoin, fSl1, seqD, wipable, wipeE, unwipe, outs, isL, keysT, keyD, moveOut, putBack, holes, noIo, isH, arrT, arrG, Op.deep, itemsT, itemsL, SeqAt.shaped, PyData.canLay0, PyData.canLayAll0, PyData.depth, PyData.depthAll, PyData.eqv, PyData.eqvAll, hc, hf]
  obtain ⟨x, p3, hp3, hx, g2⟩ := rows_spoilt (w := (w : Int)) (is := is) (by omega) hp2
  have hr := e_is_row hx
  have hb := hRepr_ok (d := .bool (rowB x)) rfl (by simp [big]) (by simp [PyData.depth])
  have g4 : z__law_rows_right_4 [some (P p3), some (.d (.int (w : Nat))), some (.d (.list (rowD is))), some (.d x), none, none, none, none, none] = .ok .nx [some (P p3), some (.d (.int (w : Nat))), some (.d (.list (rowD is))), some (.d x), none, none, none, none, none] true := by
    have e1 : arrT [.inl 0, .inr .none] [.d x] = [T.d x, .d .none] := rfl
    have e2 : arrT [.inl 0, .inl 1] [.d x, .d .none] = [T.d x, .d .none] := rfl
    unfold z__law_rows_right_4
    simp [ev_mVar, ev_mD, ev_mV, ev_mNil, ev_mYes, kP_ok, kP_exc, kP_bad, kB_ok, kB_exc, kB_bad, kC2_ok, kC2_exc, kC2_bad, kC1_ok, kC1_exc, kC1_bad, ev_mCons, kOp_ok, kOp_exc, kOp_bad, ev_mOpN, ev_m2, ev_m1, kSh_ok, kSh_exc, kSh_bad, ev_mSh, kD2_some, kD2_none, kD1_some, kD1_none, ev_fD, kT2_some, kT2_none, kTst_ok, kTst_exc, kTst_bad, ev_mTst, boolT_b, kTb_ok, kTb_exc, kTb_bad, ev_mTb, kAnd_t, kAnd_f, kAnd_exc, kAnd_bad, ev_mAndB, kOr_f, kOr_t, kOr_exc, kOr_bad, ev_mOrB, kNot_ok, kNot_exc, kNot_bad, ev_mNotB, kNotV_ok, kNotV_exc, kNotV_bad, ev_mNotV, kAV2_t, kAV2_f, kAV2_n, kAV_ok, kAV_exc, kAV_bad, ev_mAndV, kOV2_f, kOV2_t, kOV2_n, kOV_ok, kOV_exc, kOV_bad, ev_mOrV, kIfE_t, kIfE_f, kIfE_exc, kIfE_bad, ev_mIfE, ev_mSkip, ev_mBrk, ev_mCnt, kSeq_nx, kSeq_rt, kSeq_bk, kSeq_ct, kSeq_exc, kSeq_bad, ev_mSeq, kIf_t, kIf_f, kIf_exc, kIf_bad, ev_mIf, kExpr_ok, kExpr_exc, kExpr_bad, ev_mExpr, kRet_tm, kRet_pl, kRet_exc, kRet_bad, ev_mRet, ev_mRetN, kAsg_tm, kAsg_exc, kAsg_bad, ev_mAsg, kG_ok, kG_bad, kAsgG_tm, kAsgG_exc, kAsgG_bad, ev_mAsgG, kPar_tm, kPar_exc, kPar_bad, ev_mPar, kFor_ok, kFor_exc, kFor_bad, ev_mFor, kI2_some, kI2_none, kIOp_ok, kIOp_exc, kIOp_bad, ev_mIOp, kSI_ok, kSI_exc, kSI_bad, ev_mSeqI, kL2_ok, kLc_ok, kLc_exc, kLc_bad, ev_mLc, ev_mTgN, ev_mGNil, kGs_ok, ev_mGCons, kTg_some, ev_mTgT, ev_mTgL, kS3_some, kS2_l, kS1_ok, ev_mTgS, kH4_some, kH3_some, kH2_ok, kH1_t, kH1_f, kH0_ok, kH_ok, kH_exc, kH_bad, ev_mCh, kInt_ok, ev_mInt, kStr2_ok, kStr_ok, kStr_exc, kStr_bad, ev_mStr, kLs2_ok, kLs_ok, kLs_exc, kLs_bad, ev_mLs, kA2_ok, kA2_exc, kA2_bad, kA1_ok, kA1_exc, kA1_bad, ev_mApp, kF3_some, kF4_some, kF2_ret, kF2_exc, kF1_some, ev_fCall, kK2_ret, kK2_exc, kK1_some, ev_fCallK, kRun_nx, kRun_rt, kRun_exc, kRun_bad, ev_runF, ev_mDct0, kDc2_some, kDc_ok, kDc_exc, kDc_bad, ev_mDct, fIx, fAdd, fMul, fDivmod, fList, fTuple, fLst, fTup, fLen, fIsi, fApp, fSl10, fSl01, fSl11, fSl00, fRng1, fRng2, fIsN, share, look, vw, vws, T.at, T.sub, T.put, T.putS, putT, T.fz, T.fzL, tru, itemAt, atI, ixN, shL, shT, allD, tms, lenT, tyT, tyNs, tyD, subT, tys, nonT, hEq, hNe, hLt, hLe, hGt, hGe, hCmp, hIn, hAbs, h2F, hMax2, hMin2, h2I, hSub, hMod, hDiv, hPow, hNeg, hInt1, hBls, hInts, blsD, intsD, strsD, hJoin, fSl1, seqD, wipable, wipeE, unwipe, outs, isL, keysT, keyD, moveOut, putBack, holes, noIo, isH, Op.deep, itemsT, itemsL, SeqAt.shaped, PyData.canLay0, PyData.canLayAll0, PyData.depth, PyData.depthAll, PyData.eqv, PyData.eqvAll, e1, e2, hr, hb]
  have hw3 := e_digit (n := (w : Int)) hp3 (by omega) (Int.lt_of_le_of_lt (b := 16) (by omega) (by decide))
  obtain ⟨a0, a1⟩ := dg_ok (p := p3) (n := (w : Int)) (by omega)
  have hp4 := ps_ok (n := (w : Int)) hp3
  generalize dg p3 (w : Int) = a at *
  generalize ps p3 (w : Int) = p4 at *
  have g5 : z__law_rows_right_5 [some (P p3), some (.d (.int (w : Nat))), some (.d (.list (rowD is))), some (.d x), none, none, none, none, none] = .ok .nx [some (P p4), some (.d (.int (w : Nat))), some (.d (.list (rowD is))), some (.d x), some (.d (.int a)), none, none, none, none] true := by
    unfold z__law_rows_right_5
    simp [ev_mVar, ev_mD, ev_mV, ev_mNil, ev_mYes, kP_ok, kP_exc, kP_bad, kB_ok, kB_exc, kB_bad, kC2_ok, kC2_exc, kC2_bad, kC1_ok, kC1_exc, kC1_bad, ev_mCons, kOp_ok, kOp_exc, kOp_bad, ev_mOpN, ev_m2, ev_m1, kSh_ok, kSh_exc, kSh_bad, ev_mSh, kD2_some, kD2_none, kD1_some, kD1_none, ev_fD, kT2_some, kT2_none, kTst_ok, kTst_exc, kTst_bad, ev_mTst, boolT_b, kTb_ok, kTb_exc, kTb_bad, ev_mTb, kAnd_t, kAnd_f, kAnd_exc, kAnd_bad, ev_mAndB, kOr_f, kOr_t, kOr_exc, kOr_bad, ev_mOrB, kNot_ok, kNot_exc, kNot_bad, ev_mNotB, kNotV_ok, kNotV_exc, kNotV_bad, ev_mNotV, kAV2_t, kAV2_f, kAV2_n, kAV_ok, kAV_exc, kAV_bad, ev_mAndV, kOV2_f, kOV2_t, kOV2_n, kOV_ok, kOV_exc, kOV_bad, ev_mOrV, kIfE_t, kIfE_f, kIfE_exc, kIfE_bad, ev_mIfE, ev_mSkip, ev_mBrk, ev_mCnt, kSeq_nx, kSeq_rt, kSeq_bk, kSeq_ct, kSeq_exc, kSeq_bad, ev_mSeq, kIf_t, kIf_f, kIf_exc, kIf_bad, ev_mIf, kExpr_ok, kExpr_exc, kExpr_bad, ev_mExpr, kRet_tm, kRet_pl, kRet_exc, kRet_bad, ev_mRet, ev_mRetN, kAsg_tm, kAsg_exc, kAsg_bad, ev_mAsg, kG_ok, kG_bad, kAsgG_tm, kAsgG_exc, kAsgG_bad, ev_mAsgG, kPar_tm, kPar_exc, kPar_bad, ev_mPar, kFor_ok, kFor_exc, kFor_bad, ev_mFor, kI2_some, kI2_none, kIOp_ok, kIOp_exc, kIOp_bad, ev_mIOp, kSI_ok, kSI_exc, kSI_bad, ev_mSeqI, kL2_ok, kLc_ok, kLc_exc, kLc_bad, ev_mLc, ev_mTgN, ev_mGNil, kGs_ok, ev_mGCons, kTg_some, ev_mTgT, ev_mTgL, kS3_some, kS2_l, kS1_ok, ev_mTgS, kH4_some, kH3_some, kH2_ok, kH1_t, kH1_f, kH0_ok, kH_ok, kH_exc, kH_bad, ev_mCh, kInt_ok, ev_mInt, kStr2_ok, kStr_ok, kStr_exc, kStr_bad, ev_mStr, kLs2_ok, kLs_ok, kLs_exc, kLs_bad, ev_mLs, kA2_ok, kA2_exc, kA2_bad, kA1_ok, kA1_exc, kA1_bad, ev_mApp, kF3_some, kF4_some, kF2_ret, kF2_exc, kF1_some, ev_fCall, kK2_ret, kK2_exc, kK1_some, ev_fCallK, kRun_nx, kRun_rt, kRun_exc, kRun_bad, ev_runF, ev_mDct0, kDc2_some, kDc_ok, kDc_exc, kDc_bad, ev_mDct, fIx, fAdd, fMul, fDivmod, fList, fTuple, fLst, fTup, fLen, fIsi, fApp, fSl10, fSl01, fSl11, fSl00, fRng1, fRng2, fIsN, share, look, vw, vws, T.at, T.sub, T.put, T.putS, putT, T.fz, T.fzL, tru, itemAt, atI, ixN, shL, shT, allD, tms, lenT, tyT, tyNs, tyD, subT, tys, nonT, hEq, hNe, hLt, hLe, hGt, hGe, hCmp, hIn, hAbs, h2F, hMax2, hMin2, h2I, hSub, hMod, hDiv, hPow, hNeg, hInt1, hBls, hInts, blsD, intsD, strsD, hJoin, fSl1, seqD, wipable, wipeE, unwipe, outs, isL, keysT, keyD, moveOut, putBack, holes, noIo, isH, arrT, arrG, Op.deep, itemsT, itemsL, SeqAt.shaped, PyData.canLay0, PyData.canLayAll0, PyData.depth, PyData.depthAll, PyData.eqv, PyData.eqvAll, hw3]
  have g6 : z__law_rows_right_6 [some (P p4), some (.d (.int (w : Nat))), some (.d (.list (rowD is))), some (.d x), some (.d (.int a)), none, none, none, none] = .ok .nx [some (P p4), some (.d (.int (w : Nat))), some (.d (.list (rowD is))), some (.d x), some (.d (.int a)), some (.d (.list (unitD a 1 w))), none, none, none] true := by
    have hc2 : mLcGo [8] g__law_rows_right_1 mYes e__law_rows_right_1 (rangeL 0 (w : Int)) [] [some (P p4), some (.d (.int (w : Nat))), some (.d (.list (rowD is))), some (.d x), some (.d (.int a)), none, none, none, none] = .ok ((rangeL 0 (w : Int)).map fun d => .d (if PyData.eqv d (.int a) = true then .int 1 else .int 0)) [some (P p4), some (.d (.int (w : Nat))), some (.d (.list (rowD is))), some (.d x), some (.d (.int a)), none, none, none, none] true := by
      refine lc_map _ (by simp [rangeL]; omega) fun d hd => ?_
      obtain ⟨k, _, rfl⟩ := List.mem_map.mp hd
      have he : e__law_rows_right_1 [some (P p4), some (.d (.int (w : Nat))), some (.d (.list (rowD is))), some (.d x), some (.d (.int a)), none, none, none, some (.d (.int (0 + (k : Int))))] = .ok (.tm (.d (if PyData.eqv (.int (0 + (k : Int))) (.int a) = true then .int 1 else .int 0))) [some (P p4), some (.d (.int (w : Nat))), some (.d (.list (rowD is))), some (.d x), some (.d (.int a)), none, none, none, some (.d (.int (0 + (k : Int))))] true := by
        unfold e__law_rows_right_1
        by_cases hk : ((0 + (k : Int)) == a) = true
        · simp only [Int.zero_add] at hk
          simp [ev_mVar, ev_mD, ev_mV, ev_mNil, ev_mYes, kP_ok, kP_exc, kP_bad, kB_ok, kB_exc, kB_bad, kC2_ok, kC2_exc, kC2_bad, kC1_ok, kC1_exc, kC1_bad, ev_mCons, kOp_ok, kOp_exc, kOp_bad, ev_mOpN, ev_m2, ev_m1, kSh_ok, kSh_exc, kSh_bad, ev_mSh, kD2_some, kD2_none, kD1_some, kD1_none, ev_fD, kT2_some, kT2_none, kTst_ok, kTst_exc, kTst_bad, ev_mTst, boolT_b, kTb_ok, kTb_exc, kTb_bad, ev_mTb, kAnd_t, kAnd_f, kAnd_exc, kAnd_bad, ev_mAndB, kOr_f, kOr_t, kOr_exc, kOr_bad, ev_mOrB, kNot_ok, kNot_exc, kNot_bad, ev_mNotB, kNotV_ok, kNotV_exc, kNotV_bad, ev_mNotV, kAV2_t, kAV2_f, kAV2_n, kAV_ok, kAV_exc, kAV_bad, ev_mAndV, kOV2_f, kOV2_t, kOV2_n, kOV_ok, kOV_exc, kOV_bad, ev_mOrV, kIfE_t, kIfE_f, kIfE_exc, kIfE_bad, ev_mIfE, ev_mSkip, ev_mBrk, ev_mCnt, kSeq_nx, kSeq_rt, kSeq_bk, kSeq_ct, kSeq_exc, kSeq_bad, ev_mSeq, kIf_t, kIf_f, kIf_exc, kIf_bad, ev_mIf, kExpr_ok, kExpr_exc, kExpr_bad, ev_mExpr, kRet_tm, kRet_pl, kRet_exc, kRet_bad, ev_mRet, ev_mRetN, kAsg_tm, kAsg_exc, kAsg_bad, ev_mAsg, kG_ok, kG_bad, kAsgG_tm, kAsgG_exc, kAsgG_bad, ev_mAsgG, kPar_tm, kPar_exc, kPar_bad, ev_mPar, kFor_ok, kFor_exc, kFor_bad, ev_mFor, kI2_some, kI2_none, kIOp_ok, kIOp_exc, kIOp_bad, ev_mIOp, kSI_ok, kSI_exc, kSI_bad, ev_mSeqI, kL2_ok, kLc_ok, kLc_exc, kLc_bad, ev_mLc, ev_mTgN, ev_mGNil, kGs_ok, ev_mGCons, kTg_some, ev_mTgT, ev_mTgL, kS3_some, kS2_l, kS1_ok, ev_mTgS, kH4_some, kH3_some, kH2_ok, kH1_t, kH1_f, kH0_ok, kH_ok, kH_exc, kH_bad, ev_mCh, kInt_ok, ev_mInt, kStr2_ok, kStr_ok, kStr_exc, kStr_bad, ev_mStr, kLs2_ok, kLs_ok, kLs_exc, kLs_bad, ev_mLs, kA2_ok, kA2_exc, kA2_bad, kA1_ok, kA1_exc, kA1_bad, ev_mApp, kF3_some, kF4_some, kF2_ret, kF2_exc, kF1_some, ev_fCall, kK2_ret, kK2_exc, kK1_some, ev_fCallK, kRun_nx, kRun_rt, kRun_exc, kRun_bad, ev_runF, ev_mDct0, kDc2_some, kDc_ok, kDc_exc, kDc_bad, ev_mDct, fIx, fAdd, fMul, fDivmod, fList, fTuple, fLst, fTup, fLen, fIsi, fApp, fSl10, fSl01, fSl11, fSl00, fRng1, fRng2, fIsN, share, look, vw, vws, T.at, T.sub, T.put, T.putS, putT, T.fz, T.fzL, tru, itemAt, atI, ixN, shL, shT, allD, tms, lenT, tyT, tyNs, tyD, subT, tys, nonT, hEq, hNe, hLt, hLe, hGt, hGe, hCmp, hIn, hAbs, h2F, hMax2, hMin2, h2I, hSub, hMod, hDiv, hPow, hNeg, hInt1, hBls, hInts, blsD, intsD, strsD, hJoin, fSl1, seqD, wipable, wipeE, unwipe, outs, isL, keysT, keyD, moveOut, putBack, holes, noIo, isH, arrT, arrG, Op.deep, itemsT, itemsL, SeqAt.shaped, PyData.canLay0, PyData.canLayAll0, PyData.depth, PyData.depthAll, PyData.eqv, PyData.eqvAll, hk]
        · simp only [Int.zero_add, Bool.not_eq_true] at hk
          simp [ev_mVar, ev_mD, ev_mV, ev_mNil, ev_mYes, kP_ok, kP_exc, kP_bad, kB_ok, kB_exc, kB_bad, kC2_ok, kC2_exc, kC2_bad, kC1_ok, kC1_exc, kC1_bad, ev_mCons, kOp_ok, kOp_exc, kOp_bad, ev_mOpN, ev_m2, ev_m1, kSh_ok, kSh_exc, kSh_bad, ev_mSh, kD2_some, kD2_none, kD1_some, kD1_none, ev_fD, kT2_some, kT2_none, kTst_ok, kTst_exc, kTst_bad, ev_mTst, boolT_b, kTb_ok, kTb_exc, kTb_bad, ev_mTb, kAnd_t, kAnd_f, kAnd_exc, kAnd_bad, ev_mAndB, kOr_f, kOr_t, kOr_exc, kOr_bad, ev_mOrB, kNot_ok, kNot_exc, kNot_bad, ev_mNotB, kNotV_ok, kNotV_exc, kNotV_bad, ev_mNotV, kAV2_t, kAV2_f, kAV2_n, kAV_ok, kAV_exc, kAV_bad, ev_mAndV, kOV2_f, kOV2_t, kOV2_n, kOV_ok, kOV_exc, kOV_bad, ev_mOrV, kIfE_t, kIfE_f, kIfE_exc, kIfE_bad, ev_mIfE, ev_mSkip, ev_mBrk, ev_mCnt, kSeq_nx, kSeq_rt, kSeq_bk, kSeq_ct, kSeq_exc, kSeq_bad, ev_mSeq, kIf_t, kIf_f, kIf_exc, kIf_bad, ev_mIf, kExpr_ok, kExpr_exc, kExpr_bad, ev_mExpr, kRet_tm, kRet_pl, kRet_exc, kRet_bad, ev_mRet, ev_mRetN, kAsg_tm, kAsg_exc, kAsg_bad, ev_mAsg, kG_ok, kG_bad, kAsgG_tm, kAsgG_exc, kAsgG_bad, ev_mAsgG, kPar_tm, kPar_exc, kPar_bad, ev_mPar, kFor_ok, kFor_exc, kFor_bad, ev_mFor, kI2_some, kI2_none, kIOp_ok, kIOp_exc, kIOp_bad, ev_mIOp, kSI_ok, kSI_exc, kSI_bad, ev_mSeqI, kL2_ok, kLc_ok, kLc_exc, kLc_bad, ev_mLc, ev_mTgN, ev_mGNil, kGs_ok, ev_mGCons, kTg_some, ev_mTgT, ev_mTgL, kS3_some, kS2_l, kS1_ok, ev_mTgS, kH4_some, kH3_some, kH2_ok, kH1_t, kH1_f, kH0_ok, kH_ok, kH_exc, kH_bad, ev_mCh, kInt_ok, ev_mInt, kStr2_ok, kStr_ok, kStr_exc, kStr_bad, ev_mStr, kLs2_ok, kLs_ok, kLs_exc, kLs_bad, ev_mLs, kA2_ok, kA2_exc, kA2_bad, kA1_ok, kA1_exc, kA1_bad, ev_mApp, kF3_some, kF4_some, kF2_ret, kF2_exc, kF1_some, ev_fCall, kK2_ret, kK2_exc, kK1_some, ev_fCallK, kRun_nx, kRun_rt, kRun_exc, kRun_bad, ev_runF, ev_mDct0, kDc2_some, kDc_ok, kDc_exc, kDc_bad, ev_mDct, fIx, fAdd, fMul, fDivmod, fList, fTuple, fLst, fTup, fLen, fIsi, fApp, fSl10, fSl01, fSl11, fSl00, fRng1, fRng2, fIsN, share, look, vw, vws, T.at, T.sub, T.put, T.putS, putT, T.fz, T.fzL, tru, itemAt, atI, ixN, shL, shT, allD, tms, lenT, tyT, tyNs, tyD, subT, tys, nonT, hEq, hNe, hLt, hLe, hGt, hGe, hCmp, hIn, hAbs, h2F, hMax2, hMin2, h2I, hSub, hMod, hDiv, hPow, hNeg, hInt1, hBls, hInts, blsD, intsD, strsD, hJoin, fSl1, seqD, wipable, wipeE, unwipe, outs, isL, keysT, keyD, moveOut, putBack, holes, noIo, isH, arrT, arrG, Op.deep, itemsT, itemsL, SeqAt.shaped, PyData.canLay0, PyData.canLayAll0, PyData.depth, PyData.depthAll, PyData.eqv, PyData.eqvAll, hk]
      exact ⟨_, _, _, _, _, _, rfl, rfl, he, rfl⟩
    have hf := fzL_fn (fun d : PyData => if PyData.eqv d (.int a) = true then PyData.int 1 else PyData.int 0) (rangeL 0 (w : Int))
    unfold z__law_rows_right_6 unitD
    simp [ev_mVar, ev_mD, ev_mV, ev_mNil, ev_mYes, kP_ok, kP_exc, kP_bad, kB_ok, kB_exc, kB_bad, kC2_ok, kC2_exc, kC2_bad, kC1_ok, kC1_exc, kC1_bad, ev_mCons, kOp_ok, kOp_exc, kOp_bad, ev_mOpN, ev_m2, ev_m1, kSh_ok, kSh_exc, kSh_bad, ev_mSh, kD2_some, kD2_none, kD1_some, kD1_none, ev_fD, kT2_some, kT2_none, kTst_ok, kTst_exc, kTst_bad, ev_mTst, boolT_b, kTb_ok, kTb_exc, kTb_bad, ev_mTb, kAnd_t, kAnd_f, kAnd_exc, kAnd_bad, ev_mAndB, kOr_f, kOr_t, kOr_exc, kOr_bad, ev_mOrB, kNot_ok, kNot_exc, kNot_bad, ev_mNotB, kNotV_ok, kNotV_exc, kNotV_bad, ev_mNotV, kAV2_t, kAV2_f, kAV2_n, kAV_ok, kAV_exc, kAV_bad, ev_mAndV, kOV2_f, kOV2_t, kOV2_n, kOV_ok, kOV_exc, kOV_bad, ev_mOrV, kIfE_t, kIfE_f, kIfE_exc, kIfE_bad, ev_mIfE, ev_mSkip, ev_mBrk, ev_mCnt, kSeq_nx, kSeq_rt, kSeq_bk, kSeq_ct, kSeq_exc, kSeq_bad, ev_mSeq, kIf_t, kIf_f, kIf_exc, kIf_bad, ev_mIf, kExpr_ok, kExpr_exc, kExpr_bad, ev_mExpr, kRet_tm, kRet_pl, kRet_exc, kRet_bad, ev_mRet, ev_mRetN, kAsg_tm, kAsg_exc, kAsg_bad, ev_mAsg, kG_ok, kG_bad, kAsgG_tm, kAsgG_exc, kAsgG_bad, ev_mAsgG, kPar_tm, kPar_exc, kPar_bad, ev_mPar, kFor_ok, kFor_exc, kFor_bad, ev_mFor, kI2_some, kI2_none, kIOp_ok, kIOp_exc, kIOp_bad, ev_mIOp, kSI_ok, kSI_exc, kSI_bad, ev_mSeqI, kL2_ok, kLc_ok, kLc_exc, kLc_bad, ev_mLc, ev_mTgN, ev_mGNil, kGs_ok, ev_mGCons, kTg_some, ev_mTgT, ev_mTgL, kS3_some, kS2_l, kS1_ok, ev_mTgS, kH4_some, kH3_some, kH2_ok, kH1_t, kH1_f, kH0_ok, kH_ok, kH_exc, kH_bad, ev_mCh, kInt_ok, ev_mInt, kStr2_ok, kStr_ok, kStr_exc, kStr_bad, ev_mStr, kLs2_ok, kLs_ok, kLs_exc, kLs_bad, ev_mLs, kA2_ok, kA2_exc, kA2_bad, kA1_ok, kA1_exc, kA1_bad, ev_mApp, kF3_some, kF4_some, kF2_ret, kF2_exc, kF1_some, ev_fCall, kK2_ret, kK2_exc, kK1_some, ev_fCallK, kRun_nx, kRun_rt, kRun_exc, kRun_bad, ev_runF, ev_mDct0, kDc2_some, kDc_ok, kDc_exc, kDc_bad, ev_mDct, fIx, fAdd, fMul, fDivmod, fList, fTuple, fLst, fTup, fLen, fIsi, fApp, fSl10, fSl01, fSl11, fSl00, fRng1, fRng2, fIsN, share, look, vw, vws, T.at, T.sub, T.put, T.putS, putT, T.fz, T.fzL, tru, itemAt, atI, ixN, shL, shT, allD, tms, lenT, tyT, tyNs, tyD, subT, tys, nonT, hEq, hNe, hLt, hLe, hGt, hGe, hCmp, hIn, hAbs, h2F, hMax2, hMin2, h2I, hSub, hMod, hDiv, hPow, hNeg, hInt1, hBls, hInts, blsD, intsD, strsD, hJoin, fSl1, seqD, wipable, wipeE, unwipe, outs, isL, keysT, keyD, moveOut, putBack, holes, noIo, isH, arrT, arrG, Op.deep, itemsT, itemsL, SeqAt.shaped, PyData.canLay0, PyData.canLayAll0, PyData.depth, PyData.depthAll, PyData.eqvAll, q__law_rows_right_1, hwr, hwr2]
    simp [ev_mVar, ev_mD, ev_mV, ev_mNil, ev_mYes, kP_ok, kP_exc, kP_bad, kB_ok, kB_exc, kB_bad, kC2_ok, kC2_exc, kC2_bad, kC1_ok, kC1_exc, kC1_bad, ev_mCons, kOp_ok, kOp_exc, kOp_bad, ev_mOpN, ev_m2, ev_m1, kSh_ok, kSh_exc, kSh_bad, ev_mSh, kD2_some, kD2_none, kD1_some, kD1_none, ev_fD, kT2_some, kT2_none, kTst_ok, kTst_exc, kTst_bad, ev_mTst, boolT_b, kTb_ok, kTb_exc, kTb_bad, ev_mTb, kAnd_t, kAnd_f, kAnd_exc, kAnd_bad, ev_mAndB, kOr_f, kOr_t, kOr_exc, kOr_bad, ev_mOrB, kNot_ok, kNot_exc, kNot_bad, ev_mNotB, kNotV_ok, kNotV_exc, kNotV_bad, ev_mNotV, kAV2_t, kAV2_f, kAV2_n, kAV_ok, kAV_exc, kAV_bad, ev_mAndV, kOV2_f, kOV2_t, kOV2_n, kOV_ok, kOV_exc, kOV_bad, ev_mOrV, kIfE_t, kIfE_f, kIfE_exc, kIfE_bad, ev_mIfE, ev_mSkip, ev_mBrk, ev_mCnt, kSeq_nx, kSeq_rt, kSeq_bk, kSeq_ct, kSeq_exc, kSeq_bad, ev_mSeq, kIf_t, kIf_f, kIf_exc, kIf_bad, ev_mIf, kExpr_ok, kExpr_exc, kExpr_bad, ev_mExpr, kRet_tm, kRet_pl, kRet_exc, kRet_bad, ev_mRet, ev_mRetN, kAsg_tm, kAsg_exc, kAsg_bad, ev_mAsg, kG_ok, kG_bad, kAsgG_tm, kAsgG_exc, kAsgG_bad, ev_mAsgG, kPar_tm, kPar_exc, kPar_bad, ev_mPar, kFor_ok, kFor_exc, kFor_bad, ev_mFor, kI2_some, kI2_none, kIOp_ok, kIOp_exc, kIOp_bad, ev_mIOp, kSI_ok, kSI_exc, kSI_bad, ev_mSeqI, kL2_ok, kLc_ok, kLc_exc, kLc_bad, ev_mLc, ev_mTgN, ev_mGNil, kGs_ok, ev_mGCons, kTg_some, ev_mTgT, ev_mTgL, kS3_some, kS2_l, kS1_ok, ev_mTgS, kH4_some, kH3_some, kH2_ok, kH1_t, kH1_f, kH0_ok, kH_ok, kH_exc, kH_bad, ev_mCh, kInt_ok, ev_mInt, kStr2_ok, kStr_ok, kStr_exc, kStr_bad, ev_mStr, kLs2_ok, kLs_ok, kLs_exc, kLs_bad, ev_mLs, kA2_ok, kA2_exc, kA2_bad, kA1_ok, kA1_exc, kA1_bad, ev_mApp, kF3_some, kF4_some, kF2_ret, kF2_exc, kF1_some, ev_fCall, kK2_ret, kK2_exc, kK1_some, ev_fCallK, kRun_nx, kRun_rt, kRun_exc, kRun_bad, ev_runF, ev_mDct0, kDc2_some, kDc_ok, kDc_exc, kDc_bad, ev_mDct, fIx, fAdd, fMul, fDivmod, fList, fTuple, fLst, fTup, fLen, fIsi, fApp, fSl10, fSl01, fSl11, fSl00, fRng1, fRng2, fIsN, share, look, vw, vws, T.at, T.sub, T.put, T.putS, putT, T.fz, T.fzL, tru, itemAt, atI, ixN, shL, shT, allD, tms, lenT, tyT, tyNs, tyD, subT, tys, nonT, hEq, hNe, hLt, hLe, hGt, hGe, hCmp, hIn, hAbs, h2F, hMax2, hMin2, h2I, hSub, hMod, hDiv, hPow, hNeg, hInt1, hBls, hInts, blsD, intsD, strsD, hJoin, fSl1, seqD, wipable, wipeE, unwipe, outs, isL, keysT, keyD, moveOut, putBack, holes, noIo, isH, arrT, arrG, Op.deep, itemsT, itemsL, SeqAt.shaped, PyData.canLay0, PyData.canLayAll0, PyData.depth, PyData.depthAll, PyData.eqvAll, hc2, hf]
  have hu := e_unit_row (i := a) (f := 1) w1 w2 a0 (by omega)
  have g7 : z__law_rows_right_7 [some (P p4), some (.d (.int (w : Nat))), some (.d (.list (rowD is))), some (.d x), some (.d (.int a)), some (.d (.list (unitD a 1 w))), none, none, none] = .ok .nx [some (P p4), some (.d (.int (w : Nat))), some (.d (.list (rowD is))), some (.d x), some (.d (.int a)), some (.d (.list (unitD a 1 w))), some (.d (.list [.list (unitD a 1 w), .list (unitD a 1 w), .list (unitD a 1 w)])), none, none] true := by
    have e1 : arrT [.inl 0, .inl 1, .inr (.int 1)] [.d (.int a), .d (.int (w : Nat))] = [T.d (.int a), .d (.int (w : Nat)), .d (.int 1)] := rfl
    have e2 : arrT [.inl 0, .inl 1, .inl 2] [.d (.int a), .d (.int (w : Nat)), .d (.int 1)] = [T.d (.int a), .d (.int (w : Nat)), .d (.int 1)] := rfl
    have e3 : arrT [.inl 0, .inl 2, .inl 1] [.d (.int a), .d (.int 1), .d (.int (w : Nat))] = [T.d (.int a), .d (.int (w : Nat)), .d (.int 1)] := rfl
    unfold z__law_rows_right_7
    simp [ev_mVar, ev_mD, ev_mV, ev_mNil, ev_mYes, kP_ok, kP_exc, kP_bad, kB_ok, kB_exc, kB_bad, kC2_ok, kC2_exc, kC2_bad, kC1_ok, kC1_exc, kC1_bad, ev_mCons, kOp_ok, kOp_exc, kOp_bad, ev_mOpN, ev_m2, ev_m1, kSh_ok, kSh_exc, kSh_bad, ev_mSh, kD2_some, kD2_none, kD1_some, kD1_none, ev_fD, kT2_some, kT2_none, kTst_ok, kTst_exc, kTst_bad, ev_mTst, boolT_b, kTb_ok, kTb_exc, kTb_bad, ev_mTb, kAnd_t, kAnd_f, kAnd_exc, kAnd_bad, ev_mAndB, kOr_f, kOr_t, kOr_exc, kOr_bad, ev_mOrB, kNot_ok, kNot_exc, kNot_bad, ev_mNotB, kNotV_ok, kNotV_exc, kNotV_bad, ev_mNotV, kAV2_t, kAV2_f, kAV2_n, kAV_ok, kAV_exc, kAV_bad, ev_mAndV, kOV2_f, kOV2_t, kOV2_n, kOV_ok, kOV_exc, kOV_bad, ev_mOrV, kIfE_t, kIfE_f, kIfE_exc, kIfE_bad, ev_mIfE, ev_mSkip, ev_mBrk, ev_mCnt, kSeq_nx, kSeq_rt, kSeq_bk, kSeq_ct, kSeq_exc, kSeq_bad, ev_mSeq, kIf_t, kIf_f, kIf_exc, kIf_bad, ev_mIf, kExpr_ok, kExpr_exc, kExpr_bad, ev_mExpr, kRet_tm, kRet_pl, kRet_exc, kRet_bad, ev_mRet, ev_mRetN, kAsg_tm, kAsg_exc, kAsg_bad, ev_mAsg, kG_ok, kG_bad, kAsgG_tm, kAsgG_exc, kAsgG_bad, ev_mAsgG, kPar_tm, kPar_exc, kPar_bad, ev_mPar, kFor_ok, kFor_exc, kFor_bad, ev_mFor, kI2_some, kI2_none, kIOp_ok, kIOp_exc, kIOp_bad, ev_mIOp, kSI_ok, kSI_exc, kSI_bad, ev_mSeqI, kL2_ok, kLc_ok, kLc_exc, kLc_bad, ev_mLc, ev_mTgN, ev_mGNil, kGs_ok, ev_mGCons, kTg_some, ev_mTgT, ev_mTgL, kS3_some, kS2_l, kS1_ok, ev_mTgS, kH4_some, kH3_some, kH2_ok, kH1_t, kH1_f, kH0_ok, kH_ok, kH_exc, kH_bad, ev_mCh, kInt_ok, ev_mInt, kStr2_ok, kStr_ok, kStr_exc, kStr_bad, ev_mStr, kLs2_ok, kLs_ok, kLs_exc, kLs_bad, ev_mLs, kA2_ok, kA2_exc, kA2_bad, kA1_ok, kA1_exc, kA1_bad, ev_mApp, kF3_some, kF4_some, kF2_ret, kF2_exc, kF1_some, ev_fCall, kK2_ret, kK2_exc, kK1_some, ev_fCallK, kRun_nx, kRun_rt, kRun_exc, kRun_bad, ev_runF, ev_mDct0, kDc2_some, kDc_ok, kDc_exc, kDc_bad, ev_mDct, fIx, fAdd, fMul, fDivmod, fList, fTuple, fLst, fTup, fLen, fIsi, fApp, fSl10, fSl01, fSl11, fSl00, fRng1, fRng2, fIsN, share, look, vw, vws, T.at, T.sub, T.put, T.putS, putT, T.fz, T.fzL, tru, itemAt, atI, ixN, shL, shT, allD, tms, lenT, tyT, tyNs, tyD, subT, tys, nonT, hEq, hNe, hLt, hLe, hGt, hGe, hCmp, hIn, hAbs, h2F, hMax2, hMin2, h2I, hSub, hMod, hDiv, hPow, hNeg, hInt1, hBls, hInts, blsD, intsD, strsD, hJoin, fSl1, seqD, wipable, wipeE, unwipe, outs, isL, keysT, keyD, moveOut, putBack, holes, noIo, isH, Op.deep, itemsT, itemsL, SeqAt.shaped, PyData.canLay0, PyData.canLayAll0, PyData.depth, PyData.depthAll, PyData.eqv, PyData.eqvAll, e1, e2, e3, hu]
  have hur := unit_repr (i := a) w2
  have g9 : z__law_rows_right_9 [some (P p4), some (.d (.int (w : Nat))), some (.d (.list (rowD is))), some (.d x), some (.d (.int a)), some (.d (.list (unitD a 1 w))), some (.d (.list [.list (unitD a 1 w), .list (unitD a 1 w), .list (unitD a 1 w)])), none, none] = .ok .nx [some (P p4), some (.d (.int (w : Nat))), some (.d (.list (rowD is))), some (.d x), some (.d (.int a)), some (.d (.list (unitD a 1 w))), some (.d (.list [.list (unitD a 1 w), .list (unitD a 1 w), .list (unitD a 1 w)])), none, none] true := by
    unfold z__law_rows_right_9
    simp [ev_mVar, ev_mD, ev_mV, ev_mNil, ev_mYes, kP_ok, kP_exc, kP_bad, kB_ok, kB_exc, kB_bad, kC2_ok, kC2_exc, kC2_bad, kC1_ok, kC1_exc, kC1_bad, ev_mCons, kOp_ok, kOp_exc, kOp_bad, ev_mOpN, ev_m2, ev_m1, kSh_ok, kSh_exc, kSh_bad, ev_mSh, kD2_some, kD2_none, kD1_some, kD1_none, ev_fD, kT2_some, kT2_none, kTst_ok, kTst_exc, kTst_bad, ev_mTst, boolT_b, kTb_ok, kTb_exc, kTb_bad, ev_mTb, kAnd_t, kAnd_f, kAnd_exc, kAnd_bad, ev_mAndB, kOr_f, kOr_t, kOr_exc, kOr_bad, ev_mOrB, kNot_ok, kNot_exc, kNot_bad, ev_mNotB, kNotV_ok, kNotV_exc, kNotV_bad, ev_mNotV, kAV2_t, kAV2_f, kAV2_n, kAV_ok, kAV_exc, kAV_bad, ev_mAndV, kOV2_f, kOV2_t, kOV2_n, kOV_ok, kOV_exc, kOV_bad, ev_mOrV, kIfE_t, kIfE_f, kIfE_exc, kIfE_bad, ev_mIfE, ev_mSkip, ev_mBrk, ev_mCnt, kSeq_nx, kSeq_rt, kSeq_bk, kSeq_ct, kSeq_exc, kSeq_bad, ev_mSeq, kIf_t, kIf_f, kIf_exc, kIf_bad, ev_mIf, kExpr_ok, kExpr_exc, kExpr_bad, ev_mExpr, kRet_tm, kRet_pl, kRet_exc, kRet_bad, ev_mRet, ev_mRetN, kAsg_tm, kAsg_exc, kAsg_bad, ev_mAsg, kG_ok, kG_bad, kAsgG_tm, kAsgG_exc, kAsgG_bad, ev_mAsgG, kPar_tm, kPar_exc, kPar_bad, ev_mPar, kFor_ok, kFor_exc, kFor_bad, ev_mFor, kI2_some, kI2_none, kIOp_ok, kIOp_exc, kIOp_bad, ev_mIOp, kSI_ok, kSI_exc, kSI_bad, ev_mSeqI, kL2_ok, kLc_ok, kLc_exc, kLc_bad, ev_mLc, ev_mTgN, ev_mGNil, kGs_ok, ev_mGCons, kTg_some, ev_mTgT, ev_mTgL, kS3_some, kS2_l, kS1_ok, ev_mTgS, kH4_some, kH3_some, kH2_ok, kH1_t, kH1_f, kH0_ok, kH_ok, kH_exc, kH_bad, ev_mCh, kInt_ok, ev_mInt, kStr2_ok, kStr_ok, kStr_exc, kStr_bad, ev_mStr, kLs2_ok, kLs_ok, kLs_exc, kLs_bad, ev_mLs, kA2_ok, kA2_exc, kA2_bad, kA1_ok, kA1_exc, kA1_bad, ev_mApp, kF3_some, kF4_some, kF2_ret, kF2_exc, kF1_some, ev_fCall, kK2_ret, kK2_exc, kK1_some, ev_fCallK, kRun_nx, kRun_rt, kRun_exc, kRun_bad, ev_runF, ev_mDct0, kDc2_some, kDc_ok, kDc_exc, kDc_bad, ev_mDct, fIx, fAdd, fMul, fDivmod, fList, fTuple, fLst, fTup, fLen, fIsi, fApp, fSl10, fSl01, fSl11, fSl00, fRng1, fRng2, fIsN, share, look, vw, vws, T.at, T.sub, T.put, T.putS, putT, T.fz, T.fzL, tru, itemAt, atI, ixN, shL, shT, allD, tms, lenT, tyT, tyNs, tyD, subT, tys, nonT, hEq, hNe, hLt, hLe, hGt, hGe, hCmp, hIn, hAbs, h2F, hMax2, hMin2, h2I, hSub, hMod, hDiv, hPow, hNeg, hInt1, hBls, hInts, blsD, intsD, strsD, hJoin, fSl1, seqD, wipable, wipeE, unwipe, outs, isL, keysT, keyD, moveOut, putBack, holes, noIo, isH, arrT, arrG, Op.deep, itemsT, itemsL, SeqAt.shaped, PyData.canLay0, PyData.canLayAll0, PyData.depth, PyData.depthAll, PyData.eqv, PyData.eqvAll, hur]
  have hU : (PyData.list [.list (unitD a 1 w), .list (unitD a 1 w), .list (unitD a 1 w)]) = (PyData.list [.list (unitD a 1 w), .list (unitD a 1 w), .list (unitD a 1 w)]) := rfl
  obtain ⟨js, p5, jl, jb, hp5, pf2, hc3⟩ := draw_ints (me := e__law_rows_right_2) rfl (n := 16) (by decide) hp4 (some (.d (.int (w : Nat)))) (some (.d (.list (rowD is)))) (some (.d x)) (some (.d (.int a))) (some (.d (.list (unitD a 1 w)))) (some (.d (.list [.list (unitD a 1 w), .list (unitD a 1 w), .list (unitD a 1 w)]))) none
  have g10 : z__law_rows_right_10 [some (P p4), some (.d (.int (w : Nat))), some (.d (.list (rowD is))), some (.d x), some (.d (.int a)), some (.d (.list (unitD a 1 w))), some (.d (.list [.list (unitD a 1 w), .list (unitD a 1 w), .list (unitD a 1 w)])), none, none] = .ok .nx [some (P p5), some (.d (.int (w : Nat))), some (.d (.list (rowD is))), some (.d x), some (.d (.int a)), some (.d (.list (unitD a 1 w))), some (.d (.list [.list (unitD a 1 w), .list (unitD a 1 w), .list (unitD a 1 w)])), some (.d (.list (rowD js))), none] true := by
    have hf := fzL_fn PyData.int js
    have hc4 : mLcGo [8] (mTgN [0, 1, 2, 3, 4, 5, 6, 7] 8) mYes e__law_rows_right_2 (rangeL 0 16) [] [some (P p4), some (.d (.int (w : Nat))), some (.d (.list (rowD is))), some (.d x), some (.d (.int a)), some (.d (.list (unitD a 1 w))), some (.d (.list [.list (unitD a 1 w), .list (unitD a 1 w), .list (unitD a 1 w)])), none, none] = _ := hc3
    unfold z__law_rows_right_10
    simp [ev_mVar, ev_mD, ev_mV, ev_mNil, ev_mYes, kP_ok, kP_exc, kP_bad, kB_ok, kB_exc, kB_bad, kC2_ok, kC2_exc, kC2_bad, kC1_ok, kC1_exc, kC1_bad, ev_mCons, kOp_ok, kOp_exc, kOp_bad, ev_mOpN, ev_m2, ev_m1, kSh_ok, kSh_exc, kSh_bad, ev_mSh, kD2_some, kD2_none, kD1_some, kD1_none, ev_fD, kT2_some, kT2_none, kTst_ok, kTst_exc, kTst_bad, ev_mTst, boolT_b, kTb_ok, kTb_exc, kTb_bad, ev_mTb, kAnd_t, kAnd_f, kAnd_exc, kAnd_bad, ev_mAndB, kOr_f, kOr_t, kOr_exc, kOr_bad, ev_mOrB, kNot_ok, kNot_exc, kNot_bad, ev_mNotB, kNotV_ok, kNotV_exc, kNotV_bad, ev_mNotV, kAV2_t, kAV2_f, kAV2_n, kAV_ok, kAV_exc, kAV_bad, ev_mAndV, kOV2_f, kOV2_t, kOV2_n, kOV_ok, kOV_exc, kOV_bad, ev_mOrV, kIfE_t, kIfE_f, kIfE_exc, kIfE_bad, ev_mIfE, ev_mSkip, ev_mBrk, ev_mCnt, kSeq_nx, kSeq_rt, kSeq_bk, kSeq_ct, kSeq_exc, kSeq_bad, ev_mSeq, kIf_t, kIf_f, kIf_exc, kIf_bad, ev_mIf, kExpr_ok, kExpr_exc, kExpr_bad, ev_mExpr, kRet_tm, kRet_pl, kRet_exc, kRet_bad, ev_mRet, ev_mRetN, kAsg_tm, kAsg_exc, kAsg_bad, ev_mAsg, kG_ok, kG_bad, kAsgG_tm, kAsgG_exc, kAsgG_bad, ev_mAsgG, kPar_tm, kPar_exc, kPar_bad, ev_mPar, kFor_ok, kFor_exc, kFor_bad, ev_mFor, kI2_some, kI2_none, kIOp_ok, kIOp_exc, kIOp_bad, ev_mIOp, kSI_ok, kSI_exc, kSI_bad, ev_mSeqI, kL2_ok, kLc_ok, kLc_exc, kLc_bad, ev_mLc, ev_mTgN, ev_mGNil, kGs_ok, ev_mGCons, kTg_some, ev_mTgT, ev_mTgL, kS3_some, kS2_l, kS1_ok, ev_mTgS, kH4_some, kH3_some, kH2_ok, kH1_t, kH1_f, kH0_ok, kH_ok, kH_exc, kH_bad, ev_mCh, kInt_ok, ev_mInt, kStr2_ok, kStr_ok, kStr_exc, kStr_bad, ev_mStr, kLs2_ok, kLs_ok, kLs_exc, kLs_bad, ev_mLs, kA2_ok, kA2_exc, kA2_bad, kA1_ok, kA1_exc, kA1_bad, ev_mApp, kF3_some, kF4_some, kF2_ret, kF2_exc, kF1_some, ev_fCall, kK2_ret, kK2_exc, kK1_some, ev_fCallK, kRun_nx, kRun_rt, kRun_exc, kRun_bad, ev_runF, ev_mDct0, kDc2_some, kDc_ok, kDc_exc, kDc_bad, ev_mDct, fIx, fAdd, fMul, fDivmod, fList, fTuple, fLst, fTup, fLen, fIsi, fApp, fSl10, fSl01, fSl11, fSl00, fRng1, fRng2, fIsN, share, look, vw, vws, T.at, T.sub, T.put, T.putS, putT, T.fz, T.fzL, tru, itemAt, atI, ixN, shL, shT, allD, tms, lenT, tyT, tyNs, tyD, subT, tys, nonT, hEq, hNe, hLt, hLe, hGt, hGe, hCmp, hIn, hAbs, h2F, hMax2, hMin2, h2I, hSub, hMod, hDiv, hPow, hNeg, hInt1, hBls, hInts, blsD, intsD, strsD, hJoin, fSl1, seqD, wipable, wipeE, unwipe, outs, isL, keysT, keyD, moveOut, putBack, holes, noIo, isH, arrT, arrG, Op.deep, itemsT, itemsL, SeqAt.shaped, PyData.canLay0, PyData.canLayAll0, PyData.depth, PyData.depthAll, PyData.eqv, PyData.eqvAll, q__law_rows_right_2, g__law_rows_right_2]
    simp [ev_mVar, ev_mD, ev_mV, ev_mNil, ev_mYes, kP_ok, kP_exc, kP_bad, kB_ok, kB_exc, kB_bad, kC2_ok, kC2_exc, kC2_bad, kC1_ok, kC1_exc, kC1_bad, ev_mCons, kOp_ok, kOp_exc, kOp_bad, ev_mOpN, ev_m2, ev_m1, kSh_ok, kSh_exc, kSh_bad, ev_mSh, kD2_some, kD2_none, kD1_some, kD1_none, ev_fD, kT2_some, kT2_none, kTst_ok, kTst_exc, kTst_bad, ev_mTst, boolT_b, kTb_ok, kTb_exc, kTb_bad, ev_mTb, kAnd_t, kAnd_f, kAnd_exc, kAnd_bad, ev_mAndB, kOr_f, kOr_t, kOr_exc, kOr_bad, ev_mOrB, kNot_ok, kNot_exc, kNot_bad, ev_mNotB, kNotV_ok, kNotV_exc, kNotV_bad, ev_mNotV, kAV2_t, kAV2_f, kAV2_n, kAV_ok, kAV_exc, kAV_bad, ev_mAndV, kOV2_f, kOV2_t, kOV2_n, kOV_ok, kOV_exc, kOV_bad, ev_mOrV, kIfE_t, kIfE_f, kIfE_exc, kIfE_bad, ev_mIfE, ev_mSkip, ev_mBrk, ev_mCnt, kSeq_nx, kSeq_rt, kSeq_bk, kSeq_ct, kSeq_exc, kSeq_bad, ev_mSeq, kIf_t, kIf_f, kIf_exc, kIf_bad, ev_mIf, kExpr_ok, kExpr_exc, kExpr_bad, ev_mExpr, kRet_tm, kRet_pl, kRet_exc, kRet_bad, ev_mRet, ev_mRetN, kAsg_tm, kAsg_exc, kAsg_bad, ev_mAsg, kG_ok, kG_bad, kAsgG_tm, kAsgG_exc, kAsgG_bad, ev_mAsgG, kPar_tm, kPar_exc, kPar_bad, ev_mPar, kFor_ok, kFor_exc, kFor_bad, ev_mFor, kI2_some, kI2_none, kIOp_ok, kIOp_exc, kIOp_bad, ev_mIOp, kSI_ok, kSI_exc, kSI_bad, ev_mSeqI, kL2_ok, kLc_ok, kLc_exc, kLc_bad, ev_mLc, ev_mTgN, ev_mGNil, kGs_ok, ev_mGCons, kTg_some, ev_mTgT, ev_mTgL, kS3_some, kS2_l, kS1_ok, ev_mTgS, kH4_some, kH3_some, kH2_ok, kH1_t, kH1_f, kH0_ok, kH_ok, kH_exc, kH_bad, ev_mCh, kInt_ok, ev_mInt, kStr2_ok, kStr_ok, kStr_exc, kStr_bad, ev_mStr, kLs2_ok, kLs_ok, kLs_exc, kLs_bad, ev_mLs, kA2_ok, kA2_exc, kA2_bad, kA1_ok, kA1_exc, kA1_bad, ev_mApp, kF3_some, kF4_some, kF2_ret, kF2_exc, kF1_some, ev_fCall, kK2_ret, kK2_exc, kK1_some, ev_fCallK, kRun_nx, kRun_rt, kRun_exc, kRun_bad, ev_runF, ev_mDct0, kDc2_some, kDc_ok, kDc_exc, kDc_bad, ev_mDct, fIx, fAdd, fMul, fDivmod, fList, fTuple, fLst, fTup, fLen, fIsi, fApp, fSl10, fSl01, fSl11, fSl00, fRng1, fRng2, fIsN, share, look, vw, vws, T.at, T.sub, T.put, T.putS, putT, T.fz, T.fzL, tru, itemAt, atI, ixN, shL, shT, allD, tms, lenT, tyT, tyNs, tyD, subT, tys, nonT, hEq, hNe, hLt, hLe, hGt, hGe, hCmp, hIn, hAbs, h2F, hMax2, hMin2, h2I, hSub, hMod, hDiv, hPow, hNeg, hInt1, hBls, hInts, blsD, intsD, strsD, hJoin, fSl1, seqD, wipable, wipeE, unwipe, outs, isL, keysT, keyD, moveOut, putBack, holes, noIo, isH, arrT, arrG, Op.deep, itemsT, itemsL, SeqAt.shaped, PyData.canLay0, PyData.canLayAll0, PyData.depth, PyData.depthAll, PyData.eqv, PyData.eqvAll, hc4, hf]
    simp only [rowD, unitD]
  have j16 : (rowD js).length = 16 := by rw [← jl]; exact List.length_map _
  have k1 := e_is_row (s := .list (rowD js)) (by show (rowD js).length ≤ 10000; omega)
  have k2 := e_is_row (s := .list (rowD js ++ [.int 1])) (by show (rowD js ++ [PyData.int 1]).length ≤ 10000; rw [List.length_append, j16]; decide)
  have k3 := e_is_row (s := .list (cutD (rowD js) none (some 0))) (by show (cutD (rowD js) none (some 0)).length ≤ 10000; simp [cutD, HT.sIx])
  have k4 := e_is_row (s := .list (cutD (rowD js) none (some 1))) (by show (cutD (rowD js) none (some 1)).length ≤ 10000; unfold cutD; rw [List.length_take, List.length_drop]; omega)
  have b1 : rowB (.list (rowD js)) = true := rowB_row (by omega) (by omega)
  have b2 : rowB (.list (rowD js ++ [.int 1])) = false := by
    have e : (rowD js ++ [PyData.int 1]).length = 17 := by rw [List.length_append, j16]; rfl
    show ((rowD js ++ [PyData.int 1]).all isI && (decide (1 ≤ (rowD js ++ [PyData.int 1]).length) && decide ((rowD js ++ [PyData.int 1]).length ≤ 16))) = false
    rw [e]
    simp
  have b3 : rowB (.list (cutD (rowD js) none (some 0))) = false := by
    have e : cutD (rowD js) none (some 0) = [] := by simp [cutD, HT.sIx]
    rw [e]
    rfl
  have b4 : rowB (.list (cutD (rowD js) none (some 1))) = true := by
    obtain ⟨j, jr, rfl⟩ : ∃ j jr, js = j :: jr := by
      cases js with
      | nil => simp at jl
      | cons j jr => exact ⟨j, jr, rfl⟩
    have e : cutD (rowD (j :: jr)) none (some 1) = [.int j] := by
      unfold cutD
      have e1 : HT.sIx (rowD (j :: jr)).length 0 none = 0 := rfl
      have e2 : HT.sIx (rowD (j :: jr)).length (rowD (j :: jr)).length (some 1) = 1 := by
        rw [j16]
        rfl
      rw [e1, e2]
      rfl
    rw [e]
    rfl
  rw [b1] at k1
  rw [b2] at k2
  rw [b3] at k3
  rw [b4] at k4
  have j17 : (rowD js).length + 1 ≤ 10000 := by omega
  have j18 : (rowD js).length ≤ 9999 := by omega
  have g11 : z__law_rows_right_11 [some (P p5), some (.d (.int (w : Nat))), some (.d (.list (rowD is))), some (.d x), some (.d (.int a)), some (.d (.list (unitD a 1 w))), some (.d (.list [.list (unitD a 1 w), .list (unitD a 1 w), .list (unitD a 1 w)])), some (.d (.list (rowD js))), none] = .ok (.rt (.d (.bool true))) [some (P p5), some (.d (.int (w : Nat))), some (.d (.list (rowD is))), some (.d x), some (.d (.int a)), some (.d (.list (unitD a 1 w))), some (.d (.list [.list (unitD a 1 w), .list (unitD a 1 w), .list (unitD a 1 w)])), some (.d (.list (rowD js))), none] true := by
    have e1 : ∀ y : PyData, arrT [.inl 0, .inr .none] [.d y] = [T.d y, .d .none] := fun _ => rfl
    have f1 := fzL_map_d (rowD js ++ [PyData.int 1])
    have f2 := fzL_map_d (cutD (rowD js) none (some 0))
    have f3 := fzL_map_d (cutD (rowD js) none (some 1))
    rw [List.map_append] at f1
    simp only [List.map_cons, List.map_nil] at f1
    generalize rowD js = rj at *
    unfold z__law_rows_right_11
    simp [ev_mVar, ev_mD, ev_mV, ev_mNil, ev_mYes, kP_ok, kP_exc, kP_bad, kB_ok, kB_exc, kB_bad, kC2_ok, kC2_exc, kC2_bad, kC1_ok, kC1_exc, kC1_bad, ev_mCons, kOp_ok, kOp_exc, kOp_bad, ev_mOpN, ev_m2, ev_m1, kSh_ok, kSh_exc, kSh_bad, ev_mSh, kD2_some, kD2_none, kD1_some, kD1_none, ev_fD, kT2_some, kT2_none, kTst_ok, kTst_exc, kTst_bad, ev_mTst, boolT_b, kTb_ok, kTb_exc, kTb_bad, ev_mTb, kAnd_t, kAnd_f, kAnd_exc, kAnd_bad, ev_mAndB, kOr_f, kOr_t, kOr_exc, kOr_bad, ev_mOrB, kNot_ok, kNot_exc, kNot_bad, ev_mNotB, kNotV_ok, kNotV_exc, kNotV_bad, ev_mNotV, kAV2_t, kAV2_f, kAV2_n, kAV_ok, kAV_exc, kAV_bad, ev_mAndV, kOV2_f, kOV2_t, kOV2_n, kOV_ok, kOV_exc, kOV_bad, ev_mOrV, kIfE_t, kIfE_f, kIfE_exc, kIfE_bad, ev_mIfE, ev_mSkip, ev_mBrk, ev_mCnt, kSeq_nx, kSeq_rt, kSeq_bk, kSeq_ct, kSeq_exc, kSeq_bad, ev_mSeq, kIf_t, kIf_f, kIf_exc, kIf_bad, ev_mIf, kExpr_ok, kExpr_exc, kExpr_bad, ev_mExpr, kRet_tm, kRet_pl, kRet_exc, kRet_bad, ev_mRet, ev_mRetN, kAsg_tm, kAsg_exc, kAsg_bad, ev_mAsg, kG_ok, kG_bad, kAsgG_tm, kAsgG_exc, kAsgG_bad, ev_mAsgG, kPar_tm, kPar_exc, kPar_bad, ev_mPar, kFor_ok, kFor_exc, kFor_bad, ev_mFor, kI2_some, kI2_none, kIOp_ok, kIOp_exc, kIOp_bad, ev_mIOp, kSI_ok, kSI_exc, kSI_bad, ev_mSeqI, kL2_ok, kLc_ok, kLc_exc, kLc_bad, ev_mLc, ev_mTgN, ev_mGNil, kGs_ok, ev_mGCons, kTg_some, ev_mTgT, ev_mTgL, kS3_some, kS2_l, kS1_ok, ev_mTgS, kH4_some, kH3_some, kH2_ok, kH1_t, kH1_f, kH0_ok, kH_ok, kH_exc, kH_bad, ev_mCh, kInt_ok, ev_mInt, kStr2_ok, kStr_ok, kStr_exc, kStr_bad, ev_mStr, kLs2_ok, kLs_ok, kLs_exc, kLs_bad, ev_mLs, kA2_ok, kA2_exc, kA2_bad, kA1_ok, kA1_exc, kA1_bad, ev_mApp, kF3_some, kF4_some, kF2_ret, kF2_exc, kF1_some, ev_fCall, kK2_ret, kK2_exc, kK1_some, ev_fCallK, kRun_nx, kRun_rt, kRun_exc, kRun_bad, ev_runF, ev_mDct0, kDc2_some, kDc_ok, kDc_exc, kDc_bad, ev_mDct, fIx, fAdd, fMul, fDivmod, fList, fTuple, fLst, fTup, fLen, fIsi, fApp, fSl10, fSl01, fSl11, fSl00, fRng1, fRng2, fIsN, share, look, vw, vws, T.at, T.sub, T.put, T.putS, putT, T.fz, T.fzL, tru, itemAt, atI, ixN, shL, shT, allD, tms, lenT, tyT, tyNs, tyD, subT, tys, nonT, hEq, hNe, hLt, hLe, hGt, hGe, hCmp, hIn, hAbs, h2F, hMax2, hMin2, h2I, hSub, hMod, hDiv, hPow, hNeg, hInt1, hBls, hInts, blsD, intsD, strsD, hJoin, fSl1, seqD, wipable, wipeE, unwipe, outs, isL, keysT, keyD, moveOut, putBack, holes, noIo, isH, Op.deep, itemsT, itemsL, SeqAt.shaped, PyData.canLay0, PyData.canLayAll0, PyData.depth, PyData.depthAll, PyData.eqv, PyData.eqvAll, e1, f1, f2, f3, k1, k2, k3, k4, j17, j18]
  refine ⟨p5, hp5, ?_⟩
  show runF 9 [.io] (mSeq z__law_rows_right_0 (mSeq z__law_rows_right_1 (mSeq z__law_rows_right_2 (mSeq z__law_rows_right_4 (mSeq z__law_rows_right_5 (mSeq z__law_rows_right_6 (mSeq z__law_rows_right_7 (mSeq z__law_rows_right_9 (mSeq z__law_rows_right_10 z__law_rows_right_11))))))))) _ = _
  rw [ev_runF]
  show kRun [.io] (mSeq z__law_rows_right_0 (mSeq z__law_rows_right_1 (mSeq z__law_rows_right_2 (mSeq z__law_rows_right_4 (mSeq z__law_rows_right_5 (mSeq z__law_rows_right_6 (mSeq z__law_rows_right_7 (mSeq z__law_rows_right_9 (mSeq z__law_rows_right_10 z__law_rows_right_11)))))))) [some (P p), none, none, none, none, none, none, none, none]) = _
  rw [ev_mSeq, g0, kSeq_nx, ev_mSeq, g1, kSeq_nx, ev_mSeq, g2, kSeq_nx, ev_mSeq, g4, kSeq_nx, ev_mSeq, g5, kSeq_nx, ev_mSeq, g6, kSeq_nx, ev_mSeq, g7, kSeq_nx, ev_mSeq, g9, kSeq_nx, ev_mSeq, g10, kSeq_nx, g11, kRun_rt]
  rfl
end K10
namespace K10
open PySem L2 MV
theorem turn_ok {ns : List Int} {k : PyData} {p : Int × Int} (hp : Ok p) : ∃ p', Ok p' ∧ z_law_4 [some (.scr ns), some (.d k), some (P p), none] = .ok .nx [some (.scr ns), some (.d k), some (P p'), none] true := by
  have hc := lc_inv (vs := [3]) (mg := g_law_0) (mt := mYes) (me := e_law_0) (ρ0 := [some (.scr ns), some (.d k), some (P p), none]) (ds := rangeL 0 8)
    (fun i acc ρ => ∃ (q : Int × Int), Ok q ∧ acc = (List.replicate i true).map (fun b => T.d (.bool b)) ∧ ρ = [some (.scr ns), some (.d k), some (P q), none])
    ⟨p, hp, rfl, rfl⟩ (by decide) (fun i acc ρ ⟨q, _, e, _⟩ => by rw [e]; simp) (fun i acc ρ d hd ⟨q, hq, ea, er⟩ => by
      subst er
      obtain ⟨q1, hq1, h⟩ := names_right hq
      have he : e_law_0 [some (.scr ns), some (.d k), some (P q), some (.d d)] = .ok (.tm (.d (.bool true))) [some (.scr ns), some (.d k), some (P q1), some (.d d)] false := by
        unfold e_law_0
        simp [ev_mVar, ev_mD, ev_mV, ev_mNil, ev_mYes, kP_ok, kP_exc, kP_bad, kB_ok, kB_exc, kB_bad, kC2_ok, kC2_exc, kC2_bad, kC1_ok, kC1_exc, kC1_bad, ev_mCons, kOp_ok, kOp_exc, kOp_bad, ev_mOpN, ev_m2, ev_m1, kSh_ok, kSh_exc, kSh_bad, ev_mSh, kD2_some, kD2_none, kD1_some, kD1_none, ev_fD, kT2_some, kT2_none, kTst_ok, kTst_exc, kTst_bad, ev_mTst, boolT_b, kTb_ok, kTb_exc, kTb_bad, ev_mTb, kAnd_t, kAnd_f, kAnd_exc, kAnd_bad, ev_mAndB, kOr_f, kOr_t, kOr_exc, kOr_bad, ev_mOrB, kNot_ok, kNot_exc, kNot_bad, ev_mNotB, kNotV_ok, kNotV_exc, kNotV_bad, ev_mNotV, kAV2_t, kAV2_f, kAV2_n, kAV_ok, kAV_exc, kAV_bad, ev_mAndV, kOV2_f, kOV2_t, kOV2_n, kOV_ok, kOV_exc, kOV_bad, ev_mOrV, kIfE_t, kIfE_f, kIfE_exc, kIfE_bad, ev_mIfE, ev_mSkip, ev_mBrk, ev_mCnt, kSeq_nx, kSeq_rt, kSeq_bk, kSeq_ct, kSeq_exc, kSeq_bad, ev_mSeq, kIf_t, kIf_f, kIf_exc, kIf_bad, ev_mIf, kExpr_ok, kExpr_exc, kExpr_bad, ev_mExpr, kRet_tm, kRet_pl, kRet_exc, kRet_bad, ev_mRet, ev_mRetN, kAsg_tm, kAsg_exc, kAsg_bad, ev_mAsg, kG_ok, kG_bad, kAsgG_tm, kAsgG_exc, kAsgG_bad, ev_mAsgG, kPar_tm, kPar_exc, kPar_bad, ev_mPar, kFor_ok, kFor_exc, kFor_bad, ev_mFor, kI2_some, kI2_none, kIOp_ok, kIOp_exc, kIOp_bad, ev_mIOp, kSI_ok, kSI_exc, kSI_bad, ev_mSeqI, kL2_ok, kLc_ok, kLc_exc, kLc_bad, ev_mLc, ev_mTgN, ev_mGNil, kGs_ok, ev_mGCons, kTg_some, ev_mTgT, ev_mTgL, kS3_some, kS2_l, kS1_ok, ev_mTgS, kH4_some, kH3_some, kH2_ok, kH1_t, kH1_f, kH0_ok, kH_ok, kH_exc, kH_bad, ev_mCh, kInt_ok, ev_mInt, kStr2_ok, kStr_ok, kStr_exc, kStr_bad, ev_mStr, kLs2_ok, kLs_ok, kLs_exc, kLs_bad, ev_mLs, kA2_ok, kA2_exc, kA2_bad, kA1_ok, kA1_exc, kA1_bad, ev_mApp, kF3_some, kF4_some, kF2_ret, kF2_exc, kF1_some, ev_fCall, kK2_ret, kK2_exc, kK1_some, ev_fCallK, kRun_nx, kRun_rt, kRun_exc, kRun_bad, ev_runF, ev_mDct0, kDc2_some, kDc_ok, kDc_exc, kDc_bad, ev_mDct, fIx, fAdd, fMul, fDivmod, fList, fTuple, fLst, fTup, fLen, fIsi, fApp, fSl10, fSl01, fSl11, fSl00, fRng1, fRng2, fIsN, share, look, vw, vws, T.at, T.sub, T.put, T.putS, putT, T.fz, T.fzL, tru, itemAt, atI, ixN, shL, shT, allD, tms, lenT, tyT, tyNs, tyD, subT, tys, nonT, hEq, hNe, hLt, hLe, hGt, hGe, hCmp, hIn, hAbs, h2F, hMax2, hMin2, h2I, hSub, hMod, hDiv, hPow, hNeg, hInt1, hBls, hInts, blsD, intsD, strsD, hJoin, fSl1, seqD, wipable, wipeE, unwipe, outs, isL, keysT, keyD, moveOut, putBack, holes, noIo, isH, arrT, arrG, Op.deep, itemsT, itemsL, SeqAt.shaped, PyData.canLay0, PyData.canLayAll0, PyData.depth, PyData.depthAll, PyData.eqv, PyData.eqvAll, h]
      exact ⟨_, _, rfl, .inl ⟨_, _, _, _, _, rfl, he, q1, hq1, by rw [ea, List.replicate_succ', List.map_append]; rfl, rfl⟩⟩)
  obtain ⟨ts, ρ', p', h1, q, hq, rfl, rfl⟩ := hc
  obtain ⟨q2, hq2, h2⟩ := rows_right hq
  have e8 : (rangeL 0 8).length = 8 := by simp [rangeL]
  rw [e8] at h1
  have hf := fzL_fn (fun b : Bool => PyData.bool b) (List.replicate 8 true)
  have hb := blsD_fn (fun b : Bool => b) (List.replicate 8 true)
  refine ⟨q2, hq2, ?_⟩
  have hb2 : (List.replicate 8 true).map (fun b : Bool => b) = List.replicate 8 true := List.map_id' _
  have ha : (List.replicate 8 true).all id = true := rfl
  rw [hb2] at hb
  generalize List.replicate 8 true = l at *
  unfold z_law_4
  simp [ev_mVar, ev_mD, ev_mV, ev_mNil, ev_mYes, kP_ok, kP_exc, kP_bad, kB_ok, kB_exc, kB_bad, kC2_ok, kC2_exc, kC2_bad, kC1_ok, kC1_exc, kC1_bad, ev_mCons, kOp_ok, kOp_exc, kOp_bad, ev_mOpN, ev_m2, ev_m1, kSh_ok, kSh_exc, kSh_bad, ev_mSh, kD2_some, kD2_none, kD1_some, kD1_none, ev_fD, kT2_some, kT2_none, kTst_ok, kTst_exc, kTst_bad, ev_mTst, boolT_b, kTb_ok, kTb_exc, kTb_bad, ev_mTb, kAnd_t, kAnd_f, kAnd_exc, kAnd_bad, ev_mAndB, kOr_f, kOr_t, kOr_exc, kOr_bad, ev_mOrB, kNot_ok, kNot_exc, kNot_bad, ev_mNotB, kNotV_ok, kNotV_exc, kNotV_bad, ev_mNotV, kAV2_t, kAV2_f, kAV2_n, kAV_ok, kAV_exc, kAV_bad, ev_mAndV, kOV2_f, kOV2_t, kOV2_n, kOV_ok, kOV_exc, kOV_bad, ev_mOrV, kIfE_t, kIfE_f, kIfE_exc, kIfE_bad, ev_mIfE, ev_mSkip, ev_mBrk, ev_mCnt, kSeq_nx, kSeq_rt, kSeq_bk, kSeq_ct, kSeq_exc, kSeq_bad, ev_mSeq, kIf_t, kIf_f, kIf_exc, kIf_bad, ev_mIf, kExpr_ok, kExpr_exc, kExpr_bad, ev_mExpr, kRet_tm, kRet_pl, kRet_exc, kRet_bad, ev_mRet, ev_mRetN, kAsg_tm, kAsg_exc, kAsg_bad, ev_mAsg, kG_ok, kG_bad, kAsgG_tm, kAsgG_exc, kAsgG_bad, ev_mAsgG, kPar_tm, kPar_exc, kPar_bad, ev_mPar, kFor_ok, kFor_exc, kFor_bad, ev_mFor, kI2_some, kI2_none, kIOp_ok, kIOp_exc, kIOp_bad, ev_mIOp, kSI_ok, kSI_exc, kSI_bad, ev_mSeqI, kL2_ok, kLc_ok, kLc_exc, kLc_bad, ev_mLc, ev_mTgN, ev_mGNil, kGs_ok, ev_mGCons, kTg_some, ev_mTgT, ev_mTgL, kS3_some, kS2_l, kS1_ok, ev_mTgS, kH4_some, kH3_some, kH2_ok, kH1_t, kH1_f, kH0_ok, kH_ok, kH_exc, kH_bad, ev_mCh, kInt_ok, ev_mInt, kStr2_ok, kStr_ok, kStr_exc, kStr_bad, ev_mStr, kLs2_ok, kLs_ok, kLs_exc, kLs_bad, ev_mLs, kA2_ok, kA2_exc, kA2_bad, kA1_ok, kA1_exc, kA1_bad, ev_mApp, kF3_some, kF4_some, kF2_ret, kF2_exc, kF1_some, ev_fCall, kK2_ret, kK2_exc, kK1_some, ev_fCallK, kRun_nx, kRun_rt, kRun_exc, kRun_bad, ev_runF, ev_mDct0, kDc2_some, kDc_ok, kDc_exc, kDc_bad, ev_mDct, fIx, fAdd, fMul, fDivmod, fList, fTuple, fLst, fTup, fLen, fIsi, fApp, fSl10, fSl01, fSl11, fSl00, fRng1, fRng2, fIsN, share, look, vw, vws, T.at, T.sub, T.put, T.putS, putT, T.fz, T.fzL, tru, itemAt, atI, ixN, shL, shT, allD, tms, lenT, tyT, tyNs, tyD, subT, tys, nonT, hEq, hNe, hLt, hLe, hGt, hGe, hCmp, hIn, hAbs, h2F, hMax2, hMin2, h2I, hSub, hMod, hDiv, hPow, hNeg, hInt1, hBls, hInts, blsD, intsD, strsD, hJoin, fSl1, seqD, wipable, wipeE, unwipe, outs, isL, keysT, keyD, moveOut, putBack, holes, noIo, isH, arrT, arrG, Op.deep, itemsT, itemsL, SeqAt.shaped, PyData.canLay0, PyData.canLayAll0, PyData.depth, PyData.depthAll, PyData.eqv, PyData.eqvAll, q_law_0]
  simp [ev_mVar, ev_mD, ev_mV, ev_mNil, ev_mYes, kP_ok, kP_exc, kP_bad, kB_ok, kB_exc, kB_bad, kC2_ok, kC2_exc, kC2_bad, kC1_ok, kC1_exc, kC1_bad, ev_mCons, kOp_ok, kOp_exc, kOp_bad, ev_mOpN, ev_m2, ev_m1, kSh_ok, kSh_exc, kSh_bad, ev_mSh, kD2_some, kD2_none, kD1_some, kD1_none, ev_fD, kT2_some, kT2_none, kTst_ok, kTst_exc, kTst_bad, ev_mTst, boolT_b, kTb_ok, kTb_exc, kTb_bad, ev_mTb, kAnd_t, kAnd_f, kAnd_exc, kAnd_bad, ev_mAndB, kOr_f, kOr_t, kOr_exc, kOr_bad, ev_mOrB, kNot_ok, kNot_exc, kNot_bad, ev_mNotB, kNotV_ok, kNotV_exc, kNotV_bad, ev_mNotV, kAV2_t, kAV2_f, kAV2_n, kAV_ok, kAV_exc, kAV_bad, ev_mAndV, kOV2_f, kOV2_t, kOV2_n, kOV_ok, kOV_exc, kOV_bad, ev_mOrV, kIfE_t, kIfE_f, kIfE_exc, kIfE_bad, ev_mIfE, ev_mSkip, ev_mBrk, ev_mCnt, kSeq_nx, kSeq_rt, kSeq_bk, kSeq_ct, kSeq_exc, kSeq_bad, ev_mSeq, kIf_t, kIf_f, kIf_exc, kIf_bad, ev_mIf, kExpr_ok, kExpr_exc, kExpr_bad, ev_mExpr, kRet_tm, kRet_pl, kRet_exc, kRet_bad, ev_mRet, ev_mRetN, kAsg_tm, kAsg_exc, kAsg_bad, ev_mAsg, kG_ok, kG_bad, kAsgG_tm, kAsgG_exc, kAsgG_bad, ev_mAsgG, kPar_tm, kPar_exc, kPar_bad, ev_mPar, kFor_ok, kFor_exc, kFor_bad, ev_mFor, kI2_some, kI2_none, kIOp_ok, kIOp_exc, kIOp_bad, ev_mIOp, kSI_ok, kSI_exc, kSI_bad, ev_mSeqI, kL2_ok, kLc_ok, kLc_exc, kLc_bad, ev_mLc, ev_mTgN, ev_mGNil, kGs_ok, ev_mGCons, kTg_some, ev_mTgT, ev_mTgL, kS3_some, kS2_l, kS1_ok, ev_mTgS, kH4_some, kH3_some, kH2_ok, kH1_t, kH1_f, kH0_ok, kH_ok, kH_exc, kH_bad, ev_mCh, kInt_ok, ev_mInt, kStr2_ok, kStr_ok, kStr_exc, kStr_bad, ev_mStr, kLs2_ok, kLs_ok, kLs_exc, kLs_bad, ev_mLs, kA2_ok, kA2_exc, kA2_bad, kA1_ok, kA1_exc, kA1_bad, ev_mApp, kF3_some, kF4_some, kF2_ret, kF2_exc, kF1_some, ev_fCall, kK2_ret, kK2_exc, kK1_some, ev_fCallK, kRun_nx, kRun_rt, kRun_exc, kRun_bad, ev_runF, ev_mDct0, kDc2_some, kDc_ok, kDc_exc, kDc_bad, ev_mDct, fIx, fAdd, fMul, fDivmod, fList, fTuple, fLst, fTup, fLen, fIsi, fApp, fSl10, fSl01, fSl11, fSl00, fRng1, fRng2, fIsN, share, look, vw, vws, T.at, T.sub, T.put, T.putS, putT, T.fz, T.fzL, tru, itemAt, atI, ixN, shL, shT, allD, tms, lenT, tyT, tyNs, tyD, subT, tys, nonT, hEq, hNe, hLt, hLe, hGt, hGe, hCmp, hIn, hAbs, h2F, hMax2, hMin2, h2I, hSub, hMod, hDiv, hPow, hNeg, hInt1, hBls, hInts, blsD, intsD, strsD, hJoin, fSl1, seqD, wipable, wipeE, unwipe, outs, isL, keysT, keyD, moveOut, putBack, holes, noIo, isH, arrT, arrG, Op.deep, itemsT, itemsL, SeqAt.shaped, PyData.canLay0, PyData.canLayAll0, PyData.depth, PyData.depthAll, PyData.eqv, PyData.eqvAll, h1, hf, hb, ha, h2]
theorem law_true (ns : List Int) (hl : ns.length ≤ 63) : ∃ os, m_law [.scr ns] = .ret (.d (.bool true)) os := by
  have hr := hRepr_ok (d := .int 16) (by decide) (by decide) (by decide)
  have hs : (PyData.int 16).shown = ("16" : Str) := by decide +kernel
  rw [hs] at hr
  have g1 : z_law_1 [some (.scr ns), none, none, none] = .ok .nx [some (.scr ns), none, none, none] true := by
    unfold z_law_1
    simp [ev_mVar, ev_mD, ev_mV, ev_mNil, ev_mYes, kP_ok, kP_exc, kP_bad, kB_ok, kB_exc, kB_bad, kC2_ok, kC2_exc, kC2_bad, kC1_ok, kC1_exc, kC1_bad, ev_mCons, kOp_ok, kOp_exc, kOp_bad, ev_mOpN, ev_m2, ev_m1, kSh_ok, kSh_exc, kSh_bad, ev_mSh, kD2_some, kD2_none, kD1_some, kD1_none, ev_fD, kT2_some, kT2_none, kTst_ok, kTst_exc, kTst_bad, ev_mTst, boolT_b, kTb_ok, kTb_exc, kTb_bad, ev_mTb, kAnd_t, kAnd_f, kAnd_exc, kAnd_bad, ev_mAndB, kOr_f, kOr_t, kOr_exc, kOr_bad, ev_mOrB, kNot_ok, kNot_exc, kNot_bad, ev_mNotB, kNotV_ok, kNotV_exc, kNotV_bad, ev_mNotV, kAV2_t, kAV2_f, kAV2_n, kAV_ok, kAV_exc, kAV_bad, ev_mAndV, kOV2_f, kOV2_t, kOV2_n, kOV_ok, kOV_exc, kOV_bad, ev_mOrV, kIfE_t, kIfE_f, kIfE_exc, kIfE_bad, ev_mIfE, ev_mSkip, ev_mBrk, ev_mCnt, kSeq_nx, kSeq_rt, kSeq_bk, kSeq_ct, kSeq_exc, kSeq_bad, ev_mSeq, kIf_t, kIf_f, kIf_exc, kIf_bad, ev_mIf, kExpr_ok, kExpr_exc, kExpr_bad, ev_mExpr, kRet_tm, kRet_pl, kRet_exc, kRet_bad, ev_mRet, ev_mRetN, kAsg_tm, kAsg_exc, kAsg_bad, ev_mAsg, kG_ok, kG_bad, kAsgG_tm, kAsgG_exc, kAsgG_bad, ev_mAsgG, kPar_tm, kPar_exc, kPar_bad, ev_mPar, kFor_ok, kFor_exc, kFor_bad, ev_mFor, kI2_some, kI2_none, kIOp_ok, kIOp_exc, kIOp_bad, ev_mIOp, kSI_ok, kSI_exc, kSI_bad, ev_mSeqI, kL2_ok, kLc_ok, kLc_exc, kLc_bad, ev_mLc, ev_mTgN, ev_mGNil, kGs_ok, ev_mGCons, kTg_some, ev_mTgT, ev_mTgL, kS3_some, kS2_l, kS1_ok, ev_mTgS, kH4_some, kH3_some, kH2_ok, kH1_t, kH1_f, kH0_ok, kH_ok, kH_exc, kH_bad, ev_mCh, kInt_ok, ev_mInt, kStr2_ok, kStr_ok, kStr_exc, kStr_bad, ev_mStr, kLs2_ok, kLs_ok, kLs_exc, kLs_bad, ev_mLs, kA2_ok, kA2_exc, kA2_bad, kA1_ok, kA1_exc, kA1_bad, ev_mApp, kF3_some, kF4_some, kF2_ret, kF2_exc, kF1_some, ev_fCall, kK2_ret, kK2_exc, kK1_some, ev_fCallK, kRun_nx, kRun_rt, kRun_exc, kRun_bad, ev_runF, ev_mDct0, kDc2_some, kDc_ok, kDc_exc, kDc_bad, ev_mDct, fIx, fAdd, fMul, fDivmod, fList, fTuple, fLst, fTup, fLen, fIsi, fApp, fSl10, fSl01, fSl11, fSl00, fRng1, fRng2, fIsN, share, look, vw, vws, T.at, T.sub, T.put, T.putS, putT, T.fz, T.fzL, tru, itemAt, atI, ixN, shL, shT, allD, tms, lenT, tyT, tyNs, tyD, subT, tys, nonT, hEq, hNe, hLt, hLe, hGt, hGe, hCmp, hIn, hAbs, h2F, hMax2, hMin2, h2I, hSub, hMod, hDiv, hPow, hNeg, hInt1, hBls, hInts, blsD, intsD, strsD, hJoin, fSl1, seqD, wipable, wipeE, unwipe, outs, isL, keysT, keyD, moveOut, putBack, holes, noIo, isH, arrT, arrG, Op.deep, itemsT, itemsL, SeqAt.shaped, PyData.canLay0, PyData.canLayAll0, PyData.depth, PyData.depthAll, PyData.eqv, PyData.eqvAll, hr]
  obtain ⟨n, hn, hq⟩ : ∃ n : Nat, n ≤ 4 ∧ q_law_1 [some (.scr ns), none, none, none] = .ok (rangeL 0 (n : Int)) [some (.scr ns), none, none, none] true := by
    unfold q_law_1
    by_cases h4 : (4 : Int) < ns.length
    · exact ⟨4, by decide, by simp [ev_mVar, ev_mD, ev_mV, ev_mNil, ev_mYes, kP_ok, kP_exc, kP_bad, kB_ok, kB_exc, kB_bad, kC2_ok, kC2_exc, kC2_bad, kC1_ok, kC1_exc, kC1_bad, ev_mCons, kOp_ok, kOp_exc, kOp_bad, ev_mOpN, ev_m2, ev_m1, kSh_ok, kSh_exc, kSh_bad, ev_mSh, kD2_some, kD2_none, kD1_some, kD1_none, ev_fD, kT2_some, kT2_none, kTst_ok, kTst_exc, kTst_bad, ev_mTst, boolT_b, kTb_ok, kTb_exc, kTb_bad, ev_mTb, kAnd_t, kAnd_f, kAnd_exc, kAnd_bad, ev_mAndB, kOr_f, kOr_t, kOr_exc, kOr_bad, ev_mOrB, kNot_ok, kNot_exc, kNot_bad, ev_mNotB, kNotV_ok, kNotV_exc, kNotV_bad, ev_mNotV, kAV2_t, kAV2_f, kAV2_n, kAV_ok, kAV_exc, kAV_bad, ev_mAndV, kOV2_f, kOV2_t, kOV2_n, kOV_ok, kOV_exc, kOV_bad, ev_mOrV, kIfE_t, kIfE_f, kIfE_exc, kIfE_bad, ev_mIfE, ev_mSkip, ev_mBrk, ev_mCnt, kSeq_nx, kSeq_rt, kSeq_bk, kSeq_ct, kSeq_exc, kSeq_bad, ev_mSeq, kIf_t, kIf_f, kIf_exc, kIf_bad, ev_mIf, kExpr_ok, kExpr_exc, kExpr_bad, ev_mExpr, kRet_tm, kRet_pl, kRet_exc, kRet_bad, ev_mRet, ev_mRetN, kAsg_tm, kAsg_exc, kAsg_bad, ev_mAsg, kG_ok, kG_bad, kAsgG_tm, kAsgG_exc, kAsgG_bad, ev_mAsgG, kPar_tm, kPar_exc, kPar_bad, ev_mPar, kFor_ok, kFor_exc, kFor_bad, ev_mFor, kI2_some, kI2_none, kIOp_ok, kIOp_exc, kIOp_bad, ev_mIOp, kSI_ok, kSI_exc, kSI_bad, ev_mSeqI, kL2_ok, kLc_ok, kLc_exc, kLc_bad, ev_mLc, ev_mTgN, ev_mGNil, kGs_ok, ev_mGCons, kTg_some, ev_mTgT, ev_mTgL, kS3_some, kS2_l, kS1_ok, ev_mTgS, kH4_some, kH3_some, kH2_ok, kH1_t, kH1_f, kH0_ok, kH_ok, kH_exc, kH_bad, ev_mCh, kInt_ok, ev_mInt, kStr2_ok, kStr_ok, kStr_exc, kStr_bad, ev_mStr, kLs2_ok, kLs_ok, kLs_exc, kLs_bad, ev_mLs, kA2_ok, kA2_exc, kA2_bad, kA1_ok, kA1_exc, kA1_bad, ev_mApp, kF3_some, kF4_some, kF2_ret, kF2_exc, kF1_some, ev_fCall, kK2_ret, kK2_exc, kK1_some, ev_fCallK, kRun_nx, kRun_rt, kRun_exc, kRun_bad, ev_runF, ev_mDct0, kDc2_some, kDc_ok, kDc_exc, kDc_bad, ev_mDct, fIx, fAdd, fMul, fDivmod, fList, fTuple, fLst, fTup, fLen, fIsi, fApp, fSl10, fSl01, fSl11, fSl00, fRng1, fRng2, fIsN, share, look, vw, vws, T.at, T.sub, T.put, T.putS, putT, T.fz, T.fzL, tru, itemAt, atI, ixN, shL, shT, allD, tms, lenT, tyT, tyNs, tyD, subT, tys, nonT, hEq, hNe, hLt, hLe, hGt, hGe, hCmp, hIn, hAbs, h2F, hMax2, hMin2, h2I, hSub, hMod, hDiv, hPow, hNeg, hInt1, hBls, hInts, blsD, intsD, strsD, hJoin, fSl1, seqD, wipable, wipeE, unwipe, outs, isL, keysT, keyD, moveOut, putBack, holes, noIo, isH, arrT, arrG, Op.deep, itemsT, itemsL, SeqAt.shaped, PyData.canLay0, PyData.canLayAll0, PyData.depth, PyData.depthAll, PyData.eqv, PyData.eqvAll, h4]⟩
    · by_cases h1 : (1 : Int) < ns.length
      · refine ⟨ns.length, by omega, ?_⟩
        have a1 : (ns.length : Int) < 4611686018427387904 := by omega
        have a2 : (-4611686018427387904 : Int) ≤ ns.length := by omega
        simp [ev_mVar, ev_mD, ev_mV, ev_mNil, ev_mYes, kP_ok, kP_exc, kP_bad, kB_ok, kB_exc, kB_bad, kC2_ok, kC2_exc, kC2_bad, kC1_ok, kC1_exc, kC1_bad, ev_mCons, kOp_ok, kOp_exc, kOp_bad, ev_mOpN, ev_m2, ev_m1, kSh_ok, kSh_exc, kSh_bad, ev_mSh, kD2_some, kD2_none, kD1_some, kD1_none, ev_fD, kT2_some, kT2_none, kTst_ok, kTst_exc, kTst_bad, ev_mTst, boolT_b, kTb_ok, kTb_exc, kTb_bad, ev_mTb, kAnd_t, kAnd_f, kAnd_exc, kAnd_bad, ev_mAndB, kOr_f, kOr_t, kOr_exc, kOr_bad, ev_mOrB, kNot_ok, kNot_exc, kNot_bad, ev_mNotB, kNotV_ok, kNotV_exc, kNotV_bad, ev_mNotV, kAV2_t, kAV2_f, kAV2_n, kAV_ok, kAV_exc, kAV_bad, ev_mAndV, kOV2_f, kOV2_t, kOV2_n, kOV_ok, kOV_exc, kOV_bad, ev_mOrV, kIfE_t, kIfE_f, kIfE_exc, kIfE_bad, ev_mIfE, ev_mSkip, ev_mBrk, ev_mCnt, kSeq_nx, kSeq_rt, kSeq_bk, kSeq_ct, kSeq_exc, kSeq_bad, ev_mSeq, kIf_t, kIf_f, kIf_exc, kIf_bad, ev_mIf, kExpr_ok, kExpr_exc, kExpr_bad, ev_mExpr, kRet_tm, kRet_pl, kRet_exc, kRet_bad, ev_mRet, ev_mRetN, kAsg_tm, kAsg_exc, kAsg_bad, ev_mAsg, kG_ok, kG_bad, kAsgG_tm, kAsgG_exc, kAsgG_bad, ev_mAsgG, kPar_tm, kPar_exc, kPar_bad, ev_mPar, kFor_ok, kFor_exc, kFor_bad, ev_mFor, kI2_some, kI2_none, kIOp_ok, kIOp_exc, kIOp_bad, ev_mIOp, kSI_ok, kSI_exc, kSI_bad, ev_mSeqI, kL2_ok, kLc_ok, kLc_exc, kLc_bad, ev_mLc, ev_mTgN, ev_mGNil, kGs_ok, ev_mGCons, kTg_some, ev_mTgT, ev_mTgL, kS3_some, kS2_l, kS1_ok, ev_mTgS, kH4_some, kH3_some, kH2_ok, kH1_t, kH1_f, kH0_ok, kH_ok, kH_exc, kH_bad, ev_mCh, kInt_ok, ev_mInt, kStr2_ok, kStr_ok, kStr_exc, kStr_bad, ev_mStr, kLs2_ok, kLs_ok, kLs_exc, kLs_bad, ev_mLs, kA2_ok, kA2_exc, kA2_bad, kA1_ok, kA1_exc, kA1_bad, ev_mApp, kF3_some, kF4_some, kF2_ret, kF2_exc, kF1_some, ev_fCall, kK2_ret, kK2_exc, kK1_some, ev_fCallK, kRun_nx, kRun_rt, kRun_exc, kRun_bad, ev_runF, ev_mDct0, kDc2_some, kDc_ok, kDc_exc, kDc_bad, ev_mDct, fIx, fAdd, fMul, fDivmod, fList, fTuple, fLst, fTup, fLen, fIsi, fApp, fSl10, fSl01, fSl11, fSl00, fRng1, fRng2, fIsN, share, look, vw, vws, T.at, T.sub, T.put, T.putS, putT, T.fz, T.fzL, tru, itemAt, atI, ixN, shL, shT, allD, tms, lenT, tyT, tyNs, tyD, subT, tys, nonT, hEq, hNe, hLt, hLe, hGt, hGe, hCmp, hIn, hAbs, h2F, hMax2, hMin2, h2I, hSub, hMod, hDiv, hPow, hNeg, hInt1, hBls, hInts, blsD, intsD, strsD, hJoin, fSl1, seqD, wipable, wipeE, unwipe, outs, isL, keysT, keyD, moveOut, putBack, holes, noIo, isH, arrT, arrG, Op.deep, itemsT, itemsL, SeqAt.shaped, PyData.canLay0, PyData.canLayAll0, PyData.depth, PyData.depthAll, PyData.eqv, PyData.eqvAll, h4, h1, a1, a2]
      · exact ⟨1, by decide, by simp [ev_mVar, ev_mD, ev_mV, ev_mNil, ev_mYes, kP_ok, kP_exc, kP_bad, kB_ok, kB_exc, kB_bad, kC2_ok, kC2_exc, kC2_bad, kC1_ok, kC1_exc, kC1_bad, ev_mCons, kOp_ok, kOp_exc, kOp_bad, ev_mOpN, ev_m2, ev_m1, kSh_ok, kSh_exc, kSh_bad, ev_mSh, kD2_some, kD2_none, kD1_some, kD1_none, ev_fD, kT2_some, kT2_none, kTst_ok, kTst_exc, kTst_bad, ev_mTst, boolT_b, kTb_ok, kTb_exc, kTb_bad, ev_mTb, kAnd_t, kAnd_f, kAnd_exc, kAnd_bad, ev_mAndB, kOr_f, kOr_t, kOr_exc, kOr_bad, ev_mOrB, kNot_ok, kNot_exc, kNot_bad, ev_mNotB, kNotV_ok, kNotV_exc, kNotV_bad, ev_mNotV, kAV2_t, kAV2_f, kAV2_n, kAV_ok, kAV_exc, kAV_bad, ev_mAndV, kOV2_f, kOV2_t, kOV2_n, kOV_ok, kOV_exc, kOV_bad, ev_mOrV, kIfE_t, kIfE_f, kIfE_exc, kIfE_bad, ev_mIfE, ev_mSkip, ev_mBrk, ev_mCnt, kSeq_nx, kSeq_rt, kSeq_bk, kSeq_ct, kSeq_exc, kSeq_bad, ev_mSeq, kIf_t, kIf_f, kIf_exc, kIf_bad, ev_mIf, kExpr_ok, kExpr_exc, kExpr_bad, ev_mExpr, kRet_tm, kRet_pl, kRet_exc, kRet_bad, ev_mRet, ev_mRetN, kAsg_tm, kAsg_exc, kAsg_bad, ev_mAsg, kG_ok, kG_bad, kAsgG_tm, kAsgG_exc, kAsgG_bad, ev_mAsgG, kPar_tm, kPar_exc, kPar_bad, ev_mPar, kFor_ok, kFor_exc, kFor_bad, ev_mFor, kI2_some, kI2_none, kIOp_ok, kIOp_exc, kIOp_bad, ev_mIOp, kSI_ok, kSI_exc, kSI_bad, ev_mSeqI, kL2_ok, kLc_ok, kLc_exc, kLc_bad, ev_mLc, ev_mTgN, ev_mGNil, kGs_ok, ev_mGCons, kTg_some, ev_mTgT, ev_mTgL, kS3_some, kS2_l, kS1_ok, ev_mTgS, kH4_some, kH3_some, kH2_ok, kH1_t, kH1_f, kH0_ok, kH_ok, kH_exc, kH_bad, ev_mCh, kInt_ok, ev_mInt, kStr2_ok, kStr_ok, kStr_exc, kStr_bad, ev_mStr, kLs2_ok, kLs_ok, kLs_exc, kLs_bad, ev_mLs, kA2_ok, kA2_exc, kA2_bad, kA1_ok, kA1_exc, kA1_bad, ev_mApp, kF3_some, kF4_some, kF2_ret, kF2_exc, kF1_some, ev_fCall, kK2_ret, kK2_exc, kK1_some, ev_fCallK, kRun_nx, kRun_rt, kRun_exc, kRun_bad, ev_runF, ev_mDct0, kDc2_some, kDc_ok, kDc_exc, kDc_bad, ev_mDct, fIx, fAdd, fMul, fDivmod, fList, fTuple, fLst, fTup, fLen, fIsi, fApp, fSl10, fSl01, fSl11, fSl00, fRng1, fRng2, fIsN, share, look, vw, vws, T.at, T.sub, T.put, T.putS, putT, T.fz, T.fzL, tru, itemAt, atI, ixN, shL, shT, allD, tms, lenT, tyT, tyNs, tyD, subT, tys, nonT, hEq, hNe, hLt, hLe, hGt, hGe, hCmp, hIn, hAbs, h2F, hMax2, hMin2, h2I, hSub, hMod, hDiv, hPow, hNeg, hInt1, hBls, hInts, blsD, intsD, strsD, hJoin, fSl1, seqD, wipable, wipeE, unwipe, outs, isL, keysT, keyD, moveOut, putBack, holes, noIo, isH, arrT, arrG, Op.deep, itemsT, itemsL, SeqAt.shaped, PyData.canLay0, PyData.canLayAll0, PyData.depth, PyData.depthAll, PyData.eqv, PyData.eqvAll, h4, h1]⟩
  have hL := loop_inv (mg := g_law_1) (mb := w_law_1) (ρ0 := [some (.scr ns), none, none, none]) (ds := rangeL 0 (n : Int)) (fun i ρ => ∃ r1 r2, ρ = [some (.scr ns), r1, r2, none]) ⟨none, none, rfl⟩ (fun i ρ d hd ⟨r1, r2, e⟩ => by
    subst e
    have hi : i < n := by
      have := (List.getElem?_eq_some_iff.mp hd).1
      simpa [rangeL] using this
    have ed : d = .int (i : Nat) := by
      have : (rangeL 0 (n : Int))[i]? = some (.int (i : Nat)) := by simp [rangeL, hi]
      rw [hd] at this
      exact Option.some.inj this
    subst ed
    obtain ⟨p, hp, h⟩ := e_pot (ns := ns) (k := i) (by omega)
    have g2 : z_law_2 [some (.scr ns), some (.d (.int (i : Nat))), r2, none] = .ok .nx [some (.scr ns), some (.d (.int (i : Nat))), some (P p), none] true := by
      unfold z_law_2
      simp [ev_mVar, ev_mD, ev_mV, ev_mNil, ev_mYes, kP_ok, kP_exc, kP_bad, kB_ok, kB_exc, kB_bad, kC2_ok, kC2_exc, kC2_bad, kC1_ok, kC1_exc, kC1_bad, ev_mCons, kOp_ok, kOp_exc, kOp_bad, ev_mOpN, ev_m2, ev_m1, kSh_ok, kSh_exc, kSh_bad, ev_mSh, kD2_some, kD2_none, kD1_some, kD1_none, ev_fD, kT2_some, kT2_none, kTst_ok, kTst_exc, kTst_bad, ev_mTst, boolT_b, kTb_ok, kTb_exc, kTb_bad, ev_mTb, kAnd_t, kAnd_f, kAnd_exc, kAnd_bad, ev_mAndB, kOr_f, kOr_t, kOr_exc, kOr_bad, ev_mOrB, kNot_ok, kNot_exc, kNot_bad, ev_mNotB, kNotV_ok, kNotV_exc, kNotV_bad, ev_mNotV, kAV2_t, kAV2_f, kAV2_n, kAV_ok, kAV_exc, kAV_bad, ev_mAndV, kOV2_f, kOV2_t, kOV2_n, kOV_ok, kOV_exc, kOV_bad, ev_mOrV, kIfE_t, kIfE_f, kIfE_exc, kIfE_bad, ev_mIfE, ev_mSkip, ev_mBrk, ev_mCnt, kSeq_nx, kSeq_rt, kSeq_bk, kSeq_ct, kSeq_exc, kSeq_bad, ev_mSeq, kIf_t, kIf_f, kIf_exc, kIf_bad, ev_mIf, kExpr_ok, kExpr_exc, kExpr_bad, ev_mExpr, kRet_tm, kRet_pl, kRet_exc, kRet_bad, ev_mRet, ev_mRetN, kAsg_tm, kAsg_exc, kAsg_bad, ev_mAsg, kG_ok, kG_bad, kAsgG_tm, kAsgG_exc, kAsgG_bad, ev_mAsgG, kPar_tm, kPar_exc, kPar_bad, ev_mPar, kFor_ok, kFor_exc, kFor_bad, ev_mFor, kI2_some, kI2_none, kIOp_ok, kIOp_exc, kIOp_bad, ev_mIOp, kSI_ok, kSI_exc, kSI_bad, ev_mSeqI, kL2_ok, kLc_ok, kLc_exc, kLc_bad, ev_mLc, ev_mTgN, ev_mGNil, kGs_ok, ev_mGCons, kTg_some, ev_mTgT, ev_mTgL, kS3_some, kS2_l, kS1_ok, ev_mTgS, kH4_some, kH3_some, kH2_ok, kH1_t, kH1_f, kH0_ok, kH_ok, kH_exc, kH_bad, ev_mCh, kInt_ok, ev_mInt, kStr2_ok, kStr_ok, kStr_exc, kStr_bad, ev_mStr, kLs2_ok, kLs_ok, kLs_exc, kLs_bad, ev_mLs, kA2_ok, kA2_exc, kA2_bad, kA1_ok, kA1_exc, kA1_bad, ev_mApp, kF3_some, kF4_some, kF2_ret, kF2_exc, kF1_some, ev_fCall, kK2_ret, kK2_exc, kK1_some, ev_fCallK, kRun_nx, kRun_rt, kRun_exc, kRun_bad, ev_runF, ev_mDct0, kDc2_some, kDc_ok, kDc_exc, kDc_bad, ev_mDct, fIx, fAdd, fMul, fDivmod, fList, fTuple, fLst, fTup, fLen, fIsi, fApp, fSl10, fSl01, fSl11, fSl00, fRng1, fRng2, fIsN, share, look, vw, vws, T.at, T.sub, T.put, T.putS, putT, T.fz, T.fzL, tru, itemAt, atI, ixN, shL, shT, allD, tms, lenT, tyT, tyNs, tyD, subT, tys, nonT, hEq, hNe, hLt, hLe, hGt, hGe, hCmp, hIn, hAbs, h2F, hMax2, hMin2, h2I, hSub, hMod, hDiv, hPow, hNeg, hInt1, hBls, hInts, blsD, intsD, strsD, hJoin, fSl1, seqD, wipable, wipeE, unwipe, outs, isL, keysT, keyD, moveOut, putBack, holes, noIo, isH, arrT, arrG, Op.deep, itemsT, itemsL, SeqAt.shaped, PyData.canLay0, PyData.canLayAll0, PyData.depth, PyData.depthAll, PyData.eqv, PyData.eqvAll, h]
    obtain ⟨p', hp', g4⟩ := turn_ok (ns := ns) (k := .int (i : Nat)) hp
    have gw : w_law_1 [some (.scr ns), some (.d (.int (i : Nat))), r2, none] = .ok .nx [some (.scr ns), some (.d (.int (i : Nat))), some (P p'), none] true := by
      show mSeq z_law_2 z_law_4 _ = _
      rw [ev_mSeq, g2, kSeq_nx, g4]
    exact ⟨_, _, _, _, rfl, .inl gw, _, _, rfl⟩)
  obtain ⟨ρ', p', hL, r1, r2, rfl⟩ := hL
  have g5 : z_law_5 [some (.scr ns), none, none, none] = .ok .nx [some (.scr ns), r1, r2, none] p' := by
    unfold z_law_5
    rw [ev_mFor, hq, kFor_ok, hL]
  refine ⟨[some (.scr ns)], ?_⟩
  show runF 4 [.io] (mSeq z_law_1 (mSeq z_law_5 z_law_6)) _ = _
  rw [ev_runF]
  show kRun [.io] (mSeq z_law_1 (mSeq z_law_5 z_law_6) [some (.scr ns), none, none, none]) = _
  rw [ev_mSeq, g1, kSeq_nx, ev_mSeq, g5, kSeq_nx]
  rfl
end K10
namespace K10
open PySem L2 MV
theorem tx_mk {l : PySem.W.OpenLaw} {w : World} {K : PySem.W.Frag} {h : Heap} {mg : Str → Option Value} {fa : Addr} (X : K.In h) (Gm : h.Ns mainGlobals mg) (hfa : mg "law" = some (.ref fa))
    {t_LETTERS : Tok}
    {t_MAX_WIDTH : Tok}
    {t_MOST_LETTERS : Tok}
    {a__law_is_word : Addr} {od__law_is_word an__law_is_word : Option Addr} {sl__law_is_word : Array (Option Value)} {oc__law_is_word kV__law_is_word dc__law_is_word pm__law_is_word cd__law_is_word ct__law_is_word : Value}
    {a__law_digit : Addr} {od__law_digit an__law_digit : Option Addr} {sl__law_digit : Array (Option Value)} {oc__law_digit kV__law_digit dc__law_digit pm__law_digit cd__law_digit ct__law_digit : Value}
    {a__law_integer : Addr} {od__law_integer an__law_integer : Option Addr} {sl__law_integer : Array (Option Value)} {oc__law_integer kV__law_integer dc__law_integer pm__law_integer cd__law_integer ct__law_integer : Value}
    {a__law_pick : Addr} {od__law_pick an__law_pick : Option Addr} {sl__law_pick : Array (Option Value)} {oc__law_pick kV__law_pick dc__law_pick pm__law_pick cd__law_pick ct__law_pick : Value}
    {a__law_thing : Addr} {od__law_thing an__law_thing : Option Addr} {sl__law_thing : Array (Option Value)} {oc__law_thing kV__law_thing dc__law_thing pm__law_thing cd__law_thing ct__law_thing : Value}
    {a_is_integer : Addr} {od_is_integer an_is_integer : Option Addr} {sl_is_integer : Array (Option Value)} {oc_is_integer kV_is_integer dc_is_integer pm_is_integer cd_is_integer ct_is_integer : Value}
    {a_is_name : Addr} {od_is_name an_is_name : Option Addr} {sl_is_name : Array (Option Value)} {oc_is_name kV_is_name dc_is_name pm_is_name cd_is_name ct_is_name : Value}
    {a__law_names_right : Addr} {od__law_names_right an__law_names_right : Option Addr} {sl__law_names_right : Array (Option Value)} {oc__law_names_right kV__law_names_right dc__law_names_right pm__law_names_right cd__law_names_right ct__law_names_right : Value}
    {a__law_pot : Addr} {od__law_pot an__law_pot : Option Addr} {sl__law_pot : Array (Option Value)} {oc__law_pot kV__law_pot dc__law_pot pm__law_pot cd__law_pot ct__law_pot : Value}
    {a_are_integers : Addr} {od_are_integers an_are_integers : Option Addr} {sl_are_integers : Array (Option Value)} {oc_are_integers kV_are_integers dc_are_integers pm_are_integers cd_are_integers ct_are_integers : Value}
    {a_is_width : Addr} {od_is_width an_is_width : Option Addr} {sl_is_width : Array (Option Value)} {oc_is_width kV_is_width dc_is_width pm_is_width cd_is_width ct_is_width : Value}
    {a_require_width : Addr} {od_require_width an_require_width : Option Addr} {sl_require_width : Array (Option Value)} {oc_require_width kV_require_width dc_require_width pm_require_width cd_require_width ct_require_width : Value}
    {a_is_row : Addr} {od_is_row an_is_row : Option Addr} {sl_is_row : Array (Option Value)} {oc_is_row  dc_is_row pm_is_row cd_is_row ct_is_row : Value} {kd_is_row : Addr}
    {a_require_index : Addr} {od_require_index an_require_index : Option Addr} {sl_require_index : Array (Option Value)} {oc_require_index kV_require_index dc_require_index pm_require_index cd_require_index ct_require_index : Value}
    {a_unit_row : Addr} {od_unit_row an_unit_row : Option Addr} {sl_unit_row : Array (Option Value)} {oc_unit_row  dc_unit_row pm_unit_row cd_unit_row ct_unit_row : Value} {kd_unit_row : Addr}
    {kt_unit_row_factor : Tok}
    {a__law_rows_right : Addr} {od__law_rows_right an__law_rows_right : Option Addr} {sl__law_rows_right : Array (Option Value)} {oc__law_rows_right kV__law_rows_right dc__law_rows_right pm__law_rows_right cd__law_rows_right ct__law_rows_right : Value}
    {a_law : Addr} {od_law an_law : Option Addr} {sl_law : Array (Option Value)} {oc_law kV_law dc_law pm_law cd_law ct_law : Value}
    (n_abs : PySem.W.nsIn K mainGlobals ("abs" : Str) = some none)
    (n_all : PySem.W.nsIn K mainGlobals ("all" : Str) = some none)
    (n_bool : PySem.W.nsIn K mainGlobals ("bool" : Str) = some none)
    (n_divmod : PySem.W.nsIn K mainGlobals ("divmod" : Str) = some none)
    (n_int : PySem.W.nsIn K mainGlobals ("int" : Str) = some none)
    (n_isinstance : PySem.W.nsIn K mainGlobals ("isinstance" : Str) = some none)
    (n_len : PySem.W.nsIn K mainGlobals ("len" : Str) = some none)
    (n_list : PySem.W.nsIn K mainGlobals ("list" : Str) = some none)
    (n_max : PySem.W.nsIn K mainGlobals ("max" : Str) = some none)
    (n_min : PySem.W.nsIn K mainGlobals ("min" : Str) = some none)
    (n_range : PySem.W.nsIn K mainGlobals ("range" : Str) = some none)
    (n_repr : PySem.W.nsIn K mainGlobals ("repr" : Str) = some none)
    (n_str : PySem.W.nsIn K mainGlobals ("str" : Str) = some none)
    (n_tuple : PySem.W.nsIn K mainGlobals ("tuple" : Str) = some none)
    (c_LETTERS : PySem.W.nsIn K mainGlobals ("LETTERS" : Str) = some (some (.str ("abcdefghijklmnopqrstuvwxyz" : Str) t_LETTERS)))
    (c_MAX_WIDTH : PySem.W.nsIn K mainGlobals ("MAX_WIDTH" : Str) = some (some (.int (16) t_MAX_WIDTH)))
    (c_MOST_LETTERS : PySem.W.nsIn K mainGlobals ("MOST_LETTERS" : Str) = some (some (.int (8) t_MOST_LETTERS)))
    (g__law_is_word : PySem.W.nsIn K mainGlobals ("_law_is_word" : Str) = some (some (.ref a__law_is_word))) (l__law_is_word : K.lookup a__law_is_word = some ⟨oc__law_is_word, od__law_is_word, .func (PySem.W.fnOf ("_law_is_word" : Str) ("_law_is_word" : Str) (defArgs s__law_is_word) (defBody s__law_is_word) (defScope s__law_is_word) .none kV__law_is_word dc__law_is_word pm__law_is_word an__law_is_word cd__law_is_word ct__law_is_word), sl__law_is_word⟩) (c__law_is_word : PySem.W.codeIn K cd__law_is_word ("_law_is_word" : Str) = true) (k__law_is_word : PySem.W.keepIn K (.ref a__law_is_word) = true)
    (g__law_digit : PySem.W.nsIn K mainGlobals ("_law_digit" : Str) = some (some (.ref a__law_digit))) (l__law_digit : K.lookup a__law_digit = some ⟨oc__law_digit, od__law_digit, .func (PySem.W.fnOf ("_law_digit" : Str) ("_law_digit" : Str) (defArgs s__law_digit) (defBody s__law_digit) (defScope s__law_digit) .none kV__law_digit dc__law_digit pm__law_digit an__law_digit cd__law_digit ct__law_digit), sl__law_digit⟩) (c__law_digit : PySem.W.codeIn K cd__law_digit ("_law_digit" : Str) = true) (k__law_digit : PySem.W.keepIn K (.ref a__law_digit) = true)
    (g__law_integer : PySem.W.nsIn K mainGlobals ("_law_integer" : Str) = some (some (.ref a__law_integer))) (l__law_integer : K.lookup a__law_integer = some ⟨oc__law_integer, od__law_integer, .func (PySem.W.fnOf ("_law_integer" : Str) ("_law_integer" : Str) (defArgs s__law_integer) (defBody s__law_integer) (defScope s__law_integer) .none kV__law_integer dc__law_integer pm__law_integer an__law_integer cd__law_integer ct__law_integer), sl__law_integer⟩) (c__law_integer : PySem.W.codeIn K cd__law_integer ("_law_integer" : Str) = true) (k__law_integer : PySem.W.keepIn K (.ref a__law_integer) = true)
    (g__law_pick : PySem.W.nsIn K mainGlobals ("_law_pick" : Str) = some (some (.ref a__law_pick))) (l__law_pick : K.lookup a__law_pick = some ⟨oc__law_pick, od__law_pick, .func (PySem.W.fnOf ("_law_pick" : Str) ("_law_pick" : Str) (defArgs s__law_pick) (defBody s__law_pick) (defScope s__law_pick) .none kV__law_pick dc__law_pick pm__law_pick an__law_pick cd__law_pick ct__law_pick), sl__law_pick⟩) (c__law_pick : PySem.W.codeIn K cd__law_pick ("_law_pick" : Str) = true) (k__law_pick : PySem.W.keepIn K (.ref a__law_pick) = true)
    (g__law_thing : PySem.W.nsIn K mainGlobals ("_law_thing" : Str) = some (some (.ref a__law_thing))) (l__law_thing : K.lookup a__law_thing = some ⟨oc__law_thing, od__law_thing, .func (PySem.W.fnOf ("_law_thing" : Str) ("_law_thing" : Str) (defArgs s__law_thing) (defBody s__law_thing) (defScope s__law_thing) .none kV__law_thing dc__law_thing pm__law_thing an__law_thing cd__law_thing ct__law_thing), sl__law_thing⟩) (c__law_thing : PySem.W.codeIn K cd__law_thing ("_law_thing" : Str) = true) (k__law_thing : PySem.W.keepIn K (.ref a__law_thing) = true)
    (g_is_integer : PySem.W.nsIn K mainGlobals ("is_integer" : Str) = some (some (.ref a_is_integer))) (l_is_integer : K.lookup a_is_integer = some ⟨oc_is_integer, od_is_integer, .func (PySem.W.fnOf ("is_integer" : Str) ("is_integer" : Str) (defArgs s_is_integer) (defBody s_is_integer) (defScope s_is_integer) .none kV_is_integer dc_is_integer pm_is_integer an_is_integer cd_is_integer ct_is_integer), sl_is_integer⟩) (c_is_integer : PySem.W.codeIn K cd_is_integer ("is_integer" : Str) = true) (k_is_integer : PySem.W.keepIn K (.ref a_is_integer) = true)
    (g_is_name : PySem.W.nsIn K mainGlobals ("is_name" : Str) = some (some (.ref a_is_name))) (l_is_name : K.lookup a_is_name = some ⟨oc_is_name, od_is_name, .func (PySem.W.fnOf ("is_name" : Str) ("is_name" : Str) (defArgs s_is_name) (defBody s_is_name) (defScope s_is_name) .none kV_is_name dc_is_name pm_is_name an_is_name cd_is_name ct_is_name), sl_is_name⟩) (c_is_name : PySem.W.codeIn K cd_is_name ("is_name" : Str) = true) (k_is_name : PySem.W.keepIn K (.ref a_is_name) = true)
    (g__law_names_right : PySem.W.nsIn K mainGlobals ("_law_names_right" : Str) = some (some (.ref a__law_names_right))) (l__law_names_right : K.lookup a__law_names_right = some ⟨oc__law_names_right, od__law_names_right, .func (PySem.W.fnOf ("_law_names_right" : Str) ("_law_names_right" : Str) (defArgs s__law_names_right) (defBody s__law_names_right) (defScope s__law_names_right) .none kV__law_names_right dc__law_names_right pm__law_names_right an__law_names_right cd__law_names_right ct__law_names_right), sl__law_names_right⟩) (c__law_names_right : PySem.W.codeIn K cd__law_names_right ("_law_names_right" : Str) = true) (k__law_names_right : PySem.W.keepIn K (.ref a__law_names_right) = true)
    (g__law_pot : PySem.W.nsIn K mainGlobals ("_law_pot" : Str) = some (some (.ref a__law_pot))) (l__law_pot : K.lookup a__law_pot = some ⟨oc__law_pot, od__law_pot, .func (PySem.W.fnOf ("_law_pot" : Str) ("_law_pot" : Str) (defArgs s__law_pot) (defBody s__law_pot) (defScope s__law_pot) .none kV__law_pot dc__law_pot pm__law_pot an__law_pot cd__law_pot ct__law_pot), sl__law_pot⟩) (c__law_pot : PySem.W.codeIn K cd__law_pot ("_law_pot" : Str) = true) (k__law_pot : PySem.W.keepIn K (.ref a__law_pot) = true)
    (g_are_integers : PySem.W.nsIn K mainGlobals ("are_integers" : Str) = some (some (.ref a_are_integers))) (l_are_integers : K.lookup a_are_integers = some ⟨oc_are_integers, od_are_integers, .func (PySem.W.fnOf ("are_integers" : Str) ("are_integers" : Str) (defArgs s_are_integers) (defBody s_are_integers) (defScope s_are_integers) .none kV_are_integers dc_are_integers pm_are_integers an_are_integers cd_are_integers ct_are_integers), sl_are_integers⟩) (c_are_integers : PySem.W.codeIn K cd_are_integers ("are_integers" : Str) = true) (k_are_integers : PySem.W.keepIn K (.ref a_are_integers) = true)
    (g_is_width : PySem.W.nsIn K mainGlobals ("is_width" : Str) = some (some (.ref a_is_width))) (l_is_width : K.lookup a_is_width = some ⟨oc_is_width, od_is_width, .func (PySem.W.fnOf ("is_width" : Str) ("is_width" : Str) (defArgs s_is_width) (defBody s_is_width) (defScope s_is_width) .none kV_is_width dc_is_width pm_is_width an_is_width cd_is_width ct_is_width), sl_is_width⟩) (c_is_width : PySem.W.codeIn K cd_is_width ("is_width" : Str) = true) (k_is_width : PySem.W.keepIn K (.ref a_is_width) = true)
    (g_require_width : PySem.W.nsIn K mainGlobals ("require_width" : Str) = some (some (.ref a_require_width))) (l_require_width : K.lookup a_require_width = some ⟨oc_require_width, od_require_width, .func (PySem.W.fnOf ("require_width" : Str) ("require_width" : Str) (defArgs s_require_width) (defBody s_require_width) (defScope s_require_width) .none kV_require_width dc_require_width pm_require_width an_require_width cd_require_width ct_require_width), sl_require_width⟩) (c_require_width : PySem.W.codeIn K cd_require_width ("require_width" : Str) = true) (k_require_width : PySem.W.keepIn K (.ref a_require_width) = true)
    (g_is_row : PySem.W.nsIn K mainGlobals ("is_row" : Str) = some (some (.ref a_is_row))) (l_is_row : K.lookup a_is_row = some ⟨oc_is_row, od_is_row, .func (PySem.W.fnOf ("is_row" : Str) ("is_row" : Str) (defArgs s_is_row) (defBody s_is_row) (defScope s_is_row) .none (.ref kd_is_row) dc_is_row pm_is_row an_is_row cd_is_row ct_is_row), sl_is_row⟩) (c_is_row : PySem.W.codeIn K cd_is_row ("is_row" : Str) = true) (k_is_row : PySem.W.keepIn K (.ref a_is_row) = true)
    (q_is_row_width : PySem.W.nsIn K kd_is_row ("width" : Str) = some (some .none))
    (g_require_index : PySem.W.nsIn K mainGlobals ("require_index" : Str) = some (some (.ref a_require_index))) (l_require_index : K.lookup a_require_index = some ⟨oc_require_index, od_require_index, .func (PySem.W.fnOf ("require_index" : Str) ("require_index" : Str) (defArgs s_require_index) (defBody s_require_index) (defScope s_require_index) .none kV_require_index dc_require_index pm_require_index an_require_index cd_require_index ct_require_index), sl_require_index⟩) (c_require_index : PySem.W.codeIn K cd_require_index ("require_index" : Str) = true) (k_require_index : PySem.W.keepIn K (.ref a_require_index) = true)
    (g_unit_row : PySem.W.nsIn K mainGlobals ("unit_row" : Str) = some (some (.ref a_unit_row))) (l_unit_row : K.lookup a_unit_row = some ⟨oc_unit_row, od_unit_row, .func (PySem.W.fnOf ("unit_row" : Str) ("unit_row" : Str) (defArgs s_unit_row) (defBody s_unit_row) (defScope s_unit_row) .none (.ref kd_unit_row) dc_unit_row pm_unit_row an_unit_row cd_unit_row ct_unit_row), sl_unit_row⟩) (c_unit_row : PySem.W.codeIn K cd_unit_row ("unit_row" : Str) = true) (k_unit_row : PySem.W.keepIn K (.ref a_unit_row) = true)
    (q_unit_row_factor : PySem.W.nsIn K kd_unit_row ("factor" : Str) = some (some (.int (1) kt_unit_row_factor)))
    (g__law_rows_right : PySem.W.nsIn K mainGlobals ("_law_rows_right" : Str) = some (some (.ref a__law_rows_right))) (l__law_rows_right : K.lookup a__law_rows_right = some ⟨oc__law_rows_right, od__law_rows_right, .func (PySem.W.fnOf ("_law_rows_right" : Str) ("_law_rows_right" : Str) (defArgs s__law_rows_right) (defBody s__law_rows_right) (defScope s__law_rows_right) .none kV__law_rows_right dc__law_rows_right pm__law_rows_right an__law_rows_right cd__law_rows_right ct__law_rows_right), sl__law_rows_right⟩) (c__law_rows_right : PySem.W.codeIn K cd__law_rows_right ("_law_rows_right" : Str) = true) (k__law_rows_right : PySem.W.keepIn K (.ref a__law_rows_right) = true)
    (g_law : PySem.W.nsIn K mainGlobals ("law" : Str) = some (some (.ref a_law))) (l_law : K.lookup a_law = some ⟨oc_law, od_law, .func (PySem.W.fnOf ("law" : Str) ("law" : Str) (defArgs s_law) (defBody s_law) (defScope s_law) .none kV_law dc_law pm_law an_law cd_law ct_law), sl_law⟩) (c_law : PySem.W.codeIn K cd_law ("law" : Str) = true) (k_law : PySem.W.keepIn K (.ref a_law) = true)
    : ∃ fd : FuncData, (∀ (s : Shared) (v : Value), BindsTo s fd ⟨[v], []⟩ [("script", v)]) ∧ ∀ base : Heap, K.In base → base.Ns mainGlobals mg → FnG l.prog w K mg base 6 fa fd ["script"] (spM (⟨K, fun _ => 0⟩ : G) 1 m_law) := by
  have e := hfa.symm.trans (PySem.W.mg_of X Gm g_law)
  cases e
  let T : Tx K mg := {
    n_abs := PySem.W.mg_none_of X Gm n_abs
    n_all := PySem.W.mg_none_of X Gm n_all
    n_bool := PySem.W.mg_none_of X Gm n_bool
    n_divmod := PySem.W.mg_none_of X Gm n_divmod
    n_int := PySem.W.mg_none_of X Gm n_int
    n_isinstance := PySem.W.mg_none_of X Gm n_isinstance
    n_len := PySem.W.mg_none_of X Gm n_len
    n_list := PySem.W.mg_none_of X Gm n_list
    n_max := PySem.W.mg_none_of X Gm n_max
    n_min := PySem.W.mg_none_of X Gm n_min
    n_range := PySem.W.mg_none_of X Gm n_range
    n_repr := PySem.W.mg_none_of X Gm n_repr
    n_str := PySem.W.mg_none_of X Gm n_str
    n_tuple := PySem.W.mg_none_of X Gm n_tuple
    c_LETTERS := ⟨t_LETTERS, PySem.W.mg_of X Gm c_LETTERS⟩
    c_MAX_WIDTH := ⟨t_MAX_WIDTH, PySem.W.mg_of X Gm c_MAX_WIDTH⟩
    c_MOST_LETTERS := ⟨t_MOST_LETTERS, PySem.W.mg_of X Gm c_MOST_LETTERS⟩
    a__law_is_word := _
    d__law_is_word := _
    f__law_is_word := funD_mk l__law_is_word c__law_is_word k__law_is_word (.inl rfl)
    g__law_is_word := PySem.W.mg_of X Gm g__law_is_word
    a__law_digit := _
    d__law_digit := _
    f__law_digit := funD_mk l__law_digit c__law_digit k__law_digit (.inl rfl)
    g__law_digit := PySem.W.mg_of X Gm g__law_digit
    a__law_integer := _
    d__law_integer := _
    f__law_integer := funD_mk l__law_integer c__law_integer k__law_integer (.inl rfl)
    g__law_integer := PySem.W.mg_of X Gm g__law_integer
    a__law_pick := _
    d__law_pick := _
    f__law_pick := funD_mk l__law_pick c__law_pick k__law_pick (.inl rfl)
    g__law_pick := PySem.W.mg_of X Gm g__law_pick
    a__law_thing := _
    d__law_thing := _
    f__law_thing := funD_mk l__law_thing c__law_thing k__law_thing (.inl rfl)
    g__law_thing := PySem.W.mg_of X Gm g__law_thing
    a_is_integer := _
    d_is_integer := _
    f_is_integer := funD_mk l_is_integer c_is_integer k_is_integer (.inl rfl)
    g_is_integer := PySem.W.mg_of X Gm g_is_integer
    a_is_name := _
    d_is_name := _
    f_is_name := funD_mk l_is_name c_is_name k_is_name (.inl rfl)
    g_is_name := PySem.W.mg_of X Gm g_is_name
    a__law_names_right := _
    d__law_names_right := _
    f__law_names_right := funD_mk l__law_names_right c__law_names_right k__law_names_right (.inl rfl)
    g__law_names_right := PySem.W.mg_of X Gm g__law_names_right
    a__law_pot := _
    d__law_pot := _
    f__law_pot := funD_mk l__law_pot c__law_pot k__law_pot (.inl rfl)
    g__law_pot := PySem.W.mg_of X Gm g__law_pot
    a_are_integers := _
    d_are_integers := _
    f_are_integers := funD_mk l_are_integers c_are_integers k_are_integers (.inl rfl)
    g_are_integers := PySem.W.mg_of X Gm g_are_integers
    a_is_width := _
    d_is_width := _
    f_is_width := funD_mk l_is_width c_is_width k_is_width (.inl rfl)
    g_is_width := PySem.W.mg_of X Gm g_is_width
    a_require_width := _
    d_require_width := _
    f_require_width := funD_mk l_require_width c_require_width k_require_width (.inl rfl)
    g_require_width := PySem.W.mg_of X Gm g_require_width
    a_is_row := _
    d_is_row := _
    f_is_row := funD_mk l_is_row c_is_row k_is_row (.inr ⟨_, rfl, (fun q hq => (List.mem_cons.mp hq).elim (fun z => z ▸ ⟨_, q_is_row_width, rfl⟩) ((fun _ z => nomatch z) q))⟩)
    g_is_row := PySem.W.mg_of X Gm g_is_row
    a_require_index := _
    d_require_index := _
    f_require_index := funD_mk l_require_index c_require_index k_require_index (.inl rfl)
    g_require_index := PySem.W.mg_of X Gm g_require_index
    a_unit_row := _
    d_unit_row := _
    f_unit_row := funD_mk l_unit_row c_unit_row k_unit_row (.inr ⟨_, rfl, (fun q hq => (List.mem_cons.mp hq).elim (fun z => z ▸ ⟨_, q_unit_row_factor, ⟨_, rfl⟩⟩) ((fun _ z => nomatch z) q))⟩)
    g_unit_row := PySem.W.mg_of X Gm g_unit_row
    a__law_rows_right := _
    d__law_rows_right := _
    f__law_rows_right := funD_mk l__law_rows_right c__law_rows_right k__law_rows_right (.inl rfl)
    g__law_rows_right := PySem.W.mg_of X Gm g__law_rows_right
    a_law := _
    d_law := _
    f_law := funD_mk l_law c_law k_law (.inl rfl)
    g_law := PySem.W.mg_of X Gm g_law }
  exact ⟨_, fun s v => .of_eq rfl, fun base _ _ => ok_law T⟩
end K10
open PySem PySem.W PyProof.Rows
set_option maxRecDepth 100000 in
set_option maxHeartbeats 0 in
theorem PySem.Challenge.cw_sumaudit_k10_names_integers_and_defaults_holds : PySem.Challenge.rw_sumaudit_k10_names_integers_and_defaults.Holds := by
  w_on; o_law; k_head; (case hw => w_witness2)
  k_fill
  refine MV.walk_end (l := PySem.Challenge.rw_sumaudit_k10_names_integers_and_defaults) (k := 6) (x := "script") (adr := fun _ _ _ => 0) (m := fun _ _ => K10.m_law) rfl rfl ⟨rfl, by decide, by decide⟩ (fun w h Y => PySem.W.kIn_of Y) ?F fun _ _ ns hl => K10.law_true ns hl
  case F =>
    intro w mg fa h KX G hmg
    refine' K10.tx_mk KX G hmg ?n_abs ?n_all ?n_bool ?n_divmod ?n_int ?n_isinstance ?n_len ?n_list ?n_max ?n_min ?n_range ?n_repr ?n_str ?n_tuple ?c_LETTERS ?c_MAX_WIDTH ?c_MOST_LETTERS ?g__law_is_word ?l__law_is_word ?c__law_is_word ?k__law_is_word ?g__law_digit ?l__law_digit ?c__law_digit ?k__law_digit ?g__law_integer ?l__law_integer ?c__law_integer ?k__law_integer ?g__law_pick ?l__law_pick ?c__law_pick ?k__law_pick ?g__law_thing ?l__law_thing ?c__law_thing ?k__law_thing ?g_is_integer ?l_is_integer ?c_is_integer ?k_is_integer ?g_is_name ?l_is_name ?c_is_name ?k_is_name ?g__law_names_right ?l__law_names_right ?c__law_names_right ?k__law_names_right ?g__law_pot ?l__law_pot ?c__law_pot ?k__law_pot ?g_are_integers ?l_are_integers ?c_are_integers ?k_are_integers ?g_is_width ?l_is_width ?c_is_width ?k_is_width ?g_require_width ?l_require_width ?c_require_width ?k_require_width ?g_is_row ?l_is_row ?c_is_row ?k_is_row ?q_is_row_width ?g_require_index ?l_require_index ?c_require_index ?k_require_index ?g_unit_row ?l_unit_row ?c_unit_row ?k_unit_row ?q_unit_row_factor ?g__law_rows_right ?l__law_rows_right ?c__law_rows_right ?k__law_rows_right ?g_law ?l_law ?c_law ?k_law
    (case n_abs => k_is)
    (case n_all => k_is)
    (case n_bool => k_is)
    (case n_divmod => k_is)
    (case n_int => k_is)
    (case n_isinstance => k_is)
    (case n_len => k_is)
    (case n_list => k_is)
    (case n_max => k_is)
    (case n_min => k_is)
    (case n_range => k_is)
    (case n_repr => k_is)
    (case n_str => k_is)
    (case n_tuple => k_is)
    (case c_LETTERS => k_is)
    (case c_MAX_WIDTH => k_is)
    (case c_MOST_LETTERS => k_is)
    (case g__law_is_word => k_is)
    (case l__law_is_word => k_is)
    (case c__law_is_word => k_is)
    (case k__law_is_word => k_is)
    (case g__law_digit => k_is)
    (case l__law_digit => k_is)
    (case c__law_digit => k_is)
    (case k__law_digit => k_is)
    (case g__law_integer => k_is)
    (case l__law_integer => k_is)
    (case c__law_integer => k_is)
    (case k__law_integer => k_is)
    (case g__law_pick => k_is)
    (case l__law_pick => k_is)
    (case c__law_pick => k_is)
    (case k__law_pick => k_is)
    (case g__law_thing => k_is)
    (case l__law_thing => k_is)
    (case c__law_thing => k_is)
    (case k__law_thing => k_is)
    (case g_is_integer => k_is)
    (case l_is_integer => k_is)
    (case c_is_integer => k_is)
    (case k_is_integer => k_is)
    (case g_is_name => k_is)
    (case l_is_name => k_is)
    (case c_is_name => k_is)
    (case k_is_name => k_is)
    (case g__law_names_right => k_is)
    (case l__law_names_right => k_is)
    (case c__law_names_right => k_is)
    (case k__law_names_right => k_is)
    (case g__law_pot => k_is)
    (case l__law_pot => k_is)
    (case c__law_pot => k_is)
    (case k__law_pot => k_is)
    (case g_are_integers => k_is)
    (case l_are_integers => k_is)
    (case c_are_integers => k_is)
    (case k_are_integers => k_is)
    (case g_is_width => k_is)
    (case l_is_width => k_is)
    (case c_is_width => k_is)
    (case k_is_width => k_is)
    (case g_require_width => k_is)
    (case l_require_width => k_is)
    (case c_require_width => k_is)
    (case k_require_width => k_is)
    (case g_is_row => k_is)
    (case l_is_row => k_is)
    (case c_is_row => k_is)
    (case k_is_row => k_is)
    (case q_is_row_width => k_is)
    (case g_require_index => k_is)
    (case l_require_index => k_is)
    (case c_require_index => k_is)
    (case k_require_index => k_is)
    (case g_unit_row => k_is)
    (case l_unit_row => k_is)
    (case c_unit_row => k_is)
    (case k_unit_row => k_is)
    (case q_unit_row_factor => k_is)
    (case g__law_rows_right => k_is)
    (case l__law_rows_right => k_is)
    (case c__law_rows_right => k_is)
    (case k__law_rows_right => k_is)
    (case g_law => k_is)
    (case l_law => k_is)
    (case c_law => k_is)
    (case k_law => k_is)
