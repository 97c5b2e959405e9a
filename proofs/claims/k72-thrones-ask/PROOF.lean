import PyProof.Rows.All
import Wide.All
import OpenK.AllK
import Wide.FinOn
import HandS.ForMost
import HandS.ForExc
import HandS.Deep
import HandS.Conv
import HandS.Zip
import HandS.HeadHook2
import HandS.NoneIn
import HandS.Defaults
import HandS.TupAny
import HandS.TupMul
import HandS.Style
import HandS.IsInst
import HandS.Strs
import PyProof.Rows.SeqMore
import HandS.Call
import HandS.List
import KE.SortData
import HandS.Iter
import KE.GoesMore
import KE.GoesEnum
import HandS.Small
import KE.KStateDown
import Lean
import HandS.Head0
import HandS.Head1
import HandS.Head2
import HandS.HeadEnd
import HandS.HeadHook1
import PySem.Challenge.RW_thronewalk_k72_thrones_ask
set_option Elab.async false
set_option linter.all false
set_option autoImplicit false
set_option maxRecDepth 100000
set_option maxHeartbeats 2000000
/-! A layer over data: values of the heap as PyData, local lists and dicts as cells. -/
namespace GL
open PySem PySem.Spec PyProof.Rows L2

abbrev D := PyData

/-! ### what a value stands for -/
/-- a tuple whose object keeps no attributes -/
def SqD (K : PySem.W.Frag) (H : Hp) (a : Addr) (xs : List V) : Prop :=
  (∃ o : Obj, o.dict = none ∧ H a = some (.frz o (.tup xs))) ∨
    ∃ (o : Obj) (vs : Array Value) (m : Nat), K.lookup a = some o ∧ o.dict = none ∧ o.cls = .type "tuple" ∧ o.data = .seq vs m ∧ vs.size ≤ sizeLine ∧ Vals xs vs.toList
theorem SqD.t {K : PySem.W.Frag} {H : Hp} {a : Addr} {xs : List V} (h : SqD K H a xs) : SqT K H a xs := by
  rcases h with ⟨o, _, e⟩ | ⟨o, vs, m, h1, _, h3, h4, h5, h6⟩
  · exact .inl (.inr ⟨o, e⟩)
  · exact .inr ⟨o, vs, m, h1, h3, h4, h5, h6⟩
/-- a list of the written part -/
def KL (K : PySem.W.Frag) (a : Addr) (xs : List V) : Prop := ∃ (o : Obj) (us : Array Value) (m : Nat), K.lookup a = some o ∧ o.cls = .type "list" ∧ o.dict = none ∧ o.data = .seq us m ∧ us.size ≤ sizeLine ∧ Vals xs us.toList
mutual
inductive Rep (K : PySem.W.Frag) (av : Addr → Prop) (H : Hp) : V → D → Prop
  | non : Rep K av H .non .none
  | bl (b : Bool) : Rep K av H (.bl b) (.bool b)
  | int (i : Int) : Rep K av H (.int i) (.int i)
  | str (x : Str) : Rep K av H (.str x) (.str x)
  | tup {a : Addr} {xs : List V} {ds : List D} : xs.length ≤ sizeLine → SqD K H a xs → Reps K av H xs ds → Rep K av H (.ref a) (.tuple ds)
  | lst {a : Addr} {xs : List V} {ds : List D} : xs.length ≤ sizeLine → ¬ av a → Rd H a (.lst xs) → Reps K av H xs ds → Rep K av H (.ref a) (.list ds)
  | kl {a : Addr} {xs : List V} {ds : List D} : xs.length ≤ sizeLine → KL K a xs → Reps K av H xs ds → Rep K av H (.ref a) (.list ds)
inductive Reps (K : PySem.W.Frag) (av : Addr → Prop) (H : Hp) : List V → List D → Prop
  | nil : Reps K av H [] []
  | cons {v : V} {vs : List V} {d : D} {ds : List D} : Rep K av H v d → Reps K av H vs ds → Reps K av H (v :: vs) (d :: ds)
end

/-- what is kept: all but the changeable things at Z -/
def Kp (Z : List Addr) (H H' : Hp) : Prop := ∀ a o, H a = some o → (a ∉ Z ∨ ¬ Mut (some o)) → H' a = some o
theorem Kp.refl (Z : List Addr) (H : Hp) : Kp Z H H := fun _ _ h _ => h
theorem Kp.trans {Z : List Addr} {H H1 H2 : Hp} (a : Kp Z H H1) (b : Kp Z H1 H2) : Kp Z H H2 := fun x o h c => b x o (a x o h c) c
theorem Kp.new {Z : List Addr} {H : Hp} {p : Addr} {o : HO} (h : H p = none) : Kp Z H (upd H p o) := fun a u e _ => by
  rw [upd_ne (ne_of_none e h)]
  exact e
theorem Kp.of_same {Z : List Addr} {H H' : Hp} (h : Same H H') : Kp Z H H' := fun a o e _ => h a o e
theorem Kp.mut {Z : List Addr} {H : Hp} {p : Addr} {o u : HO} (hp : p ∈ Z) (h : H p = some u) (mu : Mut (some u)) : Kp Z H (upd H p o) := fun a w e c => by
  by_cases q : a = p
  · subst q
    rw [h] at e
    cases e
    rcases c with c | c
    · exact absurd hp c
    · exact absurd mu c
  · rw [upd_ne q]
    exact e
theorem Kp.mono {Z Z' : List Addr} {H H' : Hp} (h : Kp Z H H') (s : ∀ a ∈ Z, a ∈ Z') : Kp Z' H H' := fun a o e c => h a o e (c.imp (fun n m => n (s a m)) id)

section
variable {K : PySem.W.Frag} {av av' : Addr → Prop} {H H' : Hp}
theorem kp_sqT {Z : List Addr} {a : Addr} {xs : List V} (k : Kp Z H H') (h : SqD K H a xs) : SqD K H' a xs := by
  rcases h with ⟨o, ho, h⟩ | h
  · exact .inl ⟨o, ho, k _ _ h (.inr fun z => z)⟩
  · exact .inr h
theorem kp_sqL {Z : List Addr} {a : Addr} {xs : List V} (k : Kp Z H H') (n : a ∉ Z) (h : Rd H a (.lst xs)) : Rd H' a (.lst xs) := by
  rcases h with h | ⟨o, h⟩
  · exact .inl (k _ _ h (.inl n))
  · exact .inr ⟨o, k _ _ h (.inl n)⟩
mutual
theorem Rep.keep {Z : List Addr} (k : Kp Z H H') (hz : ∀ a ∈ Z, av a) : ∀ (d : D) (v : V), Rep K av H v d → Rep K av H' v d
  | .none, _, h => by cases h; exact .non
  | .bool _, _, h => by cases h; exact .bl _
  | .int _, _, h => by cases h; exact .int _
  | .str _, _, h => by cases h; exact .str _
  | .tuple ds, _, h => by
    cases h with
    | tup hz' h1 h2 => exact .tup hz' (kp_sqT k h1) (Reps.keep k hz ds _ h2)
  | .list ds, _, h => by
    cases h with
    | lst hz' n h1 h2 => exact .lst hz' n (kp_sqL k (fun m => n (hz _ m)) h1) (Reps.keep k hz ds _ h2)
    | kl hz' h1 h2 => exact .kl hz' h1 (Reps.keep k hz ds _ h2)
  | .dict _, _, h => by cases h
theorem Reps.keep {Z : List Addr} (k : Kp Z H H') (hz : ∀ a ∈ Z, av a) : ∀ (ds : List D) (vs : List V), Reps K av H vs ds → Reps K av H' vs ds
  | [], _, h => by cases h; exact .nil
  | d :: ds, _, h => by
    cases h with
    | cons h1 h2 => exact .cons (Rep.keep k hz d _ h1) (Reps.keep k hz ds _ h2)
end
mutual
theorem Rep.weak (hz : ∀ a, av' a → av a) : ∀ (d : D) (v : V), Rep K av H v d → Rep K av' H v d
  | .none, _, h => by cases h; exact .non
  | .bool _, _, h => by cases h; exact .bl _
  | .int _, _, h => by cases h; exact .int _
  | .str _, _, h => by cases h; exact .str _
  | .tuple ds, _, h => by
    cases h with
    | tup hz' h1 h2 => exact .tup hz' h1 (Reps.weak hz ds _ h2)
  | .list ds, _, h => by
    cases h with
    | lst hz' n h1 h2 => exact .lst hz' (fun m => n (hz _ m)) h1 (Reps.weak hz ds _ h2)
    | kl hz' h1 h2 => exact .kl hz' h1 (Reps.weak hz ds _ h2)
  | .dict _, _, h => by cases h
theorem Reps.weak (hz : ∀ a, av' a → av a) : ∀ (ds : List D) (vs : List V), Reps K av H vs ds → Reps K av' H vs ds
  | [], _, h => by cases h; exact .nil
  | d :: ds, _, h => by
    cases h with
    | cons h1 h2 => exact .cons (Rep.weak hz d _ h1) (Reps.weak hz ds _ h2)
end
mutual
/-- a new address may be avoided, too: what stands, stands elsewhere -/
theorem Rep.more {p : Addr} (hp : H p = none) : ∀ (d : D) (v : V), Rep K av H v d → Rep K (fun a => a = p ∨ av a) H v d
  | .none, _, h => by cases h; exact .non
  | .bool _, _, h => by cases h; exact .bl _
  | .int _, _, h => by cases h; exact .int _
  | .str _, _, h => by cases h; exact .str _
  | .tuple ds, _, h => by
    cases h with
    | tup hz' h1 h2 => exact .tup hz' h1 (Reps.more hp ds _ h2)
  | .list ds, _, h => by
    cases h with
    | kl hz' h1 h2 => exact .kl hz' h1 (Reps.more hp ds _ h2)
    | lst hz' n h1 h2 =>
      refine .lst hz' (fun m => ?_) h1 (Reps.more hp ds _ h2)
      rcases m with m | m
      · subst m
        rcases h1 with h1 | ⟨o, h1⟩
        · rw [hp] at h1; cases h1
        · rw [hp] at h1; cases h1
      · exact n m
  | .dict _, _, h => by cases h
theorem Reps.more {p : Addr} (hp : H p = none) : ∀ (ds : List D) (vs : List V), Reps K av H vs ds → Reps K (fun a => a = p ∨ av a) H vs ds
  | [], _, h => by cases h; exact .nil
  | d :: ds, _, h => by
    cases h with
    | cons h1 h2 => exact .cons (Rep.more hp d _ h1) (Reps.more hp ds _ h2)
end
mutual
theorem Rep.dp : ∀ (d : D) (v : V), Rep K av H v d → Dp K H v d
  | .none, _, h => by cases h; exact .non
  | .bool _, _, h => by cases h; exact .bl _
  | .int _, _, h => by cases h; exact .int _
  | .str _, _, h => by cases h; exact .str _
  | .tuple ds, _, h => by
    cases h with
    | tup _ h1 h2 => exact .tup h1.t (Reps.dp ds _ h2)
  | .list ds, _, h => by
    cases h with
    | lst _ n h1 h2 => exact .lst (.inl h1) (Reps.dp ds _ h2)
    | kl _ h1 h2 => exact .lst (.inr h1) (Reps.dp ds _ h2)
  | .dict _, _, h => by cases h
theorem Reps.dp : ∀ (ds : List D) (vs : List V), Reps K av H vs ds → DpAll K H vs ds
  | [], _, h => by cases h; exact .nil
  | d :: ds, _, h => by
    cases h with
    | cons h1 h2 => exact .cons (Rep.dp d _ h1) (Reps.dp ds _ h2)
end
theorem Rep.lstL {v : V} {ds : List D} (h : Rep K av H v (.list ds)) : ∃ a xs, v = .ref a ∧ xs.length ≤ sizeLine ∧ SqL K H a xs ∧ Reps K av H xs ds := by
  cases h with
  | lst hz n h1 h2 => exact ⟨_, _, rfl, hz, .inl h1, h2⟩
  | kl hz h1 h2 => exact ⟨_, _, rfl, hz, .inr h1, h2⟩
theorem Reps.length : ∀ {vs : List V} {ds : List D}, Reps K av H vs ds → vs.length = ds.length
  | _, [], h => by cases h; rfl
  | _, d :: ds, h => by
    cases h with
    | cons h1 h2 => rw [List.length_cons, List.length_cons, Reps.length h2]
theorem Reps.get : ∀ {vs : List V} {ds : List D} {i : Nat} {d : D}, Reps K av H vs ds → ds[i]? = some d → ∃ v, vs[i]? = some v ∧ Rep K av H v d
  | _, [], _, _, _, e => by simp at e
  | _, d :: ds, 0, _, h, e => by
    cases h with
    | cons h1 h2 =>
      have e1 : d = _ := Option.some.inj e
      subst e1
      exact ⟨_, rfl, h1⟩
  | _, d :: ds, i + 1, x, h, e => by
    cases h with
    | cons h1 h2 =>
      obtain ⟨v, e1, r⟩ := Reps.get (i := i) (d := x) h2 (by simpa using e)
      exact ⟨v, by simpa using e1, r⟩
theorem Reps.getV : ∀ {vs : List V} {ds : List D} {i : Nat} {v : V}, Reps K av H vs ds → vs[i]? = some v → ∃ d, ds[i]? = some d ∧ Rep K av H v d
  | _, [], _, _, h, e => by cases h; simp at e
  | _, d :: ds, 0, _, h, e => by
    cases h with
    | cons h1 h2 =>
      have e1 := Option.some.inj e
      subst e1
      exact ⟨_, rfl, h1⟩
  | _, d :: ds, i + 1, x, h, e => by
    cases h with
    | cons h1 h2 =>
      obtain ⟨v, e1, r⟩ := Reps.getV (i := i) (v := x) h2 (by simpa using e)
      exact ⟨v, by simpa using e1, r⟩
theorem Reps.append : ∀ {vs ws : List V} {ds es : List D}, Reps K av H vs ds → Reps K av H ws es → Reps K av H (vs ++ ws) (ds ++ es)
  | _, _, [], _, h, g => by cases h; exact g
  | _, _, d :: ds, _, h, g => by
    cases h with
    | cons h1 h2 => exact .cons h1 (Reps.append h2 g)
theorem Reps.take : ∀ {vs : List V} {ds : List D} (n : Nat), Reps K av H vs ds → Reps K av H (vs.take n) (ds.take n)
  | _, _, 0, _ => by rw [List.take_zero, List.take_zero]; exact .nil
  | _, [], n + 1, h => by cases h; exact .nil
  | _, d :: ds, n + 1, h => by
    cases h with
    | cons h1 h2 => exact .cons h1 (Reps.take n h2)
theorem Reps.drop : ∀ {vs : List V} {ds : List D} (n : Nat), Reps K av H vs ds → Reps K av H (vs.drop n) (ds.drop n)
  | _, _, 0, h => h
  | _, [], n + 1, h => by cases h; exact .nil
  | _, d :: ds, n + 1, h => by
    cases h with
    | cons h1 h2 => exact Reps.drop n h2
theorem Reps.set : ∀ {vs : List V} {ds : List D} {v : V} {d : D} (n : Nat), Reps K av H vs ds → Rep K av H v d → Reps K av H (vs.set n v) (ds.set n d)
  | _, [], _, _, _, h, _ => by cases h; exact .nil
  | _, d :: ds, _, _, 0, h, r => by
    cases h with
    | cons h1 h2 => exact .cons r h2
  | _, d :: ds, _, _, n + 1, h, r => by
    cases h with
    | cons h1 h2 => exact .cons h1 (Reps.set n h2 r)
theorem Reps.erase : ∀ {vs : List V} {ds : List D} (n : Nat), Reps K av H vs ds → Reps K av H (vs.eraseIdx n) (ds.eraseIdx n)
  | _, [], _, h => by cases h; exact .nil
  | _, d :: ds, 0, h => by
    cases h with
    | cons h1 h2 => exact h2
  | _, d :: ds, n + 1, h => by
    cases h with
    | cons h1 h2 => exact .cons h1 (Reps.erase n h2)
theorem Reps.dropLast {vs : List V} {ds : List D} (h : Reps K av H vs ds) : Reps K av H vs.dropLast ds.dropLast := by
  rw [List.dropLast_eq_take, List.dropLast_eq_take, h.length]
  exact h.take _
theorem Reps.reverse : ∀ {vs : List V} {ds : List D}, Reps K av H vs ds → Reps K av H vs.reverse ds.reverse
  | _, [], h => by cases h; exact .nil
  | _, d :: ds, h => by
    cases h with
    | cons h1 h2 =>
      rw [List.reverse_cons, List.reverse_cons]
      exact Reps.append (Reps.reverse h2) (.cons h1 .nil)
theorem Reps.replicate {v : V} {d : D} (h : Rep K av H v d) : ∀ n : Nat, Reps K av H (List.replicate n v) (List.replicate n d)
  | 0 => .nil
  | n + 1 => .cons h (Reps.replicate h n)
theorem Reps.rep {vs : List V} {ds : List D} (h : Reps K av H vs ds) : ∀ k : Nat, Reps K av H (List.replicate k vs).flatten (List.replicate k ds).flatten
  | 0 => .nil
  | k + 1 => by
    rw [List.replicate_succ, List.replicate_succ, List.flatten_cons, List.flatten_cons]
    exact h.append (Reps.rep h k)
theorem reps_ints : ∀ ns : List Int, Reps K av H (ns.map V.int) (ns.map PyData.int)
  | [] => .nil
  | n :: ns => .cons (.int n) (reps_ints ns)
theorem reps_strs : ∀ ns : List Str, Reps K av H (ns.map V.str) (ns.map PyData.str)
  | [] => .nil
  | n :: ns => .cons (.str n) (reps_strs ns)
theorem reps_ints_of : ∀ {ns : List Int} {vs : List V}, Reps K av H vs (ns.map PyData.int) → vs = ns.map V.int
  | [], _, h => by cases h; rfl
  | n :: ns, _, h => by
    cases h with
    | cons h1 h2 =>
      cases h1
      rw [List.map_cons, reps_ints_of h2]
theorem reps_strs_of : ∀ {ns : List Str} {vs : List V}, Reps K av H vs (ns.map PyData.str) → vs = ns.map V.str
  | [], _, h => by cases h; rfl
  | n :: ns, _, h => by
    cases h with
    | cons h1 h2 =>
      cases h1
      rw [List.map_cons, reps_strs_of h2]
theorem reps_bools_of : ∀ {ns : List Bool} {vs : List V}, Reps K av H vs (ns.map PyData.bool) → vs = ns.map V.bl
  | [], _, h => by cases h; rfl
  | n :: ns, _, h => by
    cases h with
    | cons h1 h2 =>
      cases h1
      rw [List.map_cons, reps_bools_of h2]
end

/-! ### slots -/
/-- an own list of values and of references to other slots; an own dict of references -/
inductive OC where
  | lst (its : List (D ⊕ Nat)) | dct (kvs : List (Key × Nat))
inductive Sl where
  | un | va (d : D) | ce (io : Bool) (d : D) | ow (gh : Bool) (c : OC)
def refsI : List (D ⊕ Nat) → List Nat
  | [] => []
  | .inl _ :: r => refsI r
  | .inr j :: r => j :: refsI r
def OC.refs : OC → List Nat
  | .lst its => refsI its
  | .dct kvs => kvs.map (·.2)
inductive ItRep (K : PySem.W.Frag) (av : Addr → Prop) (H : Hp) (σ : L2.St) : List V → List (D ⊕ Nat) → Prop
  | nil : ItRep K av H σ [] []
  | val {v : V} {d : D} {vs : List V} {is : List (D ⊕ Nat)} : Rep K av H v d → ItRep K av H σ vs is → ItRep K av H σ (v :: vs) (.inl d :: is)
  | ref {v : V} {j : Nat} {vs : List V} {is : List (D ⊕ Nat)} : σ[j]? = some (some v) → ItRep K av H σ vs is → ItRep K av H σ (v :: vs) (.inr j :: is)
inductive DcRep (σ : L2.St) : List (Key × V) → List (Key × Nat) → Prop
  | nil : DcRep σ [] []
  | cons {k : Key} {v : V} {j : Nat} {vs : List (Key × V)} {is : List (Key × Nat)} : σ[j]? = some (some v) → DcRep σ vs is → DcRep σ ((k, v) :: vs) ((k, j) :: is)
def OcOk (K : PySem.W.Frag) (av : Addr → Prop) (H : Hp) (σ : L2.St) (a : Addr) : OC → Prop
  | .lst its => ∃ xs, H a = some (.lst xs) ∧ xs.length ≤ sizeLine ∧ ItRep K av H σ xs its
  | .dct kvs => ∃ xs, H a = some (.dK xs) ∧ DcRep σ xs kvs
theorem ItRep.imp {K : PySem.W.Frag} {av av' : Addr → Prop} {H H' : Hp} {σ σ' : L2.St} (ha : ∀ v d, Rep K av H v d → Rep K av' H' v d) : ∀ {xs : List V} {is : List (D ⊕ Nat)}, ItRep K av H σ xs is → (∀ j ∈ refsI is, σ'[j]? = σ[j]?) → ItRep K av' H' σ' xs is
  | _, _, .nil, _ => .nil
  | _, _, .val r t, hs => .val (ha _ _ r) (t.imp ha hs)
  | _, _, .ref e t, hs => .ref ((hs _ List.mem_cons_self).trans e) (t.imp ha fun j m => hs j (List.mem_cons_of_mem _ m))
theorem DcRep.imp {σ σ' : L2.St} : ∀ {xs : List (Key × V)} {is : List (Key × Nat)}, DcRep σ xs is → (∀ j ∈ is.map (·.2), σ'[j]? = σ[j]?) → DcRep σ' xs is
  | _, _, .nil, _ => .nil
  | _, _, .cons e t, hs => .cons ((hs _ List.mem_cons_self).trans e) (t.imp fun j m => hs j (List.mem_cons_of_mem _ m))
theorem OcOk.imp {K : PySem.W.Frag} {av av' : Addr → Prop} {H H' : Hp} {σ σ' : L2.St} {a : Addr} {c : OC} (h : OcOk K av H σ a c) (ha : ∀ v d, Rep K av H v d → Rep K av' H' v d) (hs : ∀ j ∈ c.refs, σ'[j]? = σ[j]?) (he : H' a = H a) : OcOk K av' H' σ' a c := by
  cases c with
  | lst its =>
    obtain ⟨xs, h1, h2, h3⟩ := h
    exact ⟨xs, he.trans h1, h2, h3.imp ha hs⟩
  | dct kvs =>
    obtain ⟨xs, h1, h3⟩ := h
    exact ⟨xs, he.trans h1, h3.imp hs⟩
theorem OcOk.some {K : PySem.W.Frag} {av : Addr → Prop} {H : Hp} {σ : L2.St} {a : Addr} {c : OC} (h : OcOk K av H σ a c) : ∃ o, H a = some o ∧ Mut (some o) := by
  cases c with
  | lst its =>
    obtain ⟨xs, h1, _⟩ := h
    exact ⟨_, h1, trivial⟩
  | dct kvs =>
    obtain ⟨xs, h1, _⟩ := h
    exact ⟨_, h1, trivial⟩

/-- keys of dicts -/
def keyD : Key → D
  | .inl i => .int i
  | .inr x => .str x
inductive KvRep (K : PySem.W.Frag) (av : Addr → Prop) (H : Hp) : List (Key × V) → List (D × D) → Prop
  | nil : KvRep K av H [] []
  | cons {k : Key} {v : V} {d : D} {vs : List (Key × V)} {ds : List (D × D)} : Rep K av H v d → KvRep K av H vs ds → KvRep K av H ((k, v) :: vs) ((keyD k, d) :: ds)
inductive KtRep (K : PySem.W.Frag) (av : Addr → Prop) (H : Hp) : List (List Key × V) → List (D × D) → Prop
  | nil : KtRep K av H [] []
  | cons {k : List Key} {v : V} {d : D} {vs : List (List Key × V)} {ds : List (D × D)} : Rep K av H v d → KtRep K av H vs ds → KtRep K av H ((k, v) :: vs) ((.tuple (k.map keyD), d) :: ds)
/-- a cell's content -/
inductive ObOk (K : PySem.W.Frag) (av : Addr → Prop) (H : Hp) (a : Addr) : D → Prop
  | lst {xs : List V} {ds : List D} : xs.length ≤ sizeLine → H a = some (.lst xs) → Reps K av H xs ds → ObOk K av H a (.list ds)
  | dk {kvs : List (Key × V)} {ds : List (D × D)} : H a = some (.dK kvs) → KvRep K av H kvs ds → ObOk K av H a (.dict ds)
  | dt {kvs : List (List Key × V)} {ds : List (D × D)} : H a = some (.dT kvs) → KtRep K av H kvs ds → ObOk K av H a (.dict ds)

structure Fr where
  P : Nat → Option Addr
  W : List Addr
  A : Addr → Prop
  H0 : Hp

def av (F : Fr) (Z : List Addr) : Addr → Prop := fun a => a ∈ Z ∨ F.A a

def SlOk (K : PySem.W.Frag) (F : Fr) (Z : List Addr) (H : Hp) (i : Nat) (s : Sl) (x : Option (Option V)) : Prop :=
  match s with
  | .un => True
  | .va d => ∃ v, x = some (some v) ∧ Rep K (av F Z) H v d
  | .ce b d => ∃ a, x = some (some (.ref a)) ∧ a ∈ Z ∧ (b = false → F.H0 a = none) ∧ (b = true → F.P i = some a) ∧ ObOk K (av F Z) H a d
  | .ow _ _ => True

/-- the slots that own lists of references -/
structure Nest (K : PySem.W.Frag) (F : Fr) (Z : List Addr) (γ : List Sl) (σ : L2.St) (H : Hp) : Prop where
  ok : ∀ (i : Nat) (gh : Bool) (c : OC), γ[i]? = some (.ow gh c) → ∃ a, σ[i]? = some (some (.ref a)) ∧ a ∈ Z ∧ F.H0 a = none ∧ OcOk K (av F Z) H σ a c
  gr : ∀ (i : Nat) (gh : Bool) (c : OC), γ[i]? = some (.ow gh c) → ∀ j ∈ c.refs, ∃ c', γ[j]? = some (.ow true c')
  ap : ∀ (i j : Nat) (gh : Bool) (c : OC) (a : Addr), γ[i]? = some (.ow gh c) → ((∃ g' c', γ[j]? = some (.ow g' c')) ∨ ∃ b d, γ[j]? = some (.ce b d)) → σ[i]? = some (some (.ref a)) → σ[j]? = some (some (.ref a)) → i = j
/-- the heap moves, the owned objects stay -/
theorem Nest.imp {K : PySem.W.Frag} {F F' : Fr} {Z Z' : List Addr} {γ : List Sl} {σ : L2.St} {H H' : Hp} (n : Nest K F Z γ σ H) (h0 : F'.H0 = F.H0) (hz : ∀ a ∈ Z, a ∈ Z') (ha : ∀ v d, Rep K (av F Z) H v d → Rep K (av F' Z') H' v d)
    (he : ∀ (i : Nat) (gh : Bool) (c : OC) (a : Addr), γ[i]? = some (.ow gh c) → σ[i]? = some (some (.ref a)) → a ∈ Z → H' a = H a) : Nest K F' Z' γ σ H' where
  ok := fun i gh c e => by
    obtain ⟨a, e1, m, e0, o⟩ := n.ok i gh c e
    exact ⟨a, e1, hz a m, (by rw [h0]; exact e0), o.imp ha (fun _ _ => rfl) (he i gh c a e e1 m)⟩
  gr := n.gr
  ap := n.ap
/-- slots that own nothing so -/
theorem Nest.none {K : PySem.W.Frag} {F : Fr} {Z : List Addr} {γ : List Sl} {σ : L2.St} {H : Hp} (h : ∀ (i : Nat) (gh : Bool) (c : OC), γ[i]? ≠ some (.ow gh c)) : Nest K F Z γ σ H :=
  ⟨fun i gh c e => absurd e (h i gh c), fun i gh c e => absurd e (h i gh c), fun i j gh c a e => absurd e (h i gh c)⟩
/-- other slots change: those that own stay, what they hold stays -/
theorem Nest.move {K : PySem.W.Frag} {F : Fr} {Z : List Addr} {γ γ' : List Sl} {σ σ' : L2.St} {H : Hp} (n : Nest K F Z γ σ H) (ow : ∀ (i : Nat) (gh : Bool) (c : OC), γ'[i]? = some (.ow gh c) → γ[i]? = some (.ow gh c) ∧ σ'[i]? = σ[i]?)
    (gg : ∀ (i : Nat) (c : OC), γ[i]? = some (.ow true c) → γ'[i]? = some (.ow true c) ∧ σ'[i]? = σ[i]?)
    (ce : ∀ (i : Nat) (b : Bool) (d : D) (a : Addr), γ'[i]? = some (.ce b d) → σ'[i]? = some (some (.ref a)) → a ∈ Z → ((∃ b' d', γ[i]? = some (.ce b' d')) ∨ ∃ g c, γ[i]? = some (.ow g c)) ∧ σ[i]? = some (some (.ref a))) : Nest K F Z γ' σ' H where
  ok := fun i gh c e => by
    obtain ⟨e2, es⟩ := ow i gh c e
    obtain ⟨a, e1, m, e0, o⟩ := n.ok i gh c e2
    refine ⟨a, es.trans e1, m, e0, o.imp (fun _ _ r => r) (fun j mj => ?_) rfl⟩
    obtain ⟨c', ec⟩ := n.gr i gh c e2 j mj
    exact (gg j c' ec).2
  gr := fun i gh c e j mj => by
    obtain ⟨c', ec⟩ := n.gr i gh c (ow i gh c e).1 j mj
    exact ⟨c', (gg j c' ec).1⟩
  ap := fun i j gh c a e1 e2 e3 e4 => by
    obtain ⟨f1, f2⟩ := ow i gh c e1
    rw [f2] at e3
    rcases e2 with ⟨g', c', e2⟩ | ⟨b, d, e2⟩
    · obtain ⟨f3, f4⟩ := ow j g' c' e2
      rw [f4] at e4
      exact n.ap i j gh c a f1 (.inl ⟨g', c', f3⟩) e3 e4
    · obtain ⟨a1, q1, m, _⟩ := n.ok i gh c f1
      rw [e3] at q1
      cases q1
      obtain ⟨q, e5⟩ := ce j b d a e2 e4 m
      exact n.ap i j gh c a f1 q.symm e3 e5

structure SR (K : PySem.W.Frag) (F : Fr) (Z : List Addr) (γ : List Sl) (σ : L2.St) (H : Hp) : Prop where
  kp : Kp F.W F.H0 H
  zn : ∀ a ∈ Z, a ∈ F.W ∨ F.H0 a = none
  wz : ∀ a ∈ F.W, a ∈ Z
  dm : ∀ a, av F Z a → H a ≠ none
  len : γ.length = σ.length
  at_ : ∀ (i : Nat) (s : Sl), γ[i]? = some s → SlOk K F Z H i s σ[i]?
  ap : ∀ (i j : Nat) (a : Addr) (b c : Bool) (d e : D), γ[i]? = some (.ce b d) → γ[j]? = some (.ce c e) → σ[i]? = some (some (.ref a)) → σ[j]? = some (some (.ref a)) → i = j
  nst : Nest K F Z γ σ H

section
variable {K : PySem.W.Frag} {F : Fr} {Z : List Addr} {γ γ' : List Sl} {σ : L2.St} {H H' : Hp}
theorem KvRep.keep {K : PySem.W.Frag} {av : Addr → Prop} {H H' : Hp} {Z : List Addr} (k : Kp Z H H') (hz : ∀ a ∈ Z, av a) : ∀ {kvs : List (Key × V)} {ds : List (D × D)}, KvRep K av H kvs ds → KvRep K av H' kvs ds
  | _, _, .nil => .nil
  | _, _, .cons r t => .cons (r.keep k hz) (KvRep.keep k hz t)
theorem KtRep.keep {K : PySem.W.Frag} {av : Addr → Prop} {H H' : Hp} {Z : List Addr} (k : Kp Z H H') (hz : ∀ a ∈ Z, av a) : ∀ {kvs : List (List Key × V)} {ds : List (D × D)}, KtRep K av H kvs ds → KtRep K av H' kvs ds
  | _, _, .nil => .nil
  | _, _, .cons r t => .cons (r.keep k hz) (KtRep.keep k hz t)
/-- a cell whose own object is as it was -/
theorem ObOk.keep {K : PySem.W.Frag} {av : Addr → Prop} {H H' : Hp} {Z : List Addr} {a : Addr} {d : D} (k : Kp Z H H') (hz : ∀ a ∈ Z, av a) (e : H' a = H a) (h : ObOk K av H a d) : ObOk K av H' a d := by
  cases h with
  | lst hz' h1 h2 => exact .lst hz' (e.trans h1) (h2.keep k hz)
  | dk h1 h2 => exact .dk (e.trans h1) (h2.keep k hz)
  | dt h1 h2 => exact .dt (e.trans h1) (h2.keep k hz)
theorem ObOk.some {K : PySem.W.Frag} {av : Addr → Prop} {H : Hp} {a : Addr} {d : D} (h : ObOk K av H a d) : ∃ o, H a = some o ∧ Mut (some o) := by
  cases h with
  | lst _ h1 h2 => exact ⟨_, h1, trivial⟩
  | dk h1 h2 => exact ⟨_, h1, trivial⟩
  | dt h1 h2 => exact ⟨_, h1, trivial⟩
theorem avZ {F : Fr} {Z : List Addr} : ∀ a ∈ Z, av F Z a := fun _ h => .inl h
/-- nothing is changed: things may be new -/
theorem Nest.same (n : Nest K F Z γ σ H) (k : Same H H') : Nest K F Z γ σ H' := n.imp rfl (fun _ m => m) (fun v d r => Rep.keep (Kp.of_same (Z := Z) k) avZ d v r) fun i gh c a e es _ => by
  obtain ⟨a1, e1, _, _, o⟩ := n.ok i gh c e
  rw [es] at e1
  cases e1
  obtain ⟨ob, eo, _⟩ := o.some
  exact (k a ob eo).trans eo.symm
theorem Nest.setS {i : Nat} {s : Sl} {x : Option V} (n : Nest K F Z γ σ H) (hg : ∀ c, γ[i]? ≠ some (.ow true c)) (hs : ∀ g c, s ≠ .ow g c) (hc : ∀ b d a, s = .ce b d → x = some (.ref a) → a ∉ Z) : Nest K F Z (γ.set i s) (σ.set i x) H := by
  have at_ : ∀ (j : Nat) (t : Sl), (γ.set i s)[j]? = some t → (i = j ∧ t = s) ∨ (i ≠ j ∧ γ[j]? = some t) := fun j t e => by
    by_cases q : i = j
    · subst q
      rw [List.getElem?_set, if_pos rfl] at e
      split at e
      · exact .inl ⟨rfl, (Option.some.inj e).symm⟩
      · cases e
    · rw [List.getElem?_set_ne q] at e
      exact .inr ⟨q, e⟩
  refine n.move (fun j gh c e => ?_) (fun j c e => ?_) fun j b d a e es m => ?_
  · rcases at_ j _ e with ⟨_, q⟩ | ⟨q, e⟩
    · exact absurd q.symm (hs gh c)
    · exact ⟨e, List.getElem?_set_ne q⟩
  · have q : i ≠ j := fun q => hg c (by rw [q]; exact e)
    exact ⟨(List.getElem?_set_ne q).trans e, List.getElem?_set_ne q⟩
  · rcases at_ j _ e with ⟨q, e2⟩ | ⟨q, e2⟩
    · subst q
      rw [List.getElem?_set, if_pos rfl] at es
      split at es
      · exact absurd m (hc b d a e2.symm (Option.some.inj es))
      · cases es
    · rw [List.getElem?_set_ne q] at es
      exact ⟨.inl ⟨b, d, e2⟩, es⟩
theorem SR.same (h : SR K F Z γ σ H) (k : Same H H') : SR K F Z γ σ H' where
  kp := h.kp.trans (Kp.of_same k)
  zn := h.zn
  wz := h.wz
  dm := fun a ha => by
    cases e : H a with
    | none => exact absurd e (h.dm a ha)
    | some o =>
      rw [k a o e]
      exact fun z => nomatch z
  len := h.len
  at_ := fun i s e => by
    have q := h.at_ i s e
    cases s with
    | un => trivial
    | va d =>
      obtain ⟨v, e1, r⟩ := q
      exact ⟨v, e1, r.keep (Kp.of_same (Z := Z) k) avZ⟩
    | ce b d =>
      obtain ⟨a, e1, m, m1, m2, r⟩ := q
      obtain ⟨o, e2, _⟩ := r.some
      exact ⟨a, e1, m, m1, m2, r.keep (Kp.of_same (Z := Z) k) avZ ((k a o e2).trans e2.symm)⟩
    | ow gh c => trivial
  ap := h.ap
  nst := h.nst.same k
theorem same_new {H : Hp} {p : Addr} {o : HO} (h : H p = none) : Same H (upd H p o) := fun a u e => by
  rw [upd_ne (ne_of_none e h)]
  exact e
theorem SR.new {p : Addr} {o : HO} (h : SR K F Z γ σ H) (hp : H p = none) : SR K F Z γ σ (upd H p o) := h.same (same_new hp)
theorem SR.va {i : Nat} {d : D} (h : SR K F Z γ σ H) (e : γ[i]? = some (.va d)) : ∃ v, σ[i]? = some (some v) ∧ Rep K (av F Z) H v d := h.at_ i _ e
theorem SR.ce {i : Nat} {b : Bool} {d : D} (h : SR K F Z γ σ H) (e : γ[i]? = some (.ce b d)) : ∃ a, σ[i]? = some (some (.ref a)) ∧ a ∈ Z ∧ (b = false → F.H0 a = none) ∧ (b = true → F.P i = some a) ∧ ObOk K (av F Z) H a d := h.at_ i _ e
/-- a plain value is stored -/
theorem SR.set {i : Nat} {v : V} {d : D} (h : SR K F Z γ σ H) (hg : ∀ c, γ[i]? ≠ some (.ow true c)) (r : Rep K (av F Z) H v d) : SR K F Z (γ.set i (.va d)) (σ.set i (some v)) H where
  nst := h.nst.setS hg (fun _ _ z => nomatch z) fun _ _ _ z => nomatch z
  kp := h.kp
  zn := h.zn
  wz := h.wz
  dm := h.dm
  len := by rw [List.length_set, List.length_set, h.len]
  at_ := fun j s e => by
    by_cases q : i = j
    · subst q
      rw [List.getElem?_set] at e ⊢
      rw [if_pos rfl] at e ⊢
      by_cases hl : i < γ.length
      · rw [if_pos hl] at e
        rw [if_pos (h.len ▸ hl)]
        cases e
        exact ⟨v, rfl, r⟩
      · rw [if_neg hl] at e
        cases e
    · rw [List.getElem?_set_ne q] at e ⊢
      exact h.at_ j s e
  ap := fun j k a b1 c1 d1 e1 h1 h2 h3 h4 => by
    have nj : i ≠ j := fun q => by
      subst q
      rw [List.getElem?_set] at h1
      rw [if_pos rfl] at h1
      split at h1 <;> cases h1
    have nk : i ≠ k := fun q => by
      subst q
      rw [List.getElem?_set] at h2
      rw [if_pos rfl] at h2
      split at h2 <;> cases h2
    rw [List.getElem?_set_ne nj] at h1 h3
    rw [List.getElem?_set_ne nk] at h2 h4
    exact h.ap j k a b1 c1 d1 e1 h1 h2 h3 h4
/-- slots are forgotten -/
theorem SR.forget (h : SR K F Z γ σ H) (hl : γ'.length = γ.length) (hs : ∀ (i : Nat) (s : Sl), γ'[i]? = some s → s = .un ∨ γ[i]? = some s) (hg : ∀ (i : Nat) (c : OC), γ[i]? = some (.ow true c) → γ'[i]? = some (.ow true c)) : SR K F Z γ' σ H where
  nst := h.nst.move (fun i gh c e => ⟨(hs i _ e).resolve_left (fun z => nomatch z), rfl⟩) (fun i c e => ⟨hg i c e, rfl⟩) fun i b d a e es _ => ⟨.inl ⟨b, d, (hs i _ e).resolve_left (fun z => nomatch z)⟩, es⟩
  kp := h.kp
  zn := h.zn
  wz := h.wz
  dm := h.dm
  len := hl.trans h.len
  at_ := fun i s e => by
    rcases hs i s e with q | q
    · subst q
      trivial
    · exact h.at_ i s q
  ap := fun i j a b c d e h1 h2 h3 h4 => by
    rcases hs i _ h1 with q | q
    · cases q
    · rcases hs j _ h2 with q' | q'
      · cases q'
      · exact h.ap i j a b c d e q q' h3 h4
/-- a cell's content is changed -/
theorem SR.write {i : Nat} {a : Addr} {b : Bool} {d d' : D} (h : SR K F Z γ σ H) (e : γ[i]? = some (.ce b d)) (es : σ[i]? = some (some (.ref a))) (k : Kp Z H H') (ka : ∀ b, b ≠ a → H' b = H b) (new : ObOk K (av F Z) H' a d') : SR K F Z (γ.set i (.ce b d')) σ H' := by
  obtain ⟨a1, e1, ma, m1, m2, oa⟩ := h.ce e
  rw [es] at e1
  cases e1
  obtain ⟨oo, eo, mo⟩ := oa.some
  have nst : Nest K F Z (γ.set i (.ce b d')) σ H' := by
    have n2 : Nest K F Z γ σ H' := h.nst.imp rfl (fun _ m => m) (fun v d r => Rep.keep k avZ d v r) fun j gh c x ej ex _ => ka x fun z => by
      subst z
      have q := h.nst.ap j i gh c x ej (.inr ⟨b, d, e⟩) ex es
      subst q
      rw [e] at ej
      cases ej
    have at_ : ∀ (j : Nat) (t : Sl), (γ.set i (.ce b d'))[j]? = some t → (i = j ∧ t = .ce b d') ∨ (i ≠ j ∧ γ[j]? = some t) := fun j t e => by
      by_cases q : i = j
      · subst q
        rw [List.getElem?_set, if_pos rfl] at e
        split at e
        · exact .inl ⟨rfl, (Option.some.inj e).symm⟩
        · cases e
      · rw [List.getElem?_set_ne q] at e
        exact .inr ⟨q, e⟩
    refine n2.move (fun j gh c ej => ?_) (fun j c ej => ?_) fun j b2 d2 x ej ex m => ?_
    · rcases at_ j _ ej with ⟨_, q⟩ | ⟨_, q⟩
      · cases q
      · exact ⟨q, rfl⟩
    · have q : i ≠ j := fun q => by
        subst q
        rw [e] at ej
        cases ej
      exact ⟨(List.getElem?_set_ne q).trans ej, rfl⟩
    · rcases at_ j _ ej with ⟨q, _⟩ | ⟨_, q⟩
      · subst q
        exact ⟨.inl ⟨b, d, e⟩, ex⟩
      · exact ⟨.inl ⟨b2, d2, q⟩, ex⟩
  refine ⟨fun b u eb c => ?_, h.zn, h.wz, fun b hb => ?_, by rw [List.length_set, h.len], fun j s ej => ?_, fun j k2 x b1 c1 d1 e1 h1 h2 h3 h4 => ?_, nst⟩
  · have q := h.kp b u eb c
    by_cases hb : b = a
    · subst hb
      rcases h.zn b ma with z | z
      · rcases c with c | c
        · exact absurd z c
        · exact k b u q (.inr c)
      · rw [z] at eb
        cases eb
    · rw [ka b hb]
      exact q
  · by_cases hba : b = a
    · subst hba
      obtain ⟨o2, e2, _⟩ := new.some
      rw [e2]
      exact fun z => nomatch z
    · rw [ka b hba]
      exact h.dm b hb
  · by_cases q : i = j
    · subst q
      rw [List.getElem?_set] at ej
      rw [if_pos rfl] at ej
      split at ej
      · cases ej
        exact ⟨a, es, ma, m1, m2, new⟩
      · cases ej
    · rw [List.getElem?_set_ne q] at ej
      have r := h.at_ j s ej
      cases s with
      | un => trivial
      | va d2 =>
        obtain ⟨v, e2, r2⟩ := r
        exact ⟨v, e2, r2.keep k avZ⟩
      | ce b2 d2 =>
        obtain ⟨b, e2, m2, m3, m4, r2⟩ := r
        refine ⟨b, e2, m2, m3, m4, r2.keep k avZ (ka b fun z => ?_)⟩
        subst z
        exact q (h.ap i j b _ _ d d2 e ej es e2)
      | ow gh c => trivial
  · have back : ∀ (m : Nat) (y : Bool) (x : D), (γ.set i (.ce b d'))[m]? = some (.ce y x) → ∃ y' x', γ[m]? = some (.ce y' x') := fun m y x hm => by
      by_cases q : i = m
      · subst q
        exact ⟨_, d, e⟩
      · rw [List.getElem?_set_ne q] at hm
        exact ⟨y, x, hm⟩
    obtain ⟨y1, x1, z1⟩ := back j b1 d1 h1
    obtain ⟨y2, x2, z2⟩ := back k2 c1 e1 h2
    exact h.ap j k2 x y1 y2 x1 x2 z1 z2 h3 h4
/-- one address more to be avoided -/
def Fr.plus (F : Fr) (v : V) : Fr := { F with A := fun a => v = .ref a ∨ F.A a }
theorem KvRep.more {K : PySem.W.Frag} {av : Addr → Prop} {H : Hp} {p : Addr} (hp : H p = none) : ∀ {kvs : List (Key × V)} {ds : List (D × D)}, KvRep K av H kvs ds → KvRep K (fun a => a = p ∨ av a) H kvs ds
  | _, _, .nil => .nil
  | _, _, .cons r t => .cons (Rep.more hp _ _ r) (KvRep.more hp t)
theorem KtRep.more {K : PySem.W.Frag} {av : Addr → Prop} {H : Hp} {p : Addr} (hp : H p = none) : ∀ {kvs : List (List Key × V)} {ds : List (D × D)}, KtRep K av H kvs ds → KtRep K (fun a => a = p ∨ av a) H kvs ds
  | _, _, .nil => .nil
  | _, _, .cons r t => .cons (Rep.more hp _ _ r) (KtRep.more hp t)
theorem ObOk.more {K : PySem.W.Frag} {av : Addr → Prop} {H : Hp} {p a : Addr} {d : D} (hp : H p = none) (h : ObOk K av H a d) : ObOk K (fun a => a = p ∨ av a) H a d := by
  cases h with
  | lst hz' h1 h2 => exact .lst hz' h1 (Reps.more hp _ _ h2)
  | dk h1 h2 => exact .dk h1 (h2.more hp)
  | dt h1 h2 => exact .dt h1 (h2.more hp)
theorem KvRep.weak {K : PySem.W.Frag} {H : Hp} {av av' : Addr → Prop} (hz : ∀ a, av' a → av a) : ∀ {kvs : List (Key × V)} {ds : List (D × D)}, KvRep K av H kvs ds → KvRep K av' H kvs ds
  | _, _, .nil => .nil
  | _, _, .cons r t => .cons (r.weak hz) (KvRep.weak hz t)
theorem KtRep.weak {K : PySem.W.Frag} {H : Hp} {av av' : Addr → Prop} (hz : ∀ a, av' a → av a) : ∀ {kvs : List (List Key × V)} {ds : List (D × D)}, KtRep K av H kvs ds → KtRep K av' H kvs ds
  | _, _, .nil => .nil
  | _, _, .cons r t => .cons (r.weak hz) (KtRep.weak hz t)
theorem ObOk.weak {K : PySem.W.Frag} {H : Hp} {d : D} {av av' : Addr → Prop} {a : Addr} (hz : ∀ a, av' a → av a) (h : ObOk K av H a d) : ObOk K av' H a d := by
  cases h with
  | lst hz' h1 h2 => exact .lst hz' h1 (h2.weak hz)
  | dk h1 h2 => exact .dk h1 (h2.weak hz)
  | dt h1 h2 => exact .dt h1 (h2.weak hz)
theorem SlOk.imp {F F' : Fr} {Z Z' : List Addr} {i : Nat} {s : Sl} {x : Option (Option V)} (e0 : F'.H0 = F.H0) (ew : F'.P = F.P) (hz : ∀ a ∈ Z, a ∈ Z') (ha : ∀ (v : V) (d : D), Rep K (av F Z) H v d → Rep K (av F' Z') H v d) (hb : ∀ a d, ObOk K (av F Z) H a d → ObOk K (av F' Z') H a d) (h : SlOk K F Z H i s x) : SlOk K F' Z' H i s x := by
  cases s with
  | un => trivial
  | va d =>
    obtain ⟨v, e, r⟩ := h
    exact ⟨v, e, ha _ _ r⟩
  | ce b d =>
    obtain ⟨a, e, m, m1, m2, r⟩ := h
    exact ⟨a, e, hz a m, (by rw [e0]; exact m1), (by rw [ew]; exact m2), hb _ _ r⟩
  | ow gh c => trivial
/-- p is not used yet: it may be avoided -/
theorem SR.plus {p : Addr} (h : SR K F Z γ σ H) (hp : H p = none) {H2 : Hp} (k : Same H H2) (hp2 : H2 p ≠ none) : SR K (F.plus (.ref p)) Z γ σ H2 := by
  have h2 := h.same k
  have nst : Nest K (F.plus (.ref p)) Z γ σ H2 := by
    refine h.nst.imp rfl (fun _ m => m) (fun v d r => Rep.keep (Kp.of_same (Z := Z) k) (fun a m => .inl m) d v ((Rep.more hp d v r).weak fun a q => ?_)) fun i gh c a e es _ => ?_
    · rcases q with q | q | q
      · exact .inr (.inl q)
      · cases q
        exact .inl rfl
      · exact .inr (.inr q)
    · obtain ⟨a1, e1, _, _, o⟩ := h.nst.ok i gh c e
      rw [es] at e1
      cases e1
      obtain ⟨ob, eo, _⟩ := o.some
      exact (k a ob eo).trans eo.symm
  refine ⟨h2.kp, h2.zn, h2.wz, fun a ha => ?_, h2.len, fun i s e => ?_, h2.ap, nst⟩
  · rcases ha with ha | ha | ha
    · exact h2.dm a (.inl ha)
    · cases ha
      exact hp2
    · exact h2.dm a (.inr ha)
  · have r := h.at_ i s e
    have hw : ∀ a, av (F.plus (.ref p)) Z a → a = p ∨ av F Z a := fun a q => by
      rcases q with q | q | q
      · exact .inr (.inl q)
      · cases q
        exact .inl rfl
      · exact .inr (.inr q)
    have r2 : SlOk K (F.plus (.ref p)) Z H i s σ[i]? := SlOk.imp (F := F) (F' := F.plus (.ref p)) rfl rfl (fun _ m => m) (fun v d q => (Rep.more hp _ _ q).weak hw) (fun a d q => (q.more hp).weak hw) r
    cases s with
    | un => trivial
    | va d =>
      obtain ⟨v, e1, q⟩ := r2
      exact ⟨v, e1, q.keep (Kp.of_same (Z := Z) k) avZ⟩
    | ce b d =>
      obtain ⟨a, e1, m, m1, m2, q⟩ := r2
      obtain ⟨o, e2, _⟩ := q.some
      exact ⟨a, e1, m, m1, m2, q.keep (Kp.of_same (Z := Z) k) avZ ((k a o e2).trans e2.symm)⟩
    | ow gh c => trivial
theorem SR.less {v : V} (h : SR K (F.plus v) Z γ σ H) : SR K F Z γ σ H := by
  have hw : ∀ a, av F Z a → av (F.plus v) Z a := fun a q => by
    rcases q with q | q
    · exact .inl q
    · exact .inr (.inr q)
  exact ⟨h.kp, h.zn, h.wz, fun a ha => h.dm a (hw a ha), h.len, fun i s e => SlOk.imp (F := F.plus v) (F' := F) rfl rfl (fun _ m => m) (fun v d q => q.weak hw) (fun a d q => q.weak hw) (h.at_ i s e), h.ap, h.nst.imp rfl (fun _ m => m) (fun v d q => q.weak hw) fun _ _ _ _ _ _ _ => rfl⟩
/-- a new list or dict is put into a slot -/
theorem SR.setC {i : Nat} {p : Addr} {d : D} (h : SR K (F.plus (.ref p)) Z γ σ H) (hg : ∀ c, γ[i]? ≠ some (.ow true c)) (np : ¬ av F Z p) (n0 : F.H0 p = none) (o : ObOk K (fun a => a = p ∨ av F Z a) H p d) : SR K F (p :: Z) (γ.set i (.ce false d)) (σ.set i (some (.ref p))) H := by
  have hw : ∀ a, av F (p :: Z) a → av (F.plus (.ref p)) Z a := fun a q => by
    rcases q with q | q
    · rcases List.mem_cons.mp q with q | q
      · subst q
        exact .inr (.inl rfl)
      · exact .inl q
    · exact .inr (.inr q)
  have hv : ∀ a, av F (p :: Z) a → a = p ∨ av F Z a := fun a q => by
    rcases q with q | q
    · rcases List.mem_cons.mp q with q | q
      · exact .inl q
      · exact .inr (.inl q)
    · exact .inr (.inr q)
  have nst : Nest K F (p :: Z) (γ.set i (.ce false d)) (σ.set i (some (.ref p))) H :=
    (h.nst.setS (s := .ce false d) (x := some (.ref p)) hg (fun _ _ z => nomatch z) fun _ _ a _ z m => by
      cases z
      exact np (.inl m)).imp rfl (fun _ m => List.mem_cons_of_mem _ m) (fun v d q => q.weak hw) fun _ _ _ _ _ _ _ => rfl
  refine ⟨h.kp, fun a ha => ?_, fun a ha => List.mem_cons_of_mem _ (h.wz a ha), fun a ha => h.dm a (hw a ha), by rw [List.length_set, List.length_set, h.len], fun j s ej => ?_, fun j k x b1 c1 d1 e1 h1 h2 h3 h4 => ?_, nst⟩
  · rcases List.mem_cons.mp ha with q | q
    · subst q
      exact .inr n0
    · exact h.zn a q
  · by_cases q : i = j
    · subst q
      rw [List.getElem?_set] at ej ⊢
      rw [if_pos rfl] at ej ⊢
      by_cases hl : i < γ.length
      · rw [if_pos hl] at ej
        rw [if_pos (h.len ▸ hl)]
        cases ej
        exact ⟨p, rfl, List.mem_cons_self, fun _ => n0, fun z => (nomatch z), o.weak hv⟩
      · rw [if_neg hl] at ej
        cases ej
    · rw [List.getElem?_set_ne q] at ej ⊢
      exact SlOk.imp (F := F.plus (.ref p)) (F' := F) rfl rfl (fun _ m => List.mem_cons_of_mem _ m) (fun v d q => q.weak hw) (fun a d q => q.weak hw) (h.at_ j s ej)
  · have old : ∀ (m : Nat) (y : Bool) (z : D), i ≠ m → (γ.set i (.ce false d))[m]? = some (.ce y z) → (σ.set i (some (.ref p)))[m]? = some (some (.ref x)) → γ[m]? = some (.ce y z) ∧ σ[m]? = some (some (.ref x)) ∧ x ∈ Z := fun m y z q u1 u2 => by
      rw [List.getElem?_set_ne q] at u1 u2
      obtain ⟨a, e1, m1, _⟩ := h.ce u1
      rw [u2] at e1
      cases e1
      exact ⟨u1, u2, m1⟩
    have own : ∀ (m : Nat), i = m → (σ.set i (some (.ref p)))[m]? = some (some (.ref x)) → x = p := fun m q u2 => by
      subst q
      rw [List.getElem?_set, if_pos rfl] at u2
      split at u2
      · cases u2
        rfl
      · cases u2
    by_cases qj : i = j
    · by_cases qk : i = k
      · exact qj.symm.trans qk
      · have xp := own j qj h3
        obtain ⟨_, _, m⟩ := old k c1 e1 qk h2 h4
        exact absurd (.inl (xp ▸ m)) np
    · by_cases qk : i = k
      · have xp := own k qk h4
        obtain ⟨_, _, m⟩ := old j b1 d1 qj h1 h3
        exact absurd (.inl (xp ▸ m)) np
      · obtain ⟨u1, u2, _⟩ := old j b1 d1 qj h1 h3
        obtain ⟨u3, u4, _⟩ := old k c1 e1 qk h2 h4
        exact h.ap j k x b1 c1 d1 e1 u1 u3 u2 u4
end
end GL

set_option Elab.async false
set_option linter.all false
set_option autoImplicit false
set_option maxRecDepth 100000
set_option maxHeartbeats 2000000
namespace GL
open PySem PySem.Spec PyProof.Rows L2

/-! ### the semantics' results -/
inductive R (α : Type) where
  | ok (a : α) (γ : List Sl) | ex (c : Str) (γ : List Sl) | no
def R.bind {α β : Type} (r : R α) (k : α → List Sl → R β) : R β := match r with
  | .ok a γ => k a γ
  | .ex c γ => .ex c γ
  | .no => .no
/-- a value in hand: plain, a cell of a slot, a new list or dict -/
inductive Hd where
  | pv (d : D) | cl (i : Nat) | nw (d : D)
abbrev SE := List Sl → R Hd
/-- items without references -/
def plainI : List (D ⊕ Nat) → Option (List D)
  | [] => some []
  | .inl d :: r => (plainI r).map (d :: ·)
  | .inr _ :: _ => none
theorem plainI_ok {K : PySem.W.Frag} {av : Addr → Prop} {H : Hp} {σ : L2.St} : ∀ {its : List (D ⊕ Nat)} {xs : List V} {ds : List D}, ItRep K av H σ xs its → plainI its = some ds → Reps K av H xs ds
  | [], _, _, h, e => by
    cases h
    cases e
    exact .nil
  | .inl d :: r, _, _, h, e => by
    cases h with
    | val r1 t =>
      obtain ⟨es, e1, rfl⟩ := Option.map_eq_some_iff.mp (show (plainI r).map _ = some _ from e)
      exact .cons r1 (plainI_ok t e1)
  | .inr _ :: _, _, _, _, e => by cases e
/-- the slot is no other slot's thing -/
def notGh (γ : List Sl) (i : Nat) : Bool := match γ[i]? with
  | some (.ow true _) => false
  | _ => true
theorem notGh_ne {γ : List Sl} {i : Nat} (h : notGh γ i = true) : ∀ c, γ[i]? ≠ some (.ow true c) := fun c e => by
  unfold notGh at h
  rw [e] at h
  cases h
theorem ne_notGh {γ : List Sl} {i : Nat} (h : ∀ c, γ[i]? ≠ some (.ow true c)) : notGh γ i = true := by
  unfold notGh
  split
  · rename_i c e
    exact absurd e (h c)
  · rfl
/-- what it holds now -/
def rs (γ : List Sl) : Hd → Option D
  | .pv d => some d
  | .nw d => some d
  | .cl i => match γ[i]? with
    | some (.ce _ d) => some d
    | some (.ow _ (.lst its)) => (plainI its).map .list
    | _ => none
def HdOk (K : PySem.W.Frag) (F : Fr) (Z : List Addr) (H : Hp) (σ : L2.St) (v : V) : Hd → Prop
  | .pv d => Rep K (av F Z) H v d
  | .cl i => σ[i]? = some (some v)
  | .nw d => ∃ p, v = .ref p ∧ ¬ av F Z p ∧ F.H0 p = none ∧ ObOk K (fun a => a = p ∨ av F Z a) H p d
/-- right now v stands for d -/
def RepI (K : PySem.W.Frag) (F : Fr) (Z : List Addr) (H : Hp) (v : V) (d : D) : Prop := Rep K (av F Z) H v d ∨ ∃ a, v = .ref a ∧ ObOk K (av F Z) H a d

section
variable {K : PySem.W.Frag} {F : Fr} {Z : List Addr} {γ γ' : List Sl} {σ : L2.St} {H H' : Hp} {v : V} {d : D} {h : Hd}
theorem HdOk.keep (k : Kp Z H H') (h1 : HdOk K F Z H σ v h) : HdOk K F Z H' σ v h := by
  cases h with
  | pv d => exact Rep.keep k avZ d v h1
  | cl i => exact h1
  | nw d =>
    obtain ⟨p, e, n, n0, o⟩ := h1
    obtain ⟨o1, e1, m1⟩ := o.some
    exact ⟨p, e, n, n0, o.keep k (fun a z => .inr (.inl z)) ((k p o1 e1 (.inl fun z => n (.inl z))).trans e1.symm)⟩
theorem HdOk.rs (h1 : HdOk K F Z H σ v h) (s : SR K F Z γ σ H) (e : rs γ h = some d) : RepI K F Z H v d := by
  cases h with
  | pv d' =>
    cases e
    exact .inl h1
  | nw d' =>
    cases e
    obtain ⟨p, e, n, n0, o⟩ := h1
    exact .inr ⟨p, e, o.weak fun a z => .inr z⟩
  | cl i =>
    have e : (match γ[i]? with
      | some (.ce _ d) => some d
      | some (.ow _ (.lst its)) => (plainI its).map .list
      | _ => none) = some d := e
    cases q : γ[i]? with
    | none => rw [q] at e; cases e
    | some sl =>
      rw [q] at e
      cases sl with
      | un => cases e
      | va _ => cases e
      | ow gh c =>
        cases c with
        | dct kvs => cases e
        | lst its =>
          obtain ⟨ds, e3, rfl⟩ := Option.map_eq_some_iff.mp (show (plainI its).map .list = some d from e)
          obtain ⟨a, e1, m, _, xs, o1, o2, o3⟩ := s.nst.ok i gh _ q
          have e2 : σ[i]? = some (some v) := h1
          rw [e2] at e1
          cases e1
          exact .inr ⟨a, rfl, .lst o2 o1 (plainI_ok o3 e3)⟩
      | ce b d' =>
        cases e
        obtain ⟨a, e1, m, _, _, o⟩ := s.ce q
        have e2 : σ[i]? = some (some v) := h1
        rw [e2] at e1
        cases e1
        exact .inr ⟨a, rfl, o⟩
theorem RepI.dp (h : RepI K F Z H v d) (hd : ∀ kvs, d ≠ .dict kvs) : Dp K H v d := by
  rcases h with h | ⟨a, rfl, h⟩
  · exact h.dp
  · cases h with
    | lst _ h1 h2 => exact .lst (SqL.of h1) h2.dp
    | dk h1 h2 => exact absurd rfl (hd _)
    | dt h1 h2 => exact absurd rfl (hd _)
theorem RepI.int {i : Int} (h : RepI K F Z H v (.int i)) : v = .int i := by
  rcases h with h | ⟨a, rfl, h⟩
  · cases h; rfl
  · cases h
theorem RepI.bool {i : Bool} (h : RepI K F Z H v (.bool i)) : v = .bl i := by
  rcases h with h | ⟨a, rfl, h⟩
  · cases h; rfl
  · cases h
theorem RepI.str {i : Str} (h : RepI K F Z H v (.str i)) : v = .str i := by
  rcases h with h | ⟨a, rfl, h⟩
  · cases h; rfl
  · cases h
theorem RepI.none (h : RepI K F Z H v .none) : v = .non := by
  rcases h with h | ⟨a, rfl, h⟩
  · cases h; rfl
  · cases h
theorem RepI.tup {ds : List D} (h : RepI K F Z H v (.tuple ds)) : ∃ a xs, v = .ref a ∧ xs.length ≤ sizeLine ∧ SqD K H a xs ∧ Reps K (av F Z) H xs ds := by
  rcases h with h | ⟨a, rfl, h⟩
  · cases h with
    | tup hz h1 h2 => exact ⟨_, _, rfl, hz, h1, h2⟩
  · cases h
theorem RepI.lst {ds : List D} (h : RepI K F Z H v (.list ds)) : ∃ a xs, v = .ref a ∧ xs.length ≤ sizeLine ∧ SqL K H a xs ∧ Reps K (av F Z) H xs ds := by
  rcases h with h | ⟨a, rfl, h⟩
  · exact h.lstL
  · cases h with
    | lst hz h1 h2 => exact ⟨_, _, rfl, hz, SqL.of h1, h2⟩
theorem RepI.seq {ds : List D} (h : RepI K F Z H v (.list ds) ∨ RepI K F Z H v (.tuple ds)) : ∃ a xs, v = .ref a ∧ xs.length ≤ sizeLine ∧ (SqL K H a xs ∨ SqT K H a xs) ∧ Reps K (av F Z) H xs ds := by
  rcases h with h | h
  · obtain ⟨a, xs, e, hz, r, q⟩ := h.lst
    exact ⟨a, xs, e, hz, .inl r, q⟩
  · obtain ⟨a, xs, e, hz, r, q⟩ := h.tup
    exact ⟨a, xs, e, hz, .inr r.t, q⟩
end

/-! ### readings -/
def NewIn (H : Hp) (u : V) (h : Hd) : Prop := ∀ d, h = .nw d → ∀ p, u = .ref p → H p = none
theorem NewIn.back {K : PySem.W.Frag} {F : Fr} {Z : List Addr} {γ : List Sl} {σ : L2.St} {H H1 : Hp} {u : V} {h : Hd} (n : NewIn H1 u h) (k : Kp Z H H1) (s : SR K F Z γ σ H1) : NewIn H u h := fun d e p q => by
  have n1 := n d e p q
  cases e2 : H p with
  | none => rfl
  | some o =>
    by_cases hz : p ∈ Z
    · exact absurd n1 (s.dm p (.inl hz))
    · have e3 := k p o e2 (.inl hz)
      rw [n1] at e3
      cases e3
/-- a new thing is avoided by all that stands -/
def Fr.pl (F : Fr) (v : V) : Hd → Fr
  | .nw _ => F.plus v
  | _ => F
theorem SR.unpl {K : PySem.W.Frag} {F : Fr} {Z : List Addr} {γ : List Sl} {σ : L2.St} {H : Hp} {v : V} {h : Hd} (s : SR K (F.pl v h) Z γ σ H) : SR K F Z γ σ H := by
  cases h with
  | pv d => exact s
  | cl i => exact s
  | nw d => exact s.less
def WOk (K : PySem.W.Frag) (W : WX) (c : Str) (σ : L2.St) (H : Hp) : Prop := ∀ d, W (.ref (He.ga K c)) d σ H
def Post (K : PySem.W.Frag) (F : Fr) (W : WX) (Z : List Addr) (σ : L2.St) (H : Hp) (r : R Hd) (Q : VK) : Prop := match r with
  | .ok h γ' => ∀ v H', SR K (F.pl v h) Z γ' σ H' → Kp Z H H' → HdOk K F Z H' σ v h → NewIn H v h → Q v H'
  | .ex c γ' => ∀ Z' σ' H', SR K F Z' γ' σ' H' → WOk K W c σ' H'
  | .no => False
def T (K : PySem.W.Frag) (F : Fr) (W : WX) (f : SE) : TE := fun σ H Q => ∃ Z γ, SR K F Z γ σ H ∧ Post K F W Z σ H (f γ) Q
structure GE (X : Cx) (e : Expr) (f : SE) : Prop where
  run : ∀ (F : Fr) (W : WX), Takes X W → PE X e (T X.K F W f)
theorem _root_.L2.PE.weak {X : Cx} {e : Expr} {t t' : TE} (h : PE X e t) (w : ∀ σ H Q, t' σ H Q → t σ H Q) : PE X e t' := ⟨fun pins s σ H Q I q => h.run pins s σ H Q I (w σ H Q q)⟩

section
variable {K : PySem.W.Frag} {F : Fr} {W : WX} {Z : List Addr} {γ γ' : List Sl} {σ : L2.St} {H H' : Hp} {v : V} {d : D} {h : Hd} {Q : VK}
theorem Post.mono {Q' : VK} {r : R Hd} (p : Post K F W Z σ H r Q) (k : ∀ v H', Q v H' → Q' v H') : Post K F W Z σ H r Q' := by
  cases r with
  | ok h γ' => exact fun v H' a b c n => k _ _ (p v H' a b c n)
  | ex c γ' => exact p
  | no => exact p
/-- the first part, then what follows -/
theorem Post.bind {r : R Hd} {k : Hd → List Sl → R Hd} (p : Post K F W Z σ H (r.bind k) Q) :
    Post K F W Z σ H r (fun v H1 => ∃ h γ1, r = .ok h γ1 ∧ SR K F Z γ1 σ H1 ∧ Kp Z H H1 ∧ HdOk K F Z H1 σ v h ∧ Post K F W Z σ H1 (k h γ1) Q) := by
  cases r with
  | no => exact p
  | ex c γ' => exact p
  | ok h γ1 =>
    intro v H1 s1 k1 r1 _
    refine ⟨h, γ1, rfl, s1.unpl, k1, r1, ?_⟩
    have p1 : Post K F W Z σ H (k h γ1) Q := p
    cases e : k h γ1 with
    | no => rw [e] at p1; exact p1
    | ex c γ' => rw [e] at p1; exact p1
    | ok h2 γ2 =>
      rw [e] at p1
      exact fun u H2 s2 k2 r2 n2 => p1 u H2 s2 (k1.trans k2) r2 (n2.back k1 s1.unpl)
theorem T.of (s : SR K F Z γ σ H) {f : SE} (p : Post K F W Z σ H (f γ) Q) : T K F W f σ H Q := ⟨Z, γ, s, p⟩
/-- nothing more is done -/
theorem SR.pl (s : SR K F Z γ σ H) {u : V} {H2 : Hp} (k : Same H H2) (r : HdOk K F Z H2 σ u h) (n : NewIn H u h) : SR K (F.pl u h) Z γ σ H2 := by
  cases h with
  | pv d => exact s.same k
  | cl i => exact s.same k
  | nw d =>
    obtain ⟨p, rfl, _, _, o⟩ := r
    obtain ⟨o1, e1, _⟩ := o.some
    exact s.plus (n d rfl p rfl) k (by rw [e1]; exact fun z => nomatch z)
theorem Post.end_ (p : Post K F W Z σ H (.ok h γ') Q) (s : SR K F Z γ' σ H) {u : V} {H2 : Hp} (k : Same H H2) (r : HdOk K F Z H2 σ u h) (n : NewIn H u h) : Q u H2 :=
  p u H2 (s.pl k r n) (Kp.of_same k) r n
theorem newIn_pv {H : Hp} {u : V} {d : D} : NewIn H u (.pv d) := fun _ e => nomatch e
theorem newIn_ref {H : Hp} {p : Addr} (hp : H p = none) {h : Hd} : NewIn H (.ref p) h := fun _ _ q e => by
  cases e
  exact hp
end

/-! ### names, constants -/
def vVar (i : Nat) : SE := fun γ => match γ[i]? with
  | some (.va d) => .ok (.pv d) γ
  | some (.ce _ _) => .ok (.cl i) γ
  | some (.ow _ _) => .ok (.cl i) γ
  | _ => .no
def vC (d : D) : SE := fun γ => .ok (.pv d) γ
section
variable {X : Cx} {pos : Pos}
theorem ge_var {i : Nat} {x : Str} (h : PE X (.Name x pos) (tVar i)) : GE X (.Name x pos) (vVar i) := ⟨fun F W _ => h.weak fun σ H Q ⟨Z, γ, s, p⟩ => by
  unfold vVar at p
  cases q : γ[i]? with
  | none => rw [q] at p; exact p.elim
  | some sl =>
    rw [q] at p
    cases sl with
    | un => exact p.elim
    | va d =>
      obtain ⟨v, e, r⟩ := s.va q
      exact ⟨v, e, p v H s (Kp.refl _ _) r fun _ q => nomatch q⟩
    | ce b d =>
      obtain ⟨a, e, m, _, _, r⟩ := s.ce q
      exact ⟨.ref a, e, p _ H s (Kp.refl _ _) e fun _ q => nomatch q⟩
    | ow gh c =>
      obtain ⟨a, e, m, _, r⟩ := s.nst.ok i gh c q
      exact ⟨.ref a, e, p _ H s (Kp.refl _ _) e fun _ q => nomatch q⟩⟩
theorem ge_c {e : Expr} {v : V} {d : D} (h : PE X e (tC v)) (r : ∀ (av : Addr → Prop) (H : Hp), Rep X.K av H v d) : GE X e (vC d) := ⟨fun F W _ => h.weak fun σ H Q ⟨Z, γ, s, p⟩ => p v H s (Kp.refl _ _) (r _ _) fun _ q => nomatch q⟩
theorem ge_int {i : Int} {j : Nat} : GE X (.Constant (.int i) j pos) (vC (.int i)) := ge_c pe_int fun _ _ => .int i
theorem ge_str {x : Str} {j : Nat} : GE X (.Constant (.str x) j pos) (vC (.str x)) := ge_c pe_str fun _ _ => .str x
theorem ge_bl {b : Bool} {j : Nat} : GE X (.Constant (.bool b) j pos) (vC (.bool b)) := ge_c pe_bl fun _ _ => .bl b
theorem ge_non {j : Nat} : GE X (.Constant .none j pos) (vC .none) := ge_c pe_non fun _ _ => .non
end

/-! ### operations on values that change nothing -/
def fin1 (γ : List Sl) : Option Hd → R Hd
  | some h => .ok h γ
  | none => .no
def vUn (g : D → Option Hd) (fa : SE) : SE := fun γ => (fa γ).bind fun h γ1 => fin1 γ1 ((rs γ1 h).bind g)
def vBin (g : D → D → Option Hd) (fa fb : SE) : SE := fun γ => (fa γ).bind fun h γ1 => (fb γ1).bind fun h2 γ2 => fin1 γ2 ((rs γ2 h).bind fun x => (rs γ2 h2).bind fun y => g x y)
/-- r does g -/
def Does1 (K : PySem.W.Frag) (r : V → Hp → VK → Prop) (g : D → Option Hd) : Prop := ∀ (F : Fr) (Z : List Addr) (γ : List Sl) (σ : L2.St) (H : Hp) (v : V) (d : D) (h : Hd) (Q : VK), SR K F Z γ σ H → RepI K F Z H v d → g d = some h →
  (∀ u H', Same H H' → HdOk K F Z H' σ u h → NewIn H u h → Q u H') → r v H Q
def Does2 (K : PySem.W.Frag) (r : R2) (g : D → D → Option Hd) : Prop := ∀ (F : Fr) (Z : List Addr) (γ : List Sl) (σ : L2.St) (H : Hp) (v w : V) (d e : D) (h : Hd) (Q : VK), SR K F Z γ σ H → RepI K F Z H v d → RepI K F Z H w e → g d e = some h →
  (∀ u H', Same H H' → HdOk K F Z H' σ u h → NewIn H u h → Q u H') → r v w H Q
section
variable {X : Cx} {pos : Pos} {K : PySem.W.Frag} {F : Fr} {W : WX} {Z : List Addr} {γ : List Sl} {σ : L2.St} {H : Hp} {Q : VK}
theorem post_fin {o : Option Hd} {v : V} {P : Prop} (p : Post K F W Z σ H (fin1 γ o) Q) (k : ∀ h, o = some h → Post K F W Z σ H (.ok h γ) Q → P) : P := by
  cases o with
  | none => exact p.elim
  | some h => exact k h rfl p
theorem run1 {r : V → Hp → VK → Prop} {g : D → Option Hd} (dz : Does1 K r g) {h : Hd} {v : V} (s : SR K F Z γ σ H) (hv : HdOk K F Z H σ v h) (p : Post K F W Z σ H (fin1 γ ((rs γ h).bind g)) Q) : r v H Q := by
  cases e : rs γ h with
  | none => rw [e] at p; exact p.elim
  | some d =>
    rw [e] at p
    have p : Post K F W Z σ H (fin1 γ (g d)) Q := p
    cases e2 : g d with
    | none => rw [e2] at p; exact p.elim
    | some h2 =>
      rw [e2] at p
      exact dz F Z γ σ H v d h2 Q s (hv.rs s e) e2 fun u H' k r n => p.end_ s k r n
theorem run2 {r : R2} {g : D → D → Option Hd} (dz : Does2 K r g) {h h2 : Hd} {v w : V} (s : SR K F Z γ σ H) (hv : HdOk K F Z H σ v h) (hw : HdOk K F Z H σ w h2)
    (p : Post K F W Z σ H (fin1 γ ((rs γ h).bind fun x => (rs γ h2).bind fun y => g x y)) Q) : r v w H Q := by
  cases e : rs γ h with
  | none => rw [e] at p; exact p.elim
  | some d =>
    rw [e] at p
    have p : Post K F W Z σ H (fin1 γ ((rs γ h2).bind fun y => g d y)) Q := p
    cases e1 : rs γ h2 with
    | none => rw [e1] at p; exact p.elim
    | some d2 =>
      rw [e1] at p
      have p : Post K F W Z σ H (fin1 γ (g d d2)) Q := p
      cases e2 : g d d2 with
      | none => rw [e2] at p; exact p.elim
      | some h3 =>
        rw [e2] at p
        exact dz F Z γ σ H v w d d2 h3 Q s (hv.rs s e) (hw.rs s e1) e2 fun u H' k r n => p.end_ s k r n
theorem T.un {r : V → Hp → VK → Prop} {g : D → Option Hd} {fa : SE} (dz : Does1 K r g) (h : T K F W (vUn g fa) σ H Q) : T K F W fa σ H fun x H1 => r x H1 Q := by
  obtain ⟨Z, γ, s, p⟩ := h
  refine ⟨Z, γ, s, p.bind.mono fun v H1 ⟨h1, γ1, _, s1, k1, r1, p1⟩ => run1 dz s1 r1 p1⟩
theorem T.bin {r : R2} {g : D → D → Option Hd} {fa fb : SE} (dz : Does2 K r g) (h : T K F W (vBin g fa fb) σ H Q) : tOp r (T K F W fa) (T K F W fb) σ H Q := by
  obtain ⟨Z, γ, s, p⟩ := h
  refine ⟨Z, γ, s, p.bind.mono fun v H1 ⟨h1, γ1, _, s1, k1, r1, p1⟩ => ?_⟩
  refine ⟨Z, γ1, s1, p1.bind.mono fun w H2 ⟨h2, γ2, _, s2, k2, r2, p2⟩ => ?_⟩
  exact run2 dz s2 (r1.keep k2) r2 p2
theorem ge_bin {a b : Expr} {fa fb : SE} {op : Operator} {r : R2} {g : D → D → Option Hd} (ho : OpR X (binaryOp op) r) (dz : Does2 X.K r g) (ha : GE X a fa) (hb : GE X b fb) : GE X (.BinOp a op b pos) (vBin g fa fb) :=
  ⟨fun F W tk => (pe_op ho (ha.run F W tk) (hb.run F W tk)).weak fun σ H Q h => T.bin dz h⟩
theorem ge_un {a : Expr} {fa : SE} {op : UnaryOp} {r : V → Hp → VK → Prop} {g : D → Option Hd} (ho : UnR X (unaryOp op) r) (dz : Does1 X.K r g) (ha : GE X a fa) : GE X (.UnaryOp op a pos) (vUn g fa) :=
  ⟨fun F W tk => (pe_un ho (ha.run F W tk)).weak fun σ H Q h => T.un dz h⟩
theorem ge_cmp {a b : Expr} {fa fb : SE} {op : CmpOp} {r : R2} {g : D → D → Option Hd} (ho : OpR X (compareOp op) r) (dz : Does2 X.K r g) (ha : GE X a fa) (hb : GE X b fb) (hm : behindInMarks op b = false) : GE X (.Compare a [op] [b] pos) (vBin g fa fb) :=
  ⟨fun F W tk => (pe_cmpR ho (ha.run F W tk) (hb.run F W tk) hm).weak fun σ H Q h => T.bin dz h⟩
theorem ge_ixR {a b : Expr} {fa fb : SE} {r : R2} {g : D → D → Option Hd} (ho : IxR X r) (dz : Does2 X.K r g) (ha : GE X a fa) (hb : GE X b fb) (hs : PlainIx b) : GE X (.Subscript a b pos) (vBin g fa fb) :=
  ⟨fun F W tk => (pe_ix ho (ha.run F W tk) (hb.run F W tk) hs).weak fun σ H Q h => T.bin dz h⟩
end

/-! ### argument lists, displays -/
abbrev SA := List Sl → R (List Hd)
def aNil : SA := fun γ => .ok [] γ
def aCons (fa : SE) (fr : SA) : SA := fun γ => (fa γ).bind fun h γ1 => (fr γ1).bind fun hs γ2 => .ok (h :: hs) γ2
inductive HdsOk (K : PySem.W.Frag) (F : Fr) (Z : List Addr) (H : Hp) (σ : L2.St) : List V → List Hd → Prop
  | nil : HdsOk K F Z H σ [] []
  | cons {v : V} {h : Hd} {vs : List V} {hs : List Hd} : HdOk K F Z H σ v h → HdsOk K F Z H σ vs hs → HdsOk K F Z H σ (v :: vs) (h :: hs)
theorem HdsOk.keep {K : PySem.W.Frag} {F : Fr} {Z : List Addr} {H H' : Hp} {σ : L2.St} (k : Kp Z H H') : ∀ {vs : List V} {hs : List Hd}, HdsOk K F Z H σ vs hs → HdsOk K F Z H' σ vs hs
  | _, _, .nil => .nil
  | _, _, .cons r t => .cons (r.keep k) (HdsOk.keep k t)
def PostA (K : PySem.W.Frag) (F : Fr) (W : WX) (Z : List Addr) (σ : L2.St) (H : Hp) (r : R (List Hd)) (Q : List V → Hp → Prop) : Prop := match r with
  | .ok hs γ' => ∀ vs H', SR K F Z γ' σ H' → Kp Z H H' → HdsOk K F Z H' σ vs hs → Q vs H'
  | .ex c γ' => ∀ Z' σ' H', SR K F Z' γ' σ' H' → WOk K W c σ' H'
  | .no => False
def TAr (K : PySem.W.Frag) (F : Fr) (W : WX) (f : SA) : TA := fun σ H Q => ∃ Z γ, SR K F Z γ σ H ∧ PostA K F W Z σ H (f γ) Q
structure GA (X : Cx) (es : List Expr) (f : SA) : Prop where
  run : ∀ (F : Fr) (W : WX), Takes X W → PA X es (TAr X.K F W f)
theorem _root_.L2.PA.weak {X : Cx} {e : List Expr} {t t' : TA} (h : PA X e t) (w : ∀ σ H Q, t' σ H Q → t σ H Q) : PA X e t' := ⟨fun pos pins s σ H Q I q => h.run pos pins s σ H Q I (w σ H Q q)⟩
section
variable {X : Cx} {pos : Pos} {K : PySem.W.Frag} {F : Fr} {W : WX} {Z : List Addr} {γ : List Sl} {σ : L2.St} {H : Hp}
theorem PostA.mono {Q Q' : List V → Hp → Prop} {r : R (List Hd)} (p : PostA K F W Z σ H r Q) (k : ∀ v H', Q v H' → Q' v H') : PostA K F W Z σ H r Q' := by
  cases r with
  | ok h γ' => exact fun v H' a b c => k _ _ (p v H' a b c)
  | ex c γ' => exact p
  | no => exact p
/-- a value first, then arguments -/
theorem PostA.bindE {Q : List V → Hp → Prop} {r : R Hd} {k : Hd → List Sl → R (List Hd)} (p : PostA K F W Z σ H (r.bind k) Q) :
    Post K F W Z σ H r (fun v H1 => ∃ h γ1, r = .ok h γ1 ∧ SR K F Z γ1 σ H1 ∧ Kp Z H H1 ∧ HdOk K F Z H1 σ v h ∧ PostA K F W Z σ H1 (k h γ1) Q) := by
  cases r with
  | no => exact p
  | ex c γ' => exact p
  | ok h γ1 =>
    intro v H1 s1 k1 r1 _
    refine ⟨h, γ1, rfl, s1.unpl, k1, r1, ?_⟩
    have p1 : PostA K F W Z σ H (k h γ1) Q := p
    cases e : k h γ1 with
    | no => rw [e] at p1; exact p1
    | ex c γ' => rw [e] at p1; exact p1
    | ok h2 γ2 =>
      rw [e] at p1
      exact fun u H2 s2 k2 r2 => p1 u H2 s2 (k1.trans k2) r2
theorem PostA.bindA {Q : List V → Hp → Prop} {r : R (List Hd)} {k : List Hd → List Sl → R (List Hd)} (p : PostA K F W Z σ H (r.bind k) Q) :
    PostA K F W Z σ H r (fun v H1 => ∃ h γ1, r = .ok h γ1 ∧ SR K F Z γ1 σ H1 ∧ Kp Z H H1 ∧ HdsOk K F Z H1 σ v h ∧ PostA K F W Z σ H1 (k h γ1) Q) := by
  cases r with
  | no => exact p
  | ex c γ' => exact p
  | ok h γ1 =>
    intro v H1 s1 k1 r1
    refine ⟨h, γ1, rfl, s1, k1, r1, ?_⟩
    have p1 : PostA K F W Z σ H (k h γ1) Q := p
    cases e : k h γ1 with
    | no => rw [e] at p1; exact p1
    | ex c γ' => rw [e] at p1; exact p1
    | ok h2 γ2 =>
      rw [e] at p1
      exact fun u H2 s2 k2 r2 => p1 u H2 s2 (k1.trans k2) r2
/-- arguments first, then a value -/
theorem Post.bindA {Q : VK} {r : R (List Hd)} {k : List Hd → List Sl → R Hd} (p : Post K F W Z σ H (r.bind k) Q) :
    PostA K F W Z σ H r (fun v H1 => ∃ h γ1, r = .ok h γ1 ∧ SR K F Z γ1 σ H1 ∧ Kp Z H H1 ∧ HdsOk K F Z H1 σ v h ∧ Post K F W Z σ H1 (k h γ1) Q) := by
  cases r with
  | no => exact p
  | ex c γ' => exact p
  | ok h γ1 =>
    intro v H1 s1 k1 r1
    refine ⟨h, γ1, rfl, s1, k1, r1, ?_⟩
    have p1 : Post K F W Z σ H (k h γ1) Q := p
    cases e : k h γ1 with
    | no => rw [e] at p1; exact p1
    | ex c γ' => rw [e] at p1; exact p1
    | ok h2 γ2 =>
      rw [e] at p1
      exact fun u H2 s2 k2 r2 n2 => p1 u H2 s2 (k1.trans k2) r2 (n2.back k1 s1)
theorem ga_nil : GA X [] aNil := ⟨fun F W _ => pa_nil.weak fun σ H Q ⟨Z, γ, s, p⟩ => p [] H s (Kp.refl _ _) .nil⟩
theorem ga_cons {e : Expr} {es : List Expr} {fa : SE} {fr : SA} (ha : GE X e fa) (hr : GA X es fr) (hs : starEach (e :: es) X.env = (false, eval e X.env) :: starEach es X.env := by rfl) : GA X (e :: es) (aCons fa fr) :=
  ⟨fun F W tk => (pa_cons (ha.run F W tk) (hr.run F W tk) hs).weak fun σ H Q ⟨Z, γ, s, p⟩ => by
    refine ⟨Z, γ, s, p.bindE.mono fun v H1 ⟨h1, γ1, _, s1, k1, r1, p1⟩ => ?_⟩
    refine ⟨Z, γ1, s1, p1.bindA.mono fun vs H2 ⟨h2, γ2, _, s2, k2, r2, p2⟩ => ?_⟩
    exact p2 (v :: vs) H2 s2 (Kp.refl _ _) (.cons (r1.keep k2) r2)⟩
/-- what may be put into another thing -/
def pvs : List Hd → Option (List D)
  | [] => some []
  | .pv d :: hs => (pvs hs).map (d :: ·)
  | .nw (.list d) :: hs => (pvs hs).map (.list d :: ·)
  | _ :: _ => none
theorem HdOk.rep {v : V} {ds : List D} (h : HdOk K F Z H σ v (.nw (.list ds))) : Rep K (av F Z) H v (.list ds) := by
  obtain ⟨p, rfl, n, n0, o⟩ := h
  cases o with
  | lst hz h1 h2 => exact .lst hz n (.inl h1) (h2.weak fun a z => .inr z)
theorem pvs_ok : ∀ {hs : List Hd} {vs : List V} {ds : List D}, HdsOk K F Z H σ vs hs → pvs hs = some ds → Reps K (av F Z) H vs ds
  | [], _, _, h, e => by
    cases h
    cases e
    exact .nil
  | h :: hs, _, ds, hh, e => by
    cases hh with
    | cons h1 h2 =>
      cases h with
      | cl i => cases e
      | pv d =>
        have e1 : (pvs hs).map (d :: ·) = some ds := e
        cases e2 : pvs hs with
        | none => rw [e2] at e1; cases e1
        | some es =>
          rw [e2] at e1
          cases e1
          exact .cons h1 (pvs_ok h2 e2)
      | nw d =>
        cases d with
        | list d =>
          have e1 : (pvs hs).map (PyData.list d :: ·) = some ds := e
          cases e2 : pvs hs with
          | none => rw [e2] at e1; cases e1
          | some es =>
            rw [e2] at e1
            cases e1
            exact .cons h1.rep (pvs_ok h2 e2)
        | _ => cases e
def vTup (fa : SA) : SE := fun γ => (fa γ).bind fun hs γ1 => match pvs hs with
  | some ds => if ds.length ≤ 1000 then .ok (.pv (.tuple ds)) γ1 else .no
  | none => .no
def vLst (fa : SA) : SE := fun γ => (fa γ).bind fun hs γ1 => match pvs hs with
  | some ds => if ds.length ≤ 1000 then .ok (.nw (.list ds)) γ1 else .no
  | none => .no
theorem le1000 {n : Nat} (h : n ≤ 1000) : n ≤ sizeLine := Nat.le_trans h (by decide)
theorem SR.h0 {p : Addr} (s : SR K F Z γ σ H) (hp : H p = none) : F.H0 p = none ∧ ¬ av F Z p := by
  have n : ¬ av F Z p := fun z => s.dm p z hp
  refine ⟨?_, n⟩
  cases e : F.H0 p with
  | none => rfl
  | some o =>
    have q := s.kp p o e (.inl fun z => n (.inl (s.wz p z)))
    rw [hp] at q
    cases q
/-- a new list -/
theorem SR.newL {p : Addr} {xs : List V} {ds : List D} (hz : xs.length ≤ sizeLine) (s : SR K F Z γ σ H) (hp : H p = none) (r : Reps K (av F Z) H xs ds) : HdOk K F Z (upd H p (.lst xs)) σ (.ref p) (.nw (.list ds)) :=
  ⟨p, rfl, (s.h0 hp).2, (s.h0 hp).1, .lst hz upd_same (Reps.keep (Kp.of_same (Z := []) (same_new hp)) (fun _ z => nomatch z) _ _ (Reps.more hp _ _ r))⟩
/-- a new tuple -/
def tob (us : List Value) : Obj := { cls := .type "tuple", data := .seq us.toArray }
theorem _root_.L2.Inv.tnew {X : Cx} {pins : List (Addr × Obj)} {σ : L2.St} {H : Hp} {s : Shared} {xs : List V} {us : List Value} (I : Inv X pins σ H s) (r : Vals xs us) (hz : xs.length ≤ sizeLine) :
    Inv X pins σ (upd H s.heap.objs.size (.frz (tob us) (.tup xs))) { s with heap := s.heap.push (tob us), toks := s.toks } :=
  I.laid (fun _ _ e => Heap.get?_push_of_some _ e) (Nat.le_refl _) ⟨Heap.get?_push_size _ rfl, hz, us, r, ⟨_, Heap.get?_push_size _ rfl, rfl, _, rfl⟩⟩
theorem SR.newT {p : Addr} {o : Obj} {xs : List V} {ds : List D} (hz : xs.length ≤ sizeLine) (s : SR K F Z γ σ H) (hp : H p = none) (ho : o.dict = none) (r : Reps K (av F Z) H xs ds) : HdOk K F Z (upd H p (.frz o (.tup xs))) σ (.ref p) (.pv (.tuple ds)) :=
  Rep.tup hz (.inl ⟨o, ho, upd_same⟩) (Reps.keep (Kp.of_same (Z := Z) (same_new hp)) avZ _ _ r)
/-- a display of a tuple -/
def tTupF (t : TA) : TE := fun σ H Q => t σ H fun xs H1 => xs.length ≤ sizeLine ∧ ∀ p o, H1 p = none → o.dict = none → Q (.ref p) (upd H1 p (.frz o (.tup xs)))
theorem pe_tupF {es : List Expr} {x1 : Nat} {t : TA} (h : PA X es t) : PE X (.Tuple es x1 pos) (tTupF t) := by
  refine ⟨fun pins s σ H Q I q0 => ?_⟩
  refine wpAny_Tuple_spliced (thn (h.run pos pins s σ H _ I q0) fun us s1 ⟨xs, H1, I1, r, hz, q⟩ => ⟨by rw [← r.length]; exact hz, ?_⟩)
  exact ⟨.ref s1.heap.objs.size, _, I1.tnew r hz, rfl, q _ (tob us) (I1.hok.fresh (Nat.le_refl _)) rfl⟩
theorem ge_tup {es : List Expr} {fa : SA} {x1 : Nat} (ha : GA X es fa) : GE X (.Tuple es x1 pos) (vTup fa) := ⟨fun F W tk => (pe_tupF (ha.run F W tk)).weak fun σ H Q ⟨Z, γ, s, p⟩ => by
  refine ⟨Z, γ, s, p.bindA.mono fun vs H1 ⟨hs, γ1, _, s1, k1, r1, p1⟩ => ?_⟩
  cases e : pvs hs with
  | none => rw [e] at p1; exact p1.elim
  | some ds =>
    rw [e] at p1
    have p1 : Post X.K F W Z σ H1 (if ds.length ≤ 1000 then .ok (.pv (.tuple ds)) γ1 else .no) Q := p1
    by_cases hl : ds.length ≤ 1000
    · rw [if_pos hl] at p1
      have r2 := pvs_ok r1 e
      have hz : vs.length ≤ sizeLine := by rw [r2.length]; exact le1000 hl
      exact ⟨hz, fun p o hp ho => p1.end_ s1 (same_new hp) (SR.newT hz s1 hp ho r2) newIn_pv⟩
    · rw [if_neg hl] at p1
      exact p1.elim⟩
theorem ge_lst {es : List Expr} {fa : SA} (ha : GA X es fa) : GE X (.List es pos) (vLst fa) := ⟨fun F W tk => (pe_lst (ha.run F W tk)).weak fun σ H Q ⟨Z, γ, s, p⟩ => by
  refine ⟨Z, γ, s, p.bindA.mono fun vs H1 ⟨hs, γ1, _, s1, k1, r1, p1⟩ => ?_⟩
  cases e : pvs hs with
  | none => rw [e] at p1; exact p1.elim
  | some ds =>
    rw [e] at p1
    have p1 : Post X.K F W Z σ H1 (if ds.length ≤ 1000 then .ok (.nw (.list ds)) γ1 else .no) Q := p1
    by_cases hl : ds.length ≤ 1000
    · rw [if_pos hl] at p1
      have r2 := pvs_ok r1 e
      have hz : vs.length ≤ sizeLine := by rw [r2.length]; exact le1000 hl
      exact ⟨hz, fun p hp => p1.end_ s1 (same_new hp) (SR.newL hz s1 hp r2) (newIn_ref hp)⟩
    · rw [if_neg hl] at p1
      exact p1.elim⟩
end
end GL

set_option Elab.async false
set_option linter.all false
set_option autoImplicit false
set_option maxRecDepth 100000
set_option maxHeartbeats 2000000
namespace GL
open PySem PySem.Spec PyProof.Rows L2

/-! ### tests -/
abbrev SB := List Sl → R Bool
def PostB (K : PySem.W.Frag) (F : Fr) (W : WX) (Z : List Addr) (σ : L2.St) (H : Hp) (r : R Bool) (Q : Bool → Hp → Prop) : Prop := match r with
  | .ok b γ' => ∀ H', SR K F Z γ' σ H' → Kp Z H H' → Q b H'
  | .ex c γ' => ∀ Z' σ' H', SR K F Z' γ' σ' H' → WOk K W c σ' H'
  | .no => False
def TB (K : PySem.W.Frag) (F : Fr) (W : WX) (f : SB) : TT := fun σ H Q => ∃ Z γ, SR K F Z γ σ H ∧ PostB K F W Z σ H (f γ) Q
structure GB (X : Cx) (e : Expr) (f : SB) : Prop where
  run : ∀ (F : Fr) (W : WX), Takes X W → PT X e (TB X.K F W f)
structure GW (X : Cx) (e : Expr) (f : SB) : Prop where
  run : ∀ (F : Fr) (W : WX), Takes X W → PW X e (TB X.K F W f)
theorem _root_.L2.PT.weak {X : Cx} {e : Expr} {t t' : TT} (h : PT X e t) (w : ∀ σ H Q, t' σ H Q → t σ H Q) : PT X e t' := ⟨fun pins s σ H Q I q => h.run pins s σ H Q I (w σ H Q q)⟩
theorem _root_.L2.PW.weak {X : Cx} {e : Expr} {t t' : TT} (h : PW X e t) (w : ∀ σ H Q, t' σ H Q → t σ H Q) : PW X e t' := ⟨fun wh pins s σ H Q I q => h.run wh pins s σ H Q I (w σ H Q q)⟩
section
variable {X : Cx} {pos : Pos} {K : PySem.W.Frag} {F : Fr} {W : WX} {Z : List Addr} {γ : List Sl} {σ : L2.St} {H : Hp}
theorem PostB.mono {Q Q' : Bool → Hp → Prop} {r : R Bool} (p : PostB K F W Z σ H r Q) (k : ∀ v H', Q v H' → Q' v H') : PostB K F W Z σ H r Q' := by
  cases r with
  | ok h γ' => exact fun H' a b => k _ _ (p H' a b)
  | ex c γ' => exact p
  | no => exact p
theorem PostB.bindE {Q : Bool → Hp → Prop} {r : R Hd} {k : Hd → List Sl → R Bool} (p : PostB K F W Z σ H (r.bind k) Q) :
    Post K F W Z σ H r (fun v H1 => ∃ h γ1, r = .ok h γ1 ∧ SR K F Z γ1 σ H1 ∧ Kp Z H H1 ∧ HdOk K F Z H1 σ v h ∧ PostB K F W Z σ H1 (k h γ1) Q) := by
  cases r with
  | no => exact p
  | ex c γ' => exact p
  | ok h γ1 =>
    intro v H1 s1 k1 r1 _
    refine ⟨h, γ1, rfl, s1.unpl, k1, r1, ?_⟩
    have p1 : PostB K F W Z σ H (k h γ1) Q := p
    cases e : k h γ1 with
    | no => rw [e] at p1; exact p1
    | ex c γ' => rw [e] at p1; exact p1
    | ok h2 γ2 =>
      rw [e] at p1
      exact fun H2 s2 k2 => p1 H2 s2 (k1.trans k2)
theorem PostB.bindB {Q : Bool → Hp → Prop} {r : R Bool} {k : Bool → List Sl → R Bool} (p : PostB K F W Z σ H (r.bind k) Q) :
    PostB K F W Z σ H r (fun b H1 => ∃ γ1, r = .ok b γ1 ∧ SR K F Z γ1 σ H1 ∧ Kp Z H H1 ∧ PostB K F W Z σ H1 (k b γ1) Q) := by
  cases r with
  | no => exact p
  | ex c γ' => exact p
  | ok h γ1 =>
    intro H1 s1 k1
    refine ⟨γ1, rfl, s1, k1, ?_⟩
    have p1 : PostB K F W Z σ H (k h γ1) Q := p
    cases e : k h γ1 with
    | no => rw [e] at p1; exact p1
    | ex c γ' => rw [e] at p1; exact p1
    | ok h2 γ2 =>
      rw [e] at p1
      exact fun H2 s2 k2 => p1 H2 s2 (k1.trans k2)
def cV (f : SE) : SB := fun γ => (f γ).bind fun h γ1 => match h with
  | .pv (.bool b) => .ok b γ1
  | _ => .no
theorem gb_val {e : Expr} {f : SE} (h : GE X e f) (he : ∀ whole, isTrue e X.env whole = (do let v ← whole; standAt e.pos; holding [v] (truthy v)) := by intro _; rfl) : GB X e (cV f) := ⟨fun F W tk => (pt_val (h.run F W tk) he).weak fun σ H Q ⟨Z, γ, s, p⟩ => by
  refine ⟨Z, γ, s, p.bindE.mono fun v H1 ⟨h1, γ1, _, s1, k1, r1, p1⟩ => ?_⟩
  cases h1 with
  | cl i => exact p1.elim
  | nw d => exact p1.elim
  | pv d =>
    cases d with
    | bool b =>
      have e1 : Rep X.K (av F Z) H1 v (.bool b) := r1
      cases e1
      exact ⟨b, rfl, p1 H1 s1 (Kp.refl _ _)⟩
    | _ => exact p1.elim⟩
def cNot (f : SB) : SB := fun γ => (f γ).bind fun b γ1 => .ok (!b) γ1
def cAnd (f g : SB) : SB := fun γ => (f γ).bind fun b γ1 => match b with
  | true => g γ1
  | false => .ok false γ1
def cOr (f g : SB) : SB := fun γ => (f γ).bind fun b γ1 => match b with
  | true => .ok true γ1
  | false => g γ1
theorem gb_not {a : Expr} {f : SB} (h : GB X a f) : GB X (.UnaryOp .Not a pos) (cNot f) := ⟨fun F W tk => (pt_not (h.run F W tk)).weak fun σ H Q ⟨Z, γ, s, p⟩ =>
  ⟨Z, γ, s, p.bindB.mono fun b H1 ⟨γ1, _, s1, k1, p1⟩ => p1 H1 s1 (Kp.refl _ _)⟩⟩
theorem gw_and1 {a : Expr} {f : SB} (h : GB X a f) : GW X (.BoolOp .And [a] pos) f := ⟨fun F W tk => pw_and1 (h.run F W tk)⟩
theorem gw_or1 {a : Expr} {f : SB} (h : GB X a f) : GW X (.BoolOp .Or [a] pos) f := ⟨fun F W tk => pw_or1 (h.run F W tk)⟩
theorem gw_and {a b : Expr} {rest : List Expr} {f g : SB} (ha : GB X a f) (hb : GW X (.BoolOp .And (b :: rest) pos) g) : GW X (.BoolOp .And (a :: b :: rest) pos) (cAnd f g) := ⟨fun F W tk => (pw_and (ha.run F W tk) (hb.run F W tk)).weak fun σ H Q ⟨Z, γ, s, p⟩ =>
  ⟨Z, γ, s, p.bindB.mono fun b H1 ⟨γ1, _, s1, k1, p1⟩ => by
    cases b with
    | true => exact ⟨Z, γ1, s1, p1⟩
    | false => exact p1 H1 s1 (Kp.refl _ _)⟩⟩
theorem gw_or {a b : Expr} {rest : List Expr} {f g : SB} (ha : GB X a f) (hb : GW X (.BoolOp .Or (b :: rest) pos) g) : GW X (.BoolOp .Or (a :: b :: rest) pos) (cOr f g) := ⟨fun F W tk => (pw_or (ha.run F W tk) (hb.run F W tk)).weak fun σ H Q ⟨Z, γ, s, p⟩ =>
  ⟨Z, γ, s, p.bindB.mono fun b H1 ⟨γ1, _, s1, k1, p1⟩ => by
    cases b with
    | false => exact ⟨Z, γ1, s1, p1⟩
    | true => exact p1 H1 s1 (Kp.refl _ _)⟩⟩
theorem GW.gb {e : Expr} {f : SB} (h : GW X e f) : GB X e f := ⟨fun F W tk => (h.run F W tk).pt⟩
/-- and, or, not as values -/
def vAnd (f g : SE) : SE := fun γ => (f γ).bind fun h γ1 => match h with
  | .pv (.bool true) => g γ1
  | .pv (.bool false) => .ok (.pv (.bool false)) γ1
  | _ => .no
def vOr (f g : SE) : SE := fun γ => (f γ).bind fun h γ1 => match h with
  | .pv (.bool true) => .ok (.pv (.bool true)) γ1
  | .pv (.bool false) => g γ1
  | _ => .no
def vNot (f : SE) : SE := fun γ => (f γ).bind fun h γ1 => match h with
  | .pv (.bool b) => .ok (.pv (.bool (!b))) γ1
  | _ => .no
theorem ge_one {a : Expr} {op} {f : SE} (h : GE X a f) : GE X (.BoolOp op [a] pos) f := ⟨fun F W tk => pe_one (h.run F W tk)⟩
theorem ge_and {a b : Expr} {rest : List Expr} {f g : SE} (ha : GE X a f) (hb : GE X (.BoolOp .And (b :: rest) pos) g) : GE X (.BoolOp .And (a :: b :: rest) pos) (vAnd f g) := ⟨fun F W tk => (pe_and (ha.run F W tk) (hb.run F W tk)).weak fun σ H Q ⟨Z, γ, s, p⟩ => by
  refine ⟨Z, γ, s, p.bind.mono fun v H1 ⟨h1, γ1, _, s1, k1, r1, p1⟩ => ?_⟩
  cases h1 with
  | cl i => exact p1.elim
  | nw d => exact p1.elim
  | pv d =>
    cases d with
    | bool b =>
      have e1 : Rep X.K (av F Z) H1 v (.bool b) := r1
      cases e1
      refine ⟨b, rfl, ?_⟩
      cases b with
      | true => exact ⟨Z, γ1, s1, p1⟩
      | false => exact p1 _ H1 s1 (Kp.refl _ _) (.bl false) newIn_pv
    | _ => exact p1.elim⟩
theorem ge_or {a b : Expr} {rest : List Expr} {f g : SE} (ha : GE X a f) (hb : GE X (.BoolOp .Or (b :: rest) pos) g) : GE X (.BoolOp .Or (a :: b :: rest) pos) (vOr f g) := ⟨fun F W tk => (pe_or (ha.run F W tk) (hb.run F W tk)).weak fun σ H Q ⟨Z, γ, s, p⟩ => by
  refine ⟨Z, γ, s, p.bind.mono fun v H1 ⟨h1, γ1, _, s1, k1, r1, p1⟩ => ?_⟩
  cases h1 with
  | cl i => exact p1.elim
  | nw d => exact p1.elim
  | pv d =>
    cases d with
    | bool b =>
      have e1 : Rep X.K (av F Z) H1 v (.bool b) := r1
      cases e1
      refine ⟨b, rfl, ?_⟩
      cases b with
      | false => exact ⟨Z, γ1, s1, p1⟩
      | true => exact p1 _ H1 s1 (Kp.refl _ _) (.bl true) newIn_pv
    | _ => exact p1.elim⟩
theorem ge_not {a : Expr} {f : SE} (ha : GE X a f) : GE X (.UnaryOp .Not a pos) (vNot f) := ⟨fun F W tk => (pe_not (ha.run F W tk)).weak fun σ H Q ⟨Z, γ, s, p⟩ => by
  refine ⟨Z, γ, s, p.bind.mono fun v H1 ⟨h1, γ1, _, s1, k1, r1, p1⟩ => ?_⟩
  cases h1 with
  | cl i => exact p1.elim
  | nw d => exact p1.elim
  | pv d =>
    cases d with
    | bool b =>
      have e1 : Rep X.K (av F Z) H1 v (.bool b) := r1
      cases e1
      exact ⟨b, rfl, p1 _ H1 s1 (Kp.refl _ _) (.bl _) newIn_pv⟩
    | _ => exact p1.elim⟩
end

/-! ### statements -/
inductive Fl where
  | nx | rt (h : Hd) | bk | ct
abbrev SS := List Sl → R Fl
/-- what stood for something stands for it still -/
def Ext (K : PySem.W.Frag) (F : Fr) (Z : List Addr) (H : Hp) (Z' : List Addr) (H' : Hp) : Prop := ∀ v d, Rep K (av F Z) H v d → Rep K (av F Z') H' v d
def RetOk (K : PySem.W.Frag) (F : Fr) (H : Hp) (v : V) : Hd → Prop
  | .pv d => Rep K (fun a => a ∈ F.W ∨ F.A a) H v d
  | .nw d => ∃ p, v = .ref p ∧ F.H0 p = none ∧ ObOk K (fun a => a = p ∨ a ∈ F.W ∨ F.A a) H p d
  | .cl _ => False
def PostS (K : PySem.W.Frag) (F : Fr) (W : WX) (Z : List Addr) (H : Hp) (r : R Fl) (D : Ends) : Prop := match r with
  | .ok .nx γ' => ∀ Z' σ' H', SR K F Z' γ' σ' H' → Ext K F Z H Z' H' → D.nx σ' H'
  | .ok .bk γ' => ∀ Z' σ' H', SR K F Z' γ' σ' H' → Ext K F Z H Z' H' → D.bk σ' H'
  | .ok .ct γ' => ∀ Z' σ' H', SR K F Z' γ' σ' H' → Ext K F Z H Z' H' → D.ct σ' H'
  | .ok (.rt h) γ' => ∀ Z' σ' v H', SR K (F.pl v h) Z' γ' σ' H' → RetOk K F H' v h → D.rt v H'
  | .ex c γ' => ∀ Z' σ' H', SR K F Z' γ' σ' H' → WOk K W c σ' H'
  | .no => False
def TS (K : PySem.W.Frag) (F : Fr) (W : WX) (f : SS) : L2.TS := fun D σ H => ∃ Z γ, SR K F Z γ σ H ∧ PostS K F W Z H (f γ) D
structure GS (X : Cx) (st : Stmt) (f : SS) : Prop where
  run : ∀ (F : Fr) (W : WX), Takes X W → PS X st (TS X.K F W f)
structure GSs (X : Cx) (st : List Stmt) (f : SS) : Prop where
  run : ∀ (F : Fr) (W : WX), Takes X W → PSs X st (TS X.K F W f)
theorem _root_.L2.PS.weak {X : Cx} {e : Stmt} {t t' : L2.TS} (h : PS X e t) (w : ∀ D σ H, t' D σ H → t D σ H) : PS X e t' := ⟨fun pins s σ H D I q => h.run pins s σ H D I (w D σ H q)⟩
theorem _root_.L2.PSs.weak {X : Cx} {e : List Stmt} {t t' : L2.TS} (h : PSs X e t) (w : ∀ D σ H, t' D σ H → t D σ H) : PSs X e t' := ⟨fun pins s σ H D I q => h.run pins s σ H D I (w D σ H q)⟩
section
variable {X : Cx} {pos : Pos} {K : PySem.W.Frag} {F : Fr} {W : WX} {Z Z' : List Addr} {γ : List Sl} {σ : L2.St} {H H' : Hp} {D : Ends}
theorem Ext.of_kp (k : Kp Z H H') : Ext K F Z H Z H' := fun v d r => Rep.keep k avZ d v r
theorem Ext.refl : Ext K F Z H Z H := fun _ _ r => r
theorem Ext.trans {Z2 : List Addr} {H2 : Hp} (a : Ext K F Z H Z' H') (b : Ext K F Z' H' Z2 H2) : Ext K F Z H Z2 H2 := fun v d r => b v d (a v d r)
/-- from a later point on -/
theorem PostS.later {r : R Fl} (p : PostS K F W Z H r D) (e : Ext K F Z H Z' H') : PostS K F W Z' H' r D := by
  cases r with
  | no => exact p
  | ex c γ' => exact p
  | ok fl γ' =>
    cases fl with
    | nx => exact fun Z2 σ2 H2 s x => p Z2 σ2 H2 s (e.trans x)
    | bk => exact fun Z2 σ2 H2 s x => p Z2 σ2 H2 s (e.trans x)
    | ct => exact fun Z2 σ2 H2 s x => p Z2 σ2 H2 s (e.trans x)
    | rt h => exact p
theorem PostS.bindE {r : R Hd} {k : Hd → List Sl → R Fl} (p : PostS K F W Z H (r.bind k) D) :
    Post K F W Z σ H r (fun v H1 => ∃ h γ1, r = .ok h γ1 ∧ SR K (F.pl v h) Z γ1 σ H1 ∧ Kp Z H H1 ∧ HdOk K F Z H1 σ v h ∧ NewIn H v h ∧ PostS K F W Z H (k h γ1) D) := by
  cases r with
  | no => exact p
  | ex c γ' => exact p
  | ok h γ1 => exact fun v H1 s1 k1 r1 n1 => ⟨h, γ1, rfl, s1, k1, r1, n1, p⟩
theorem PostS.bindB {r : R Bool} {k : Bool → List Sl → R Fl} (p : PostS K F W Z H (r.bind k) D) :
    PostB K F W Z σ H r (fun b H1 => ∃ γ1, r = .ok b γ1 ∧ SR K F Z γ1 σ H1 ∧ Kp Z H H1 ∧ PostS K F W Z H (k b γ1) D) := by
  cases r with
  | no => exact p
  | ex c γ' => exact p
  | ok h γ1 => exact fun H1 s1 k1 => ⟨γ1, rfl, s1, k1, p⟩
/-- a cell's own address is avoided already -/
theorem SR.plusZ {p : Addr} (h : SR K F Z γ σ H) (m : p ∈ Z) : SR K (F.plus (.ref p)) Z γ σ H := by
  have hw : ∀ a, av (F.plus (.ref p)) Z a → av F Z a := fun a q => by
    rcases q with q | q | q
    · exact .inl q
    · cases q
      exact .inl m
    · exact .inr q
  exact ⟨h.kp, h.zn, h.wz, fun a ha => h.dm a (hw a ha), h.len, fun i s e => SlOk.imp (F := F) (F' := F.plus (.ref p)) rfl rfl (fun _ m => m) (fun v d q => q.weak hw) (fun a d q => q.weak hw) (h.at_ i s e), h.ap, h.nst.imp rfl (fun _ m => m) (fun v d q => q.weak hw) fun _ _ _ _ _ _ _ => rfl⟩
def sNx : SS := fun γ => .ok .nx γ
def sSeq (a b : SS) : SS := fun γ => (a γ).bind fun fl γ1 => match fl with
  | .nx => b γ1
  | fl => .ok fl γ1
theorem gss_nil : GSs X [] sNx := ⟨fun F W tk => pss_nil.weak fun D σ H ⟨Z, γ, s, p⟩ => p Z σ H s Ext.refl⟩
theorem gss_one {st : Stmt} {f : SS} (h : GS X st f) : GSs X [st] f := ⟨fun F W tk => pss_one (h.run F W tk)⟩
theorem gss_cons {st : Stmt} {rest : List Stmt} {f g : SS} (h : GS X st f) (hr : GSs X rest g) : GSs X (st :: rest) (sSeq f g) := ⟨fun F W tk => (pss_cons (h.run F W tk) (hr.run F W tk)).weak fun D σ H ⟨Z, γ, s, p⟩ => by
  refine ⟨Z, γ, s, ?_⟩
  have p : PostS X.K F W Z H ((f γ).bind fun fl γ1 => match fl with
    | .nx => g γ1
    | fl => .ok fl γ1) D := p
  cases e : f γ with
  | no => rw [e] at p; exact p
  | ex c γ' => rw [e] at p; exact p
  | ok fl γ1 =>
    rw [e] at p
    cases fl with
    | nx => exact fun Z' σ' H' s' x => ⟨Z', γ1, s', PostS.later p x⟩
    | bk => exact p
    | ct => exact p
    | rt h => exact p⟩
theorem gs_pass : GS X (.Pass pos) sNx := ⟨fun F W tk => ps_pass.weak fun D σ H ⟨Z, γ, s, p⟩ => p Z σ H s Ext.refl⟩
def sBrk : SS := fun γ => .ok .bk γ
def sCont : SS := fun γ => .ok .ct γ
theorem gs_break : GS X (.Break pos) sBrk := ⟨fun F W tk => ps_break.weak fun D σ H ⟨Z, γ, s, p⟩ => p Z σ H s Ext.refl⟩
theorem gs_continue : GS X (.Continue pos) sCont := ⟨fun F W tk => ps_continue.weak fun D σ H ⟨Z, γ, s, p⟩ => p Z σ H s Ext.refl⟩
def sIf (c : SB) (a b : SS) : SS := fun γ => (c γ).bind fun t γ1 => match t with
  | true => a γ1
  | false => b γ1
theorem gs_if {c : Expr} {a b : List Stmt} {fc : SB} {fa fb : SS} (hc : GB X c fc) (ha : GSs X a fa) (hb : GSs X b fb) : GS X (.If c a b pos) (sIf fc fa fb) := ⟨fun F W tk => (ps_if (hc.run F W tk) (ha.run F W tk) (hb.run F W tk)).weak fun D σ H ⟨Z, γ, s, p⟩ => by
  refine ⟨Z, γ, s, p.bindB.mono fun t H1 ⟨γ1, _, s1, k1, p1⟩ => ?_⟩
  cases t with
  | true => exact ⟨Z, γ1, s1, PostS.later p1 (Ext.of_kp k1)⟩
  | false => exact ⟨Z, γ1, s1, PostS.later p1 (Ext.of_kp k1)⟩⟩
def sExpr (f : SE) : SS := fun γ => (f γ).bind fun _ γ1 => .ok .nx γ1
theorem gs_expr {e : Expr} {f : SE} (h : GE X e f) (hs : swapsWith e none pos.line X.env = pure false := by rfl) : GS X (.Expr e pos) (sExpr f) := ⟨fun F W tk => (ps_expr (h.run F W tk) hs).weak fun D σ H ⟨Z, γ, s, p⟩ =>
  ⟨Z, γ, s, p.bindE.mono fun v H1 ⟨h1, γ1, _, s1, k1, r1, n1, p1⟩ => p1 Z σ H1 s1.unpl (Ext.of_kp k1)⟩⟩
def sRet (f : SE) : SS := fun γ => (f γ).bind fun h γ1 => match h with
  | .cl i => (match γ1[i]? with
    | some (.ce false d) => .ok (.rt (.nw d)) γ1
    | _ => .no)
  | h => .ok (.rt h) γ1
theorem gs_ret {e : Expr} {f : SE} (h : GE X e f) : GS X (.Return (some e) pos) (sRet f) := ⟨fun F W tk => (ps_ret (h.run F W tk)).weak fun D σ H ⟨Z, γ, s, p⟩ => by
  refine ⟨Z, γ, s, p.bindE.mono fun v H1 ⟨h1, γ1, _, s1, k1, r1, n1, p1⟩ => ?_⟩
  have hw : ∀ a, (a ∈ F.W ∨ F.A a) → av F Z a := fun a q => by
    rcases q with q | q
    · exact .inl (s1.unpl.wz a q)
    · exact .inr q
  cases h1 with
  | pv d => exact p1 Z σ v H1 s1 (Rep.weak hw d v r1)
  | nw d =>
    obtain ⟨q, e, nq, n0, o⟩ := r1
    exact p1 Z σ v H1 s1 ⟨q, e, n0, o.weak fun a z => z.imp id (hw a)⟩
  | cl i =>
    have p1 : PostS X.K F W Z H (match γ1[i]? with
      | some (.ce false d) => .ok (.rt (.nw d)) γ1
      | _ => .no) D := p1
    cases e : γ1[i]? with
    | none => rw [e] at p1; exact p1.elim
    | some sl =>
      rw [e] at p1
      cases sl with
      | un => exact p1.elim
      | va d => exact p1.elim
      | ow gh c => exact p1.elim
      | ce b d =>
        cases b with
        | true => exact p1.elim
        | false =>
          obtain ⟨a, e1, m, m1, _, o⟩ := SR.ce s1 e
          have e2 : σ[i]? = some (some v) := r1
          rw [e2] at e1
          cases e1
          exact p1 Z σ _ H1 (SR.plusZ s1 m) ⟨a, rfl, m1 rfl, o.weak fun b z => by
            rcases z with z | z
            · subst z
              exact .inl m
            · exact hw b z⟩⟩
def sRetN : SS := fun γ => .ok (.rt (.pv .none)) γ
theorem gs_retN : GS X (.Return none pos) sRetN := ⟨fun F W tk => ps_retN.weak fun D σ H ⟨Z, γ, s, p⟩ => p Z σ _ H s .non⟩
end

/-! ### targets -/
abbrev SG := D → List Sl → Option (List Sl)
abbrev SGs := List D → List Sl → Option (List Sl)
/-- alike but at ts -/
def SameBut (ts : List Nat) (σ σ' : L2.St) : Prop := σ'.length = σ.length ∧ ∀ i, i ∉ ts → σ'[i]? = σ[i]?
theorem SameBut.refl {ts : List Nat} {σ : L2.St} : SameBut ts σ σ := ⟨rfl, fun _ _ => rfl⟩
theorem SameBut.trans {ts us : List Nat} {σ σ1 σ2 : L2.St} (a : SameBut ts σ σ1) (b : SameBut us σ1 σ2) : SameBut (ts ++ us) σ σ2 :=
  ⟨b.1.trans a.1, fun i n => (b.2 i fun m => n (List.mem_append_right _ m)).trans (a.2 i fun m => n (List.mem_append_left _ m))⟩
def PostG (K : PySem.W.Frag) (F : Fr) (Z : List Addr) (H : Hp) (ts : List Nat) (σ : L2.St) (r : Option (List Sl)) (Q : L2.St → Prop) : Prop := match r with
  | some γ' => ∀ σ', SR K F Z γ' σ' H → SameBut ts σ σ' → Q σ'
  | none => False
def TG (K : PySem.W.Frag) (F : Fr) (ts : List Nat) (g : SG) : L2.TG := fun v σ H Q => ∃ Z γ d, SR K F Z γ σ H ∧ Rep K (av F Z) H v d ∧ PostG K F Z H ts σ (g d γ) fun σ' => Q σ' H
def TGs (K : PySem.W.Frag) (F : Fr) (ts : List Nat) (g : SGs) : L2.TGs := fun vs σ H Q => ∃ Z γ ds, SR K F Z γ σ H ∧ Reps K (av F Z) H vs ds ∧ PostG K F Z H ts σ (g ds γ) fun σ' => Q σ' H
structure GG (X : Cx) (e : Expr) (ts : List Nat) (g : SG) : Prop where
  run : ∀ F : Fr, PG X e (TG X.K F ts g)
structure GGs (X : Cx) (es : List Expr) (ts : List Nat) (g : SGs) : Prop where
  run : ∀ F : Fr, PGs X es (TGs X.K F ts g)
theorem _root_.L2.PG.weak {X : Cx} {e : Expr} {t t' : L2.TG} (h : PG X e t) (w : ∀ v σ H Q, t' v σ H Q → t v σ H Q) : PG X e t' := ⟨fun pins s σ H v u Q I r q => h.run pins s σ H v u Q I r (w v σ H Q q)⟩
theorem _root_.L2.PGs.weak {X : Cx} {e : List Expr} {t t' : L2.TGs} (h : PGs X e t) (w : ∀ v σ H Q, t' v σ H Q → t v σ H Q) : PGs X e t' := ⟨fun pins s σ H v u Q I r q => h.run pins s σ H v u Q I r (w v σ H Q q)⟩
section
variable {X : Cx} {pos : Pos}
def gName (i : Nat) : SG := fun d γ => match notGh γ i with
  | true => some (γ.set i (.va d))
  | false => none
theorem gg_name {i : Nat} {x : Str} (h : PG X (.Name x pos) (L2.gName i)) : GG X (.Name x pos) [i] (gName i) := ⟨fun F => h.weak fun v σ H Q ⟨Z, γ, d, s, r, p⟩ => by
  unfold gName at p
  cases q : notGh γ i with
  | false => rw [q] at p; exact p.elim
  | true =>
    rw [q] at p
    exact p _ (s.set (notGh_ne q) r) ⟨List.length_set, fun j n => List.getElem?_set_ne fun e => n (by rw [e]; exact List.mem_singleton_self _)⟩⟩
def gsNil : SGs := fun ds γ => match ds with
  | [] => some γ
  | _ => none
def gsCons (g : SG) (gs : SGs) : SGs := fun ds γ => match ds with
  | d :: ds => (g d γ).bind fun γ1 => gs ds γ1
  | [] => none
theorem ggs_nil : GGs X [] [] gsNil := ⟨fun F => pgs_nil.weak fun vs σ H Q ⟨Z, γ, ds, s, r, p⟩ => by
  cases ds with
  | nil =>
    cases r
    exact ⟨rfl, p _ s SameBut.refl⟩
  | cons d ds => exact p.elim⟩
theorem ggs_cons {e : Expr} {es : List Expr} {t1 t2 : List Nat} {g : SG} {gs : SGs} (h1 : GG X e t1 g) (h2 : GGs X es t2 gs) (hs : (assignEach (e :: es) X.env).map (·.2) = assign e X.env :: (assignEach es X.env).map (·.2) := by rfl) : GGs X (e :: es) (t1 ++ t2) (gsCons g gs) := ⟨fun F => (pgs_cons (h1.run F) (h2.run F) hs).weak fun vs σ H Q ⟨Z, γ, ds, s, r, p⟩ => by
  cases ds with
  | nil => exact p.elim
  | cons d ds =>
    cases r with
    | cons r1 r2 =>
      refine ⟨_, _, rfl, Z, γ, d, s, r1, ?_⟩
      have p : PostG X.K F Z H (t1 ++ t2) σ ((g d γ).bind fun γ1 => gs ds γ1) fun σ' => Q σ' H := p
      cases q : g d γ with
      | none => rw [q] at p; exact p.elim
      | some γ1 =>
        rw [q] at p
        refine fun σ' s' b1 => ⟨Z, γ1, ds, s', r2, ?_⟩
        have p : PostG X.K F Z H (t1 ++ t2) σ (gs ds γ1) fun σ' => Q σ' H := p
        cases q2 : gs ds γ1 with
        | none => rw [q2] at p; exact p.elim
        | some γ2 =>
          rw [q2] at p
          exact fun σ2 s2 b2 => p σ2 s2 (b1.trans b2)⟩
def gTup (n : Nat) (gs : SGs) : SG := fun d γ => match d with
  | .tuple ds => if ds.length = n then gs ds γ else none
  | .list ds => if ds.length = n then gs ds γ else none
  | _ => none
theorem pg_or {tg : Expr} {t u : L2.TG} (h1 : PG X tg t) (h2 : PG X tg u) : PG X tg (fun v σ H Q => t v σ H Q ∨ u v σ H Q) := ⟨fun pins s σ H v w Q I r q => by
  rcases q with q | q
  · exact h1.run pins s σ H v w Q I r q
  · exact h2.run pins s σ H v w Q I r q⟩
theorem gg_tup {es : List Expr} {k : Nat} {ts : List Nat} {gs : SGs} {n : Nat} (hc : X.calm = true) (h : GGs X es ts gs) (hn : (assignEach es X.env).length = n := by rfl) (hst : (assignEach es X.env).findIdx? (·.1) = none := by rfl) : GG X (.Tuple es k pos) ts (gTup n gs) :=
  ⟨fun F => (pg_or (pg_tup hc (h.run F) hn hst) (pg_unl hc (h.run F) hn hst)).weak fun v σ H Q ⟨Z, γ, d, s, r, p⟩ => by
    cases d with
    | tuple ds =>
      have p : PostG X.K F Z H ts σ (if ds.length = n then gs ds γ else none) fun σ' => Q σ' H := p
      by_cases hl : ds.length = n
      · rw [if_pos hl] at p
        cases r with
        | tup hz h1 h2 => exact .inl ⟨_, _, rfl, h1.t, h2.length.trans hl, Z, γ, ds, s, h2, p⟩
      · rw [if_neg hl] at p
        exact p.elim
    | list ds =>
      have p : PostG X.K F Z H ts σ (if ds.length = n then gs ds γ else none) fun σ' => Q σ' H := p
      by_cases hl : ds.length = n
      · rw [if_pos hl] at p
        obtain ⟨a, xs, rfl, hz, h1, h2⟩ := r.lstL
        exact .inr ⟨a, xs, rfl, h1, h2.length.trans hl, Z, γ, ds, s, h2, p⟩
      · rw [if_neg hl] at p
        exact p.elim
    | _ => exact p.elim⟩
end

/-! ### assignments -/
/-- x = e; a new list or dict becomes the slot's own -/
def putA (i : Nat) (h : Hd) (γ : List Sl) : R Fl := match notGh γ i, h with
  | true, .pv d => .ok .nx (γ.set i (.va d))
  | true, .nw d => .ok .nx (γ.set i (.ce false d))
  | _, _ => .no
def sAsg (i : Nat) (f : SE) : SS := fun γ => (f γ).bind (putA i)
/-- x = e; a new list is never changed -/
def putF (i : Nat) (h : Hd) (γ : List Sl) : R Fl := match notGh γ i, h with
  | true, .pv d => .ok .nx (γ.set i (.va d))
  | true, .nw (.list d) => .ok .nx (γ.set i (.va (.list d)))
  | _, _ => .no
def sAsgF (i : Nat) (f : SE) : SS := fun γ => (f γ).bind (putF i)
def nxO : Option (List Sl) → R Fl
  | some γ => .ok .nx γ
  | none => .no
/-- a, b = e -/
def putT (g : SG) (h : Hd) (γ : List Sl) : R Fl := match h with
  | .pv d => nxO (g d γ)
  | .nw (.list d) => nxO (g (.list d) γ)
  | _ => .no
def sAsgT (g : SG) (f : SE) : SS := fun γ => (f γ).bind (putT g)
section
variable {X : Cx} {pos : Pos} {K : PySem.W.Frag} {F : Fr} {W : WX} {Z : List Addr} {γ γ1 : List Sl} {σ : L2.St} {H H1 : Hp} {D : Ends} {v : V}
theorem Ext.new {p : Addr} (k : Kp Z H H1) (n : H p = none) : Ext K F Z H (p :: Z) H1 := fun v d r => by
  have r1 := Rep.more n d v r
  have r2 : Rep K (av F (p :: Z)) H v d := r1.weak fun a q => by
    rcases q with q | q
    · rcases List.mem_cons.mp q with q | q
      · exact .inl q
      · exact .inr (.inl q)
    · exact .inr (.inr q)
  exact Rep.keep k (fun a m => .inl (List.mem_cons_of_mem _ m)) d v r2
theorem asg_ok {i : Nat} {h : Hd} (s1 : SR K (F.pl v h) Z γ1 σ H1) (k1 : Kp Z H H1) (r1 : HdOk K F Z H1 σ v h) (n1 : NewIn H v h)
    (p : PostS K F W Z H (putA i h γ1) D) : D.nx (σ.set i (some v)) H1 := by
  unfold putA at p
  cases qq : notGh γ1 i with
  | false => rw [qq] at p; cases h <;> exact p.elim
  | true =>
    rw [qq] at p
    cases h with
    | cl j => exact p.elim
    | pv d => exact p Z _ H1 (s1.set (notGh_ne qq) r1) (Ext.of_kp k1)
    | nw d =>
      obtain ⟨q, e, nq, n0, o⟩ := r1
      subst e
      exact p (q :: Z) _ H1 (SR.setC s1 (notGh_ne qq) nq n0 o) (Ext.new k1 (n1 d rfl q rfl))
theorem asgF_ok {i : Nat} {h : Hd} (s1 : SR K (F.pl v h) Z γ1 σ H1) (k1 : Kp Z H H1) (r1 : HdOk K F Z H1 σ v h)
    (p : PostS K F W Z H (putF i h γ1) D) : D.nx (σ.set i (some v)) H1 := by
  unfold putF at p
  cases qq : notGh γ1 i with
  | false => rw [qq] at p; cases h <;> exact p.elim
  | true =>
    rw [qq] at p
    cases h with
    | cl j => exact p.elim
    | pv d => exact p Z _ H1 (s1.set (notGh_ne qq) r1) (Ext.of_kp k1)
    | nw d =>
      cases d with
      | list d => exact p Z _ H1 (s1.unpl.set (notGh_ne qq) r1.rep) (Ext.of_kp k1)
      | _ => exact p.elim
theorem asgT_ok {ts : List Nat} {g : SG} {d : PyData} (s1 : SR K F Z γ1 σ H1) (k1 : Kp Z H H1) (r1 : Rep K (av F Z) H1 v d) (p : PostS K F W Z H (nxO (g d γ1)) D) : TG K F ts g v σ H1 D.nx := by
  refine ⟨Z, γ1, d, s1, r1, ?_⟩
  cases q : g d γ1 with
  | none => rw [q] at p; exact p.elim
  | some γ2 =>
    rw [q] at p
    exact fun σ' s' _ => p Z σ' H1 s' (Ext.of_kp k1)
theorem putT_ok {ts : List Nat} {g : SG} {h : Hd} (s1 : SR K (F.pl v h) Z γ1 σ H1) (k1 : Kp Z H H1) (r1 : HdOk K F Z H1 σ v h) (p : PostS K F W Z H (putT g h γ1) D) : TG K F ts g v σ H1 D.nx := by
  cases h with
  | cl j => exact p.elim
  | pv d => exact asgT_ok s1 k1 r1 p
  | nw d =>
    cases d with
    | list d => exact asgT_ok s1.unpl k1 r1.rep p
    | _ => exact p.elim
theorem gs_set {i : Nat} {x : Str} {e : Expr} {f : SE} {pos' : Pos} (hN : X.N.Nodup) (hi : X.N[i]? = some x) (hx : Loc X.env.scope x) (he : GE X e f) (hs : swapsWith e (some (.Name x pos')) pos.line X.env = pure false := by rfl)
    (hf : X.fn x = true ∨ X.env.scope.names.lookup x = some .local := by first | exact .inl rfl | exact .inr rfl | assumption) : GS X (.Assign [.Name x pos'] e pos) (sAsg i f) := ⟨fun F W tk => (ps_set hN hi hx (he.run F W tk) hs hf).weak fun D σ H ⟨Z, γ, s, p⟩ =>
  ⟨Z, γ, s, p.bindE.mono fun v H1 ⟨h1, γ1, _, s1, k1, r1, n1, p1⟩ => asg_ok s1 k1 r1 n1 p1⟩⟩
theorem gs_setF {i : Nat} {x : Str} {e : Expr} {f : SE} {pos' : Pos} (hN : X.N.Nodup) (hi : X.N[i]? = some x) (hx : Loc X.env.scope x) (he : GE X e f) (hs : swapsWith e (some (.Name x pos')) pos.line X.env = pure false := by rfl)
    (hf : X.fn x = true ∨ X.env.scope.names.lookup x = some .local := by first | exact .inl rfl | exact .inr rfl | assumption) : GS X (.Assign [.Name x pos'] e pos) (sAsgF i f) := ⟨fun F W tk => (ps_set hN hi hx (he.run F W tk) hs hf).weak fun D σ H ⟨Z, γ, s, p⟩ =>
  ⟨Z, γ, s, p.bindE.mono fun v H1 ⟨h1, γ1, _, s1, k1, r1, n1, p1⟩ => asgF_ok s1 k1 r1 p1⟩⟩
theorem gs_setT {tg e : Expr} {ts : List Nat} {g : SG} {f : SE} (he : GE X e f) (hg : GG X tg ts g) (hs : swapsWithSole [tg] e pos.line X.env = pure false := by rfl) (hw : swappedStores [tg] e X.env = pure none := by rfl)
    (h1 : (assignEach [tg] X.env).map (·.2) = [assign tg X.env] := by rfl) : GS X (.Assign [tg] e pos) (sAsgT g f) := ⟨fun F W tk => (ps_asg (he.run F W tk) (hg.run F) hs hw h1).weak fun D σ H ⟨Z, γ, s, p⟩ =>
  ⟨Z, γ, s, p.bindE.mono fun v H1 ⟨h1, γ1, _, s1, k1, r1, n1, p1⟩ => putT_ok s1 k1 r1 p1⟩⟩
end
end GL

set_option Elab.async false
set_option linter.all false
set_option autoImplicit false
set_option maxRecDepth 100000
set_option maxHeartbeats 2000000
namespace GL
open PySem PySem.Spec PyProof.Rows L2

/-! ### what is walked -/
/-- the iterator J gives these items, as long as S holds -/
structure ItOk (K : PySem.W.Frag) (J : It) (S : (Addr → Prop) → Hp → Prop) (ds : List D) : Prop where
  st : ∀ A H A' H', (∀ v d, Rep K A H v d → Rep K A' H' v d) → S A H → S A' H'
  go : ∀ A H (i : Nat) d, S A H → ds[i]? = some d → J.go i H ∧ ∀ x H', J.yld i H x H' → Same H H' ∧ Rep K A H' x d
  stop : ∀ A H, S A H → J.stop ds.length H
abbrev SI := List Sl → R (List D)
def PostI (K : PySem.W.Frag) (F : Fr) (W : WX) (Z : List Addr) (σ : L2.St) (H : Hp) (r : R (List D)) (Q : It → Hp → Prop) : Prop := match r with
  | .ok ds γ' => ∀ J S H', SR K F Z γ' σ H' → Kp Z H H' → ItOk K J S ds → S (av F Z) H' → ds.length ≤ sizeLine → Q J H'
  | .ex c γ' => ∀ Z' σ' H', SR K F Z' γ' σ' H' → WOk K W c σ' H'
  | .no => False
def TI (K : PySem.W.Frag) (F : Fr) (W : WX) (f : SI) : L2.TI := fun σ H Q => ∃ Z γ, SR K F Z γ σ H ∧ PostI K F W Z σ H (f γ) Q
structure GI (X : Cx) (tg e : Expr) (f : SI) : Prop where
  run : ∀ (F : Fr) (W : WX), Takes X W → PI X tg e (TI X.K F W f)
theorem _root_.L2.PI.weak {X : Cx} {tg e : Expr} {t t' : L2.TI} (h : PI X tg e t) (w : ∀ σ H Q, t' σ H Q → t σ H Q) : PI X tg e t' := ⟨fun pins s σ H Q I q => h.run pins s σ H Q I (w σ H Q q)⟩
section
variable {X : Cx} {pos : Pos} {K : PySem.W.Frag} {F : Fr} {W : WX} {Z : List Addr} {γ : List Sl} {σ : L2.St} {H H' : Hp} {tg : Expr}
theorem PostI.bindE {Q : It → Hp → Prop} {r : R Hd} {k : Hd → List Sl → R (List D)} (p : PostI K F W Z σ H (r.bind k) Q) :
    Post K F W Z σ H r (fun v H1 => ∃ h γ1, r = .ok h γ1 ∧ SR K F Z γ1 σ H1 ∧ Kp Z H H1 ∧ HdOk K F Z H1 σ v h ∧ PostI K F W Z σ H1 (k h γ1) Q) := by
  cases r with
  | no => exact p
  | ex c γ' => exact p
  | ok h γ1 =>
    intro v H1 s1 k1 r1 _
    refine ⟨h, γ1, rfl, s1.unpl, k1, r1, ?_⟩
    have p1 : PostI K F W Z σ H (k h γ1) Q := p
    cases e : k h γ1 with
    | no => rw [e] at p1; exact p1
    | ex c γ' => rw [e] at p1; exact p1
    | ok h2 γ2 =>
      rw [e] at p1
      exact fun J S H2 s2 k2 io st => p1 J S H2 s2 (k1.trans k2) io st
theorem PostI.bindA {Q : It → Hp → Prop} {r : R (List Hd)} {k : List Hd → List Sl → R (List D)} (p : PostI K F W Z σ H (r.bind k) Q) :
    PostA K F W Z σ H r (fun v H1 => ∃ h γ1, r = .ok h γ1 ∧ SR K F Z γ1 σ H1 ∧ Kp Z H H1 ∧ HdsOk K F Z H1 σ v h ∧ PostI K F W Z σ H1 (k h γ1) Q) := by
  cases r with
  | no => exact p
  | ex c γ' => exact p
  | ok h γ1 =>
    intro v H1 s1 k1 r1
    refine ⟨h, γ1, rfl, s1, k1, r1, ?_⟩
    have p1 : PostI K F W Z σ H (k h γ1) Q := p
    cases e : k h γ1 with
    | no => rw [e] at p1; exact p1
    | ex c γ' => rw [e] at p1; exact p1
    | ok h2 γ2 =>
      rw [e] at p1
      exact fun J S H2 s2 k2 io st => p1 J S H2 s2 (k1.trans k2) io st
theorem PostS.bindI {D : Ends} {r : R (List PyData)} {k : List PyData → List Sl → R Fl} (p : PostS K F W Z H (r.bind k) D) :
    PostI K F W Z σ H r (fun J H1 => ∃ ds S γ1, r = .ok ds γ1 ∧ SR K F Z γ1 σ H1 ∧ Kp Z H H1 ∧ ItOk K J S ds ∧ S (av F Z) H1 ∧ PostS K F W Z H (k ds γ1) D) := by
  cases r with
  | no => exact p
  | ex c γ' => exact p
  | ok ds γ1 => exact fun J S H1 s1 k1 io st _ => ⟨ds, S, γ1, rfl, s1, k1, io, st, p⟩
theorem Post.bindI {Q : VK} {r : R (List PyData)} {k : List PyData → List Sl → R Hd} (p : Post K F W Z σ H (r.bind k) Q) :
    PostI K F W Z σ H r (fun J H1 => ∃ ds S γ1, r = .ok ds γ1 ∧ SR K F Z γ1 σ H1 ∧ Kp Z H H1 ∧ ItOk K J S ds ∧ S (av F Z) H1 ∧ ds.length ≤ sizeLine ∧ Post K F W Z σ H (k ds γ1) Q) := by
  cases r with
  | no => exact p
  | ex c γ' => exact p
  | ok ds γ1 => exact fun J S H1 s1 k1 io st hl => ⟨ds, S, γ1, rfl, s1, k1, io, st, hl, p⟩
theorem PostI.mono {Q Q' : It → Hp → Prop} {r : R (List D)} (p : PostI K F W Z σ H r Q) (k : ∀ v H', Q v H' → Q' v H') : PostI K F W Z σ H r Q' := by
  cases r with
  | ok h γ' => exact fun J S H' a b c d e => k _ _ (p J S H' a b c d e)
  | ex c γ' => exact p
  | no => exact p

/-! #### a list, a tuple, a text -/
def iSeqT (K : PySem.W.Frag) (tl : TE) : L2.TI := fun σ H Q => tl σ H fun x H1 => (∃ a, x = .ref a ∧ (∃ xs, SqL K H1 a xs) ∧ Q (Itl K a) H1) ∨ (∃ a, x = .ref a ∧ (∃ xs, SqT K H1 a xs) ∧ Q (Itt K a) H1) ∨ ∃ z, x = .str z ∧ Q (Its z) H1
theorem pi_seqT {l : Expr} {tl : TE} (hl : PE X l tl) : PI X tg l (iSeqT X.K tl) := by
  refine ⟨fun pins s σ H R I h => ?_⟩
  refine thn (hl.run pins s σ H _ I h) fun v s1 ⟨x, H1, I1, r1, q1⟩ => ?_
  rcases q1 with ⟨a, e, ⟨xs, hq⟩, q⟩ | ⟨a, e, ⟨xs, hq⟩, q⟩ | ⟨z, e, q⟩
  · subst e
    cases r1
    obtain ⟨its, rv, p, hz⟩ := I1.list hq
    refine wpAny_pyIter_list p.isList ?_
    refine ⟨s1.heap.objs.size, [s1.heap.objs.size], _, _, H1, rfl, I1.kept (t' := s1.toks) fun b o e => Heap.get?_push_of_some _ e, turn_list a _, ⟨_, Heap.get?_push_size _ rfl, rfl, rfl⟩, fun b hb => ?_, q⟩
    have e : b = s1.heap.objs.size := by simpa using hb
    subst e
    exact I1.fpOk (Nat.le_refl _) (I1.hok.fresh (Nat.le_refl _))
  · subst e
    cases r1
    obtain ⟨its, rv, p, hz⟩ := I1.tuple hq
    refine wpAny_pyIter_tuple (show s1.heap.IsTuple a its.toArray from p) ?_
    refine ⟨s1.heap.objs.size, [s1.heap.objs.size], _, _, H1, rfl, I1.kept (t' := s1.toks) fun b o e => Heap.get?_push_of_some _ e, turn_tuple a _, ⟨_, Heap.get?_push_size _ rfl, rfl, rfl⟩, fun b hb => ?_, q⟩
    have e : b = s1.heap.objs.size := by simpa using hb
    subst e
    exact I1.fpOk (Nat.le_refl _) (I1.hok.fresh (Nat.le_refl _))
  · subst e
    obtain ⟨t, rfl⟩ := r1
    cases ha : z.cps.all (· < 128)
    · exact wpAny_pyIter_wide ha (pi_one (tk := s1.toks) I1 _ (turn_str _ z t "str_iterator" (.inr rfl)) ⟨_, Heap.get?_push_size _ rfl, rfl, rfl⟩ q)
    · exact wpAny_pyIter_ascii ha (pi_one (tk := s1.toks) I1 _ (turn_str _ z t "str_ascii_iterator" (.inl rfl)) ⟨_, Heap.get?_push_size _ rfl, rfl, rfl⟩ q)
/-- the signs of a text, as texts -/
def signsD (z : Str) : List D := z.cps.toList.map fun c => .str ⟨#[c]⟩
def iSeq (f : SE) : SI := fun γ => (f γ).bind fun h γ1 => match h with
  | .pv (.list ds) => .ok ds γ1
  | .pv (.tuple ds) => .ok ds γ1
  | .nw (.list ds) => .ok ds γ1
  | .pv (.str z) => if z.cps.size ≤ 16000000 then .ok (signsD z) γ1 else .no
  | _ => .no
theorem itl_ok {a : Addr} {ds : List D} : ItOk K (Itl K a) (fun A H => Rep K A H (.ref a) (.list ds)) ds where
  st := fun A H A' H' e r => e _ _ r
  go := fun A H i d r e => by
    obtain ⟨a', xs, ea, hz, h1, h2⟩ := r.lstL
    cases ea
    obtain ⟨v, e1, r1⟩ := h2.get e
    refine ⟨⟨_, v, h1, e1⟩, fun x H' ⟨eh, y⟩ => ?_⟩
    subst eh
    have e2 := y _ h1
    rw [e1] at e2
    cases e2
    exact ⟨Same.refl _, r1⟩
  stop := fun A H r => by
    obtain ⟨a', xs, ea, hz, h1, h2⟩ := r.lstL
    cases ea
    exact ⟨_, h1, Nat.le_of_eq h2.length⟩
theorem itt_ok {a : Addr} {ds : List D} : ItOk K (Itt K a) (fun A H => Rep K A H (.ref a) (.tuple ds)) ds where
  st := fun A H A' H' e r => e _ _ r
  go := fun A H i d r e => by
    cases r with
    | tup hz h1 h2 =>
      obtain ⟨v, e1, r1⟩ := h2.get e
      refine ⟨⟨_, v, h1.t, e1⟩, fun x H' ⟨eh, y⟩ => ?_⟩
      subst eh
      have e2 := y _ h1.t
      rw [e1] at e2
      cases e2
      exact ⟨Same.refl _, r1⟩
  stop := fun A H r => by
    cases r with
    | tup hz h1 h2 => exact ⟨_, h1.t, Nat.le_of_eq h2.length⟩
theorem its_ok {z : Str} : ItOk K (Its z) (fun _ _ => True) (signsD z) where
  st := fun _ _ _ _ _ _ => trivial
  go := fun A H i d _ e => by
    unfold signsD at e
    rw [List.getElem?_map] at e
    cases q : z.cps.toList[i]? with
    | none => rw [q] at e; cases e
    | some c =>
      rw [q] at e
      cases e
      have hi : i < z.cps.size := by
        have := (List.getElem?_eq_some_iff.mp q).1
        simpa using this
      refine ⟨hi, fun x H' ⟨eh, c', e2, ev⟩ => ?_⟩
      subst eh ev
      have e3 : z.cps[i]? = some c := by simpa using q
      rw [e3] at e2
      cases e2
      exact ⟨Same.refl _, .str _⟩
  stop := fun A H _ => by
    show z.cps.size ≤ (signsD z).length
    unfold signsD
    rw [List.length_map]
    simp
theorem gi_seq {e : Expr} {f : SE} (h : GE X e f) : GI X tg e (iSeq f) := ⟨fun F W tk => (pi_seqT (h.run F W tk)).weak fun σ H Q ⟨Z, γ, s, p⟩ => by
  refine ⟨Z, γ, s, p.bindE.mono fun v H1 ⟨h1, γ1, _, s1, k1, r1, p1⟩ => ?_⟩
  cases h1 with
  | cl i => exact p1.elim
  | nw d =>
    cases d with
    | list ds =>
      have r2 : Rep X.K (av F Z) H1 v (.list ds) := r1.rep
      obtain ⟨a, xs, rfl, hz, h1, h2⟩ := r2.lstL
      exact .inl ⟨_, rfl, ⟨_, h1⟩, p1 _ _ H1 s1 (Kp.refl _ _) itl_ok r2 (by rw [← h2.length]; exact hz)⟩
    | _ => exact p1.elim
  | pv d =>
    cases d with
    | list ds =>
      have r2 : Rep X.K (av F Z) H1 v (.list ds) := r1
      obtain ⟨a, xs, rfl, hz, h1, h2⟩ := r2.lstL
      exact .inl ⟨_, rfl, ⟨_, h1⟩, p1 _ _ H1 s1 (Kp.refl _ _) itl_ok r2 (by rw [← h2.length]; exact hz)⟩
    | tuple ds =>
      have r2 : Rep X.K (av F Z) H1 v (.tuple ds) := r1
      cases r2 with
      | tup hz h1 h2 => exact .inr (.inl ⟨_, rfl, ⟨_, h1.t⟩, p1 _ _ H1 s1 (Kp.refl _ _) itt_ok (.tup hz h1 h2) (by rw [← h2.length]; exact hz)⟩)
    | str z =>
      have r2 : Rep X.K (av F Z) H1 v (.str z) := r1
      cases r2
      have p1 : PostI X.K F W Z σ H1 (if z.cps.size ≤ 16000000 then .ok (signsD z) γ1 else .no) Q := p1
      by_cases hz : z.cps.size ≤ 16000000
      · rw [if_pos hz] at p1
        refine .inr (.inr ⟨_, rfl, p1 _ _ H1 s1 (Kp.refl _ _) its_ok trivial ?_⟩)
        unfold signsD
        rw [List.length_map, Array.length_toList]
        exact Nat.le_trans hz (by decide)
      · rw [if_neg hz] at p1
        exact p1.elim
    | _ => exact p1.elim⟩
/-! #### ranges -/
def rangeD (lo : Int) (n : Nat) : List D := (List.range n).map fun (i : Nat) => .int (lo + ((i : Nat) : Int))
theorem itr_ok {lo : Int} {n : Nat} : ItOk K (Itr lo n) (fun _ _ => True) (rangeD lo n) where
  st := fun _ _ _ _ _ _ => trivial
  go := fun A H i d _ e => by
    unfold rangeD at e
    rw [List.getElem?_map] at e
    cases q : (List.range n)[i]? with
    | none => rw [q] at e; cases e
    | some c =>
      rw [q] at e
      cases e
      have hi : i < n := by
        have := (List.getElem?_eq_some_iff.mp q).1
        simpa using this
      have hc : c = i := by
        rw [List.getElem?_range hi] at q
        exact (Option.some.inj q).symm
      subst hc
      refine ⟨hi, fun x H' ⟨eh, ev⟩ => ?_⟩
      subst eh ev
      exact ⟨Same.refl _, .int _⟩
  stop := fun A H _ => by
    show n ≤ (rangeD lo n).length
    unfold rangeD
    rw [List.length_map, List.length_range]
    exact Nat.le_refl _
def iRange1 (f : SA) : SI := fun γ => (f γ).bind fun hs γ1 => match hs with
  | [.pv (.int n)] => if n ≤ 1000000 ∧ -1000000 ≤ n then .ok (rangeD 0 n.toNat) γ1 else .no
  | _ => .no
def iRange2 (f : SA) : SI := fun γ => (f γ).bind fun hs γ1 => match hs with
  | [.pv (.int m), .pv (.int n)] => if n ≤ 1000000 ∧ -1000000 ≤ n ∧ 0 ≤ m ∧ m ≤ 1000000 then .ok (rangeD m (n - m).toNat) γ1 else .no
  | _ => .no
theorem gi_range1 {a : Expr} {f : SA} {p pos : Pos} (hg : Gl X "range") (hm : X.mg "range" = none) (ha : GA X [a] f) (hs : starEach [a] X.env = [(false, eval a X.env)] := by rfl) : GI X tg (.Call (.Name "range" p) [a] [] pos) (iRange1 f) :=
  ⟨fun F W tk => (pi_range1 hg hm (ha.run F W tk) hs).weak fun σ H Q ⟨Z, γ, s, p⟩ => by
    refine ⟨Z, γ, s, p.bindA.mono fun vs H1 ⟨hs, γ1, _, s1, k1, r1, p1⟩ => ?_⟩
    match hs, r1, p1 with
    | [.pv (.int n)], r1, p1 =>
      cases r1 with
      | cons q1 q2 =>
        cases q2
        have q3 : Rep X.K (av F Z) H1 _ (.int n) := q1
        cases q3
        have p1 : PostI X.K F W Z σ H1 (if n ≤ 1000000 ∧ -1000000 ≤ n then .ok (rangeD 0 n.toNat) γ1 else .no) Q := p1
        by_cases hn : n ≤ 1000000 ∧ -1000000 ≤ n
        · rw [if_pos hn] at p1
          refine ⟨n, rfl, by omega, by omega, p1 _ _ H1 s1 (Kp.refl _ _) itr_ok trivial ?_⟩
          unfold rangeD
          rw [List.length_map, List.length_range]
          exact Nat.le_trans (m := 1000000) (by omega) (by decide)
        · rw [if_neg hn] at p1
          exact p1.elim⟩
theorem gi_range2 {a b : Expr} {f : SA} {p pos : Pos} (hg : Gl X "range") (hm : X.mg "range" = none) (ha : GA X [a, b] f) (hs : starEach [a, b] X.env = [(false, eval a X.env), (false, eval b X.env)] := by rfl) (hs2 : starEach [b] X.env = [(false, eval b X.env)] := by rfl) : GI X tg (.Call (.Name "range" p) [a, b] [] pos) (iRange2 f) :=
  ⟨fun F W tk => (pi_range2 hg hm (ha.run F W tk) hs hs2).weak fun σ H Q ⟨Z, γ, s, p⟩ => by
    refine ⟨Z, γ, s, p.bindA.mono fun vs H1 ⟨hs, γ1, _, s1, k1, r1, p1⟩ => ?_⟩
    match hs, r1, p1 with
    | [.pv (.int m), .pv (.int n)], r1, p1 =>
      cases r1 with
      | cons q1 q2 =>
        cases q2 with
        | cons q2 q3 =>
          cases q3
          have q4 : Rep X.K (av F Z) H1 _ (.int m) := q1
          have q5 : Rep X.K (av F Z) H1 _ (.int n) := q2
          cases q4
          cases q5
          have p1 : PostI X.K F W Z σ H1 (if n ≤ 1000000 ∧ -1000000 ≤ n ∧ 0 ≤ m ∧ m ≤ 1000000 then .ok (rangeD m (n - m).toNat) γ1 else .no) Q := p1
          by_cases hn : n ≤ 1000000 ∧ -1000000 ≤ n ∧ 0 ≤ m ∧ m ≤ 1000000
          · rw [if_pos hn] at p1
            refine ⟨m, n, rfl, ⟨by omega, by omega, by omega, by omega⟩, p1 _ _ H1 s1 (Kp.refl _ _) itr_ok trivial ?_⟩
            unfold rangeD
            rw [List.length_map, List.length_range]
            exact Nat.le_trans (m := 1000000) (by omega) (by decide)
          · rw [if_neg hn] at p1
            exact p1.elim⟩
end

/-! ### for -/
def forget1 (γ : List Sl) (i : Nat) : List Sl := match notGh γ i with
  | true => γ.set i .un
  | false => γ
def forget (fg : List Nat) (γ : List Sl) : List Sl := fg.foldl forget1 γ
theorem forget1_len (γ : List Sl) (i : Nat) : (forget1 γ i).length = γ.length := by
  unfold forget1
  split
  · rw [List.length_set]
  · rfl
theorem forget1_ne {γ : List Sl} {i j : Nat} (h : i ≠ j) : (forget1 γ i)[j]? = γ[j]? := by
  unfold forget1
  split
  · rw [List.getElem?_set_ne h]
  · rfl
theorem forget1_gh {γ : List Sl} {i j : Nat} {c : OC} (h : γ[j]? = some (.ow true c)) : (forget1 γ i)[j]? = some (.ow true c) := by
  unfold forget1
  split
  · rename_i e
    by_cases q : i = j
    · subst q
      exact absurd h (notGh_ne e c)
    · rw [List.getElem?_set_ne q]
      exact h
  · exact h
theorem forget_len : ∀ (fg : List Nat) (γ : List Sl), (forget fg γ).length = γ.length
  | [], _ => rfl
  | i :: fg, γ => by
    show (forget fg (forget1 γ i)).length = γ.length
    rw [forget_len fg, forget1_len]
theorem forget_gh : ∀ (fg : List Nat) (γ : List Sl) (i : Nat) (c : OC), γ[i]? = some (.ow true c) → (forget fg γ)[i]? = some (.ow true c)
  | [], _, _, _, h => h
  | j :: fg, γ, i, c, h => forget_gh fg (forget1 γ j) i c (forget1_gh h)
theorem forget_at : ∀ (fg : List Nat) (γ : List Sl) (i : Nat) (s : Sl), (forget fg γ)[i]? = some s → s = .un ∨ γ[i]? = some s
  | [], _, _, _, h => .inr h
  | j :: fg, γ, i, s, h => by
    rcases forget_at fg (forget1 γ j) i s h with q | q
    · exact .inl q
    · by_cases e : j = i
      · subst e
        unfold forget1 at q
        split at q
        · rw [List.getElem?_set, if_pos rfl] at q
          split at q
          · cases q
            exact .inl rfl
          · cases q
        · exact .inr q
      · rw [forget1_ne e] at q
        exact .inr q
theorem SR.forgot {K : PySem.W.Frag} {F : Fr} {Z : List Addr} {γ : List Sl} {σ : L2.St} {H : Hp} (s : SR K F Z γ σ H) (fg : List Nat) : SR K F Z (GL.forget fg γ) σ H := s.forget (forget_len fg γ) (forget_at fg γ) (forget_gh fg γ)
def forL (g : SG) (b : SS) (fg : List Nat) : List D → SS
  | [], γ => .ok .nx (forget fg γ)
  | d :: ds, γ => match g d (forget fg γ) with
    | none => .no
    | some γ1 => (b γ1).bind fun fl γ2 => match fl with
      | .nx => forL g b fg ds γ2
      | .ct => forL g b fg ds γ2
      | .bk => .ok .nx (forget fg γ2)
      | .rt h => .ok (.rt h) γ2
def sFor (fi : SI) (g : SG) (b : SS) (fg : List Nat) : SS := fun γ => (fi γ).bind fun ds γ1 => forL g b fg ds γ1
theorem drop_some {ds : List D} {i : Nat} (h : i < ds.length) : ∃ d, ds[i]? = some d ∧ ds.drop i = d :: ds.drop (i + 1) := ⟨ds[i], List.getElem?_eq_getElem h, List.drop_eq_getElem_cons h⟩
theorem gs_for {X : Cx} {pos : Pos} {tg iter : Expr} {body : List Stmt} {ts : List Nat} {fi : SI} {g : SG} {b : SS} (fg : List Nat) (hp : PassesOwn (model X.prog X.w) X.A X.env X.xe) (hc : X.calm = true) (hi : GI X tg iter fi) (hg : GG X tg ts g) (hb : GSs X body b)
    (hs : ∀ x, foldedSetIterable iter X.env x = pure x := by intro _; rfl) : GS X (.For tg iter body [] pos) (sFor fi g b fg) := ⟨fun F W tk => (ps_for hp hc (hi.run F W tk) (hg.run F) (hb.run F W tk) hs).weak fun D σ H ⟨Z, γ, s, p⟩ => by
  refine ⟨Z, γ, s, (PostS.bindI p).mono fun J H1 ⟨ds, S, γ1, _, s1, k1, io, st, p1⟩ => ?_⟩
  refine ⟨fun i m σ' H' => m = ds.length - i ∧ i ≤ ds.length ∧ ∃ Z' γ', SR X.K F Z' γ' σ' H' ∧ Ext X.K F Z H1 Z' H' ∧ PostS X.K F W Z' H' (forL g b fg (ds.drop i) γ') D,
    ⟨ds.length, by rw [Nat.sub_zero], Nat.zero_le _, Z, γ1, s1, Ext.refl, PostS.later p1 (Ext.of_kp k1)⟩, ?_⟩
  rintro i m σ' H' ⟨rfl, hi, Z', γ', s', x', p'⟩
  have st' : S (av F Z') H' := io.st _ _ _ _ x' st
  by_cases hlt : i < ds.length
  · obtain ⟨d, ed, edr⟩ := drop_some hlt
    rw [edr] at p'
    obtain ⟨hgo, hy⟩ := io.go _ _ i d st' ed
    refine .inr ⟨hgo, fun σ2 H2 => ∃ Z2 γ2, SR X.K F Z2 γ2 σ2 H2 ∧ Ext X.K F Z H1 Z2 H2 ∧ PostS X.K F W Z2 H2 (forL g b fg (ds.drop (i + 1)) γ2) D, fun σ2 H2 ⟨Z2, γ2, a1, a2, a3⟩ => ⟨ds.length - (i + 1), by omega, rfl, hlt, Z2, γ2, a1, a2, a3⟩, fun x H2 yl => ?_⟩
    obtain ⟨sm, rx⟩ := hy x H2 yl
    refine ⟨Z', forget fg γ', d, (s'.same sm).forgot fg, rx, ?_⟩
    have p' : PostS X.K F W Z' H' (match g d (forget fg γ') with
      | none => .no
      | some γ1 => (b γ1).bind fun fl γ2 => match fl with
        | .nx => forL g b fg (ds.drop (i + 1)) γ2
        | .ct => forL g b fg (ds.drop (i + 1)) γ2
        | .bk => .ok .nx (forget fg γ2)
        | .rt h => .ok (.rt h) γ2) D := p'
    cases q : g d (forget fg γ') with
    | none => rw [q] at p'; exact p'.elim
    | some γ3 =>
      rw [q] at p'
      have p' : PostS X.K F W Z' H' ((b γ3).bind fun fl γ2 => match fl with
        | .nx => forL g b fg (ds.drop (i + 1)) γ2
        | .ct => forL g b fg (ds.drop (i + 1)) γ2
        | .bk => .ok .nx (forget fg γ2)
        | .rt h => .ok (.rt h) γ2) D := p'
      intro σ3 s3 _
      have x2 : Ext X.K F Z' H' Z' H2 := Ext.of_kp (Kp.of_same sm)
      refine ⟨Z', γ3, s3, ?_⟩
      cases q2 : b γ3 with
      | no => rw [q2] at p'; exact p'.elim
      | ex c γ4 => rw [q2] at p'; exact p'
      | ok fl γ4 =>
        rw [q2] at p'
        cases fl with
        | nx => exact fun Z4 σ4 H4 s4 x4 => ⟨Z4, γ4, s4, x'.trans (x2.trans x4), PostS.later p' (x2.trans x4)⟩
        | ct => exact fun Z4 σ4 H4 s4 x4 => ⟨Z4, γ4, s4, x'.trans (x2.trans x4), PostS.later p' (x2.trans x4)⟩
        | bk => exact fun Z4 σ4 H4 s4 x4 => p' Z4 σ4 H4 (s4.forgot fg) (x2.trans x4)
        | rt h => exact p'
  · have e : i = ds.length := by omega
    subst e
    refine .inl ⟨io.stop _ _ st', ?_⟩
    rw [List.drop_length] at p'
    exact p' Z' σ' H' (s'.forgot fg) Ext.refl⟩

/-! ### while -/
def whileN (c : SB) (b : SS) (fg : List Nat) : Nat → SS
  | 0, _ => .no
  | n + 1, γ => (c (forget fg γ)).bind fun t γ1 => match t with
    | false => .ok .nx γ1
    | true => (b γ1).bind fun fl γ2 => match fl with
      | .nx => whileN c b fg n γ2
      | .ct => whileN c b fg n γ2
      | .bk => .ok .nx (forget fg γ2)
      | .rt h => .ok (.rt h) γ2
theorem whileN_mono {c : SB} {b : SS} {fg : List Nat} : ∀ (n : Nat) (γ : List Sl), whileN c b fg n γ ≠ .no → whileN c b fg (n + 1) γ = whileN c b fg n γ
  | 0, γ, h => absurd rfl h
  | n + 1, γ, h => by
    have e : ∀ m, whileN c b fg (m + 1) γ = (c (forget fg γ)).bind fun t γ1 => match t with
      | false => .ok .nx γ1
      | true => (b γ1).bind fun fl γ2 => match fl with
        | .nx => whileN c b fg m γ2
        | .ct => whileN c b fg m γ2
        | .bk => .ok .nx (forget fg γ2)
        | .rt h => .ok (.rt h) γ2 := fun m => rfl
    rw [e n] at h ⊢
    rw [e (n + 1)]
    cases q : c (forget fg γ) with
    | no => rfl
    | ex x γ1 => rfl
    | ok t γ1 =>
      rw [q] at h
      cases t with
      | false => rfl
      | true =>
        have h : ((b γ1).bind fun fl γ2 => match fl with
          | .nx => whileN c b fg n γ2
          | .ct => whileN c b fg n γ2
          | .bk => .ok .nx (forget fg γ2)
          | .rt h => .ok (.rt h) γ2) ≠ .no := h
        show ((b γ1).bind fun fl γ2 => match fl with
          | .nx => whileN c b fg (n + 1) γ2
          | .ct => whileN c b fg (n + 1) γ2
          | .bk => .ok .nx (forget fg γ2)
          | .rt h => .ok (.rt h) γ2) = ((b γ1).bind fun fl γ2 => match fl with
          | .nx => whileN c b fg n γ2
          | .ct => whileN c b fg n γ2
          | .bk => .ok .nx (forget fg γ2)
          | .rt h => .ok (.rt h) γ2)
        cases q2 : b γ1 with
        | no => rfl
        | ex x γ2 => rfl
        | ok fl γ2 =>
          rw [q2] at h
          cases fl with
          | nx => exact whileN_mono n γ2 h
          | ct => exact whileN_mono n γ2 h
          | bk => rfl
          | rt h => rfl
theorem whileN_add {c : SB} {b : SS} {fg : List Nat} {n : Nat} {γ : List Sl} (h : whileN c b fg n γ ≠ .no) : ∀ k, whileN c b fg (n + k) γ = whileN c b fg n γ
  | 0 => rfl
  | k + 1 => by
    have ih := whileN_add h k
    have := whileN_mono (n + k) γ (by rw [ih]; exact h)
    rw [show n + (k + 1) = n + k + 1 from rfl, this, ih]
open Classical in
noncomputable def sWhile (c : SB) (b : SS) (fg : List Nat) : SS := fun γ => if h : ∃ n, whileN c b fg n γ ≠ .no then whileN c b fg h.choose γ else .no
theorem sWhile_eq {c : SB} {b : SS} {fg : List Nat} {n : Nat} {γ : List Sl} (h : whileN c b fg n γ ≠ .no) : sWhile c b fg γ = whileN c b fg n γ := by
  have h2 : ∃ n, whileN c b fg n γ ≠ .no := ⟨n, h⟩
  unfold sWhile
  rw [dif_pos h2]
  have a := whileN_add h2.choose_spec n
  have b := whileN_add h h2.choose
  rw [← a, ← b, Nat.add_comm]
theorem sWhile_ex {c : SB} {b : SS} {fg : List Nat} {γ : List Sl} (h : sWhile c b fg γ ≠ .no) : ∃ n, sWhile c b fg γ = whileN c b fg n γ := by
  by_cases h2 : ∃ n, whileN c b fg n γ ≠ .no
  · exact ⟨h2.choose, sWhile_eq h2.choose_spec⟩
  · unfold sWhile at h
    rw [dif_neg h2] at h
    exact absurd rfl h
theorem gs_while {X : Cx} {pos : Pos} {c : Expr} {body : List Stmt} {fc : SB} {b : SS} (fg : List Nat) (hp : PassesOwn (model X.prog X.w) X.A X.env X.xe) (hc : GB X c fc) (hb : GSs X body b) : GS X (.While c body [] pos) (sWhile fc b fg) := ⟨fun F W tk => (ps_while hp (hc.run F W tk) (hb.run F W tk)).weak fun D σ H ⟨Z, γ, s, p⟩ => by
  have hne : sWhile fc b fg γ ≠ .no := fun e => by
    rw [e] at p
    exact p
  obtain ⟨n, e⟩ := sWhile_ex hne
  rw [e] at p
  refine ⟨fun m σ' H' => ∃ Z' γ', SR X.K F Z' γ' σ' H' ∧ PostS X.K F W Z' H' (whileN fc b fg m γ') D, ⟨n, Z, γ, s, p⟩, ?_⟩
  rintro m σ' H' ⟨Z', γ', s', p'⟩
  cases m with
  | zero => exact p'.elim
  | succ m =>
    have p' : PostS X.K F W Z' H' ((fc (forget fg γ')).bind fun t γ1 => match t with
      | false => .ok .nx γ1
      | true => (b γ1).bind fun fl γ2 => match fl with
        | .nx => whileN fc b fg m γ2
        | .ct => whileN fc b fg m γ2
        | .bk => .ok .nx (forget fg γ2)
        | .rt h => .ok (.rt h) γ2) D := p'
    refine ⟨Z', forget fg γ', s'.forgot fg, p'.bindB.mono fun t H1 ⟨γ1, _, s1, k1, p1⟩ => ?_⟩
    cases t with
    | false => exact p1 Z' σ' H1 s1 (Ext.of_kp k1)
    | true =>
      have p1 : PostS X.K F W Z' H' ((b γ1).bind fun fl γ2 => match fl with
        | .nx => whileN fc b fg m γ2
        | .ct => whileN fc b fg m γ2
        | .bk => .ok .nx (forget fg γ2)
        | .rt h => .ok (.rt h) γ2) D := p1
      refine ⟨fun σ2 H2 => ∃ Z2 γ2, SR X.K F Z2 γ2 σ2 H2 ∧ PostS X.K F W Z2 H2 (whileN fc b fg m γ2) D, fun σ2 H2 a => ⟨m, Nat.lt_succ_self _, a⟩, Z', γ1, s1, ?_⟩
      have p2 := PostS.later p1 (Ext.of_kp k1)
      cases q2 : b γ1 with
      | no => rw [q2] at p2; exact p2.elim
      | ex c γ4 => rw [q2] at p2; exact p2
      | ok fl γ4 =>
        rw [q2] at p2
        cases fl with
        | nx => exact fun Z4 σ4 H4 s4 x4 => ⟨Z4, γ4, s4, PostS.later p2 x4⟩
        | ct => exact fun Z4 σ4 H4 s4 x4 => ⟨Z4, γ4, s4, PostS.later p2 x4⟩
        | bk => exact fun Z4 σ4 H4 s4 x4 => p2 Z4 σ4 H4 (s4.forgot fg) x4
        | rt h => exact p2⟩
end GL

set_option Elab.async false
set_option linter.all false
set_option autoImplicit false
set_option maxRecDepth 100000
set_option maxHeartbeats 2000000
namespace GL
open PySem PySem.Spec PyProof.Rows L2

/-! ### comprehensions -/
def R.bx {α β : Type} (r : R α) (k : α → List Sl → R β) : R β := match r with
  | .ok a γ => k a γ
  | _ => .no
def pv1 : Hd → Option D
  | .pv d => some d
  | .nw (.list d) => some (.list d)
  | _ => none
def noGhs (vs : List Nat) (γ : List Sl) : Bool := vs.all fun i => notGh γ i
def chk {α : Type} (vs : List Nat) (γ : List Sl) (r : R α) : R α := match noGhs vs γ with
  | true => r
  | false => .no
def lcL (g : SG) (c : SB) (f : SE) (vs : List Nat) : List D → List D → List Sl → R (List D)
  | [], acc, γ => .ok acc γ
  | d :: ds, acc, γ => match g d (forget vs γ) with
    | none => .no
    | some γ1 => (c γ1).bx fun t γ2 => match t with
      | false => chk vs γ2 (lcL g c f vs ds acc γ2)
      | true => (f γ2).bx fun h γ3 => match pv1 h with
        | some e => chk vs γ3 (lcL g c f vs ds (acc ++ [e]) γ3)
        | none => .no
def noCe (vs : List Nat) (γ : List Sl) : Bool := vs.all fun i => match γ[i]? with
  | some (.ce _ _) => false
  | some (.ow _ _) => false
  | _ => true
theorem noCe_gh {vs : List Nat} {γ : List Sl} (h : noCe vs γ = true) : noGhs vs γ = true := List.all_eq_true.mpr fun i m => ne_notGh fun c e => by
  have q := List.all_eq_true.mp h i m
  rw [e] at q
  cases q
theorem chk_ok {α : Type} {vs : List Nat} {γ : List Sl} {r : R α} (h : noGhs vs γ = true) : chk vs γ r = r := by
  unfold chk
  rw [h]
def restore (vs : List Nat) (γ1 γ2 : List Sl) : List Sl := vs.foldl (fun γ i => γ.set i (γ1.getD i .un)) γ2
def vLc (fi : SI) (g : SG) (c : SB) (f : SE) (vs : List Nat) : SE := fun γ => (fi γ).bind fun ds γ1 => match noCe vs γ1 with
  | true => (lcL g c f vs ds [] γ1).bind fun acc γ2 => .ok (.nw (.list acc)) (restore vs γ1 γ2)
  | false => .no
def cYes : SB := fun γ => .ok true γ
structure GTs (X : Cx) (ifs : List Expr) (f : SB) : Prop where
  run : ∀ (F : Fr) (W : WX), Takes X W → PTs X ifs (TB X.K F W f)
theorem _root_.L2.PTs.weak {X : Cx} {e : List Expr} {t t' : TT} (h : PTs X e t) (w : ∀ σ H Q, t' σ H Q → t σ H Q) : PTs X e t' := ⟨fun pins s σ H Q I q => h.run pins s σ H Q I (w σ H Q q)⟩
theorem gts_nil {X : Cx} : GTs X [] cYes := ⟨fun F W tk => pts_nil.weak fun σ H Q ⟨Z, γ, s, p⟩ => p H s (Kp.refl _ _)⟩
theorem gts_one {X : Cx} {c : Expr} {f : SB} (h : GB X c f) : GTs X [c] f := ⟨fun F W tk => pts_one (h.run F W tk)⟩

theorem forget_out : ∀ (fg : List Nat) (γ : List Sl) (i : Nat), i ∉ fg → (forget fg γ)[i]? = γ[i]?
  | [], _, _, _ => rfl
  | j :: fg, γ, i, h => by
    show (forget fg (forget1 γ j))[i]? = γ[i]?
    rw [forget_out fg _ i fun m => h (List.mem_cons_of_mem _ m), forget1_ne fun e => h (by rw [e]; exact List.mem_cons_self)]
theorem forget_in : ∀ (fg : List Nat) (γ : List Sl) (i : Nat) (s : Sl), i ∈ fg → (∀ c, γ[i]? ≠ some (.ow true c)) → (forget fg γ)[i]? = some s → s = .un
  | j :: fg, γ, i, s, h, n, e => by
    by_cases m : i ∈ fg
    · refine forget_in fg (forget1 γ j) i s m (fun c q => ?_) e
      by_cases z : j = i
      · subst z
        unfold forget1 at q
        rw [ne_notGh n] at q
        rw [List.getElem?_set, if_pos rfl] at q
        split at q
        · cases q
        · cases q
      · rw [forget1_ne z] at q
        exact n c q
    · have q : i = j := (List.mem_cons.mp h).resolve_right m
      subst q
      have e : (forget fg (forget1 γ i))[i]? = some s := e
      rw [forget_out fg _ i m] at e
      unfold forget1 at e
      rw [ne_notGh n, List.getElem?_set, if_pos rfl] at e
      split at e
      · cases e
        rfl
      · cases e
theorem wipe_out : ∀ (vs : List Nat) (σ : L2.St) (i : Nat), i ∉ vs → (wipe σ vs)[i]? = σ[i]?
  | [], _, _, _ => rfl
  | j :: vs, σ, i, h => by
    show ((wipe σ vs).set j none)[i]? = σ[i]?
    rw [List.getElem?_set_ne fun e => h (by rw [e]; exact List.mem_cons_self), wipe_out vs σ i fun m => h (List.mem_cons_of_mem _ m)]
theorem wipe_in : ∀ (vs : List Nat) (σ : L2.St) (i : Nat), i ∈ vs → (wipe σ vs)[i]? = if i < σ.length then some none else none
  | j :: vs, σ, i, h => by
    show ((wipe σ vs).set j none)[i]? = _
    by_cases e : j = i
    · subst e
      rw [List.getElem?_set, if_pos rfl, wipe_length]
    · rw [List.getElem?_set_ne e, wipe_in vs σ i ((List.mem_cons.mp h).resolve_left fun q => e q.symm)]
theorem wipe_eq {vs ts : List Nat} {σ σ2 : L2.St} (b : SameBut ts (wipe σ vs) σ2) (h : ∀ i ∈ ts, i ∈ vs) : wipe σ2 vs = wipe σ vs := by
  refine List.ext_getElem? fun i => ?_
  have hl : σ2.length = σ.length := b.1.trans (wipe_length σ vs)
  by_cases m : i ∈ vs
  · rw [wipe_in vs _ i m, wipe_in vs _ i m, hl]
  · rw [wipe_out vs _ i m, b.2 i fun q => m (h i q)]
theorem restore_at : ∀ (vs : List Nat) (γ1 γ2 : List Sl) (i : Nat) (s : Sl), (restore vs γ1 γ2)[i]? = some s → (i ∈ vs ∧ s = γ1.getD i .un) ∨ (i ∉ vs ∧ γ2[i]? = some s)
  | [], _, _, i, s, h => .inr ⟨(fun z => nomatch z), h⟩
  | j :: vs, γ1, γ2, i, s, h => by
    rcases restore_at vs γ1 (γ2.set j (γ1.getD j .un)) i s h with ⟨m, e⟩ | ⟨m, e⟩
    · exact .inl ⟨List.mem_cons_of_mem _ m, e⟩
    · by_cases q : j = i
      · subst q
        rw [List.getElem?_set, if_pos rfl] at e
        split at e
        · cases e
          exact .inl ⟨List.mem_cons_self, rfl⟩
        · cases e
      · rw [List.getElem?_set_ne q] at e
        exact .inr ⟨fun z => (List.mem_cons.mp z).elim (fun z => q z.symm) m, e⟩
theorem restore_out : ∀ (vs : List Nat) (γ1 γ2 : List Sl) (i : Nat), i ∉ vs → (restore vs γ1 γ2)[i]? = γ2[i]?
  | [], _, _, _, _ => rfl
  | j :: vs, γ1, γ2, i, h => by
    show (restore vs γ1 (γ2.set j (γ1.getD j .un)))[i]? = γ2[i]?
    rw [restore_out vs _ _ i fun m => h (List.mem_cons_of_mem _ m), List.getElem?_set_ne fun e => h (by rw [e]; exact List.mem_cons_self)]
theorem restore_len : ∀ (vs : List Nat) (γ1 γ2 : List Sl), (restore vs γ1 γ2).length = γ2.length
  | [], _, _ => rfl
  | j :: vs, γ1, γ2 => by
    show (restore vs γ1 (γ2.set j (γ1.getD j .un))).length = γ2.length
    rw [restore_len vs, List.length_set]
section
variable {X : Cx} {pos : Pos} {K : PySem.W.Frag} {F : Fr} {W : WX} {Z : List Addr} {γ γ1 γ2 : List Sl} {σ : L2.St} {H H1 H' : Hp}
theorem SR.wiped {vs : List Nat} (s : SR K F Z γ σ H) (hv : noGhs vs γ = true) : SR K F Z (GL.forget vs γ) (wipe σ vs) H where
  nst := s.nst.move (fun i gh c e => by
      by_cases m : i ∈ vs
      · cases forget_in vs γ i _ m (notGh_ne (List.all_eq_true.mp hv i m)) e
      · rw [forget_out vs γ i m] at e
        exact ⟨e, wipe_out vs σ i m⟩)
    (fun i c e => by
      have m : i ∉ vs := fun m => notGh_ne (List.all_eq_true.mp hv i m) c e
      exact ⟨(forget_out vs γ i m).trans e, wipe_out vs σ i m⟩)
    fun i b d a e es _ => by
      by_cases m : i ∈ vs
      · cases forget_in vs γ i _ m (notGh_ne (List.all_eq_true.mp hv i m)) e
      · rw [forget_out vs γ i m] at e
        rw [wipe_out vs σ i m] at es
        exact ⟨.inl ⟨b, d, e⟩, es⟩
  kp := s.kp
  zn := s.zn
  wz := s.wz
  dm := s.dm
  len := by rw [forget_len, wipe_length, s.len]
  at_ := fun i sl e => by
    by_cases m : i ∈ vs
    · rw [forget_in vs γ i sl m (notGh_ne (List.all_eq_true.mp hv i m)) e]
      trivial
    · rw [forget_out vs γ i m] at e
      rw [wipe_out vs σ i m]
      exact s.at_ i sl e
  ap := fun i j a b c d e h1 h2 h3 h4 => by
    by_cases mi : i ∈ vs
    · cases forget_in vs γ i _ mi (notGh_ne (List.all_eq_true.mp hv i mi)) h1
    · by_cases mj : j ∈ vs
      · cases forget_in vs γ j _ mj (notGh_ne (List.all_eq_true.mp hv j mj)) h2
      · rw [forget_out vs γ i mi] at h1
        rw [forget_out vs γ j mj] at h2
        rw [wipe_out vs σ i mi] at h3
        rw [wipe_out vs σ j mj] at h4
        exact s.ap i j a b c d e h1 h2 h3 h4
/-- an avoided object is changed -/
theorem SR.updA {p : Addr} {o u : HO} (s : SR K F Z γ σ H) (hp : F.A p) (nz : p ∉ Z) (h0 : F.H0 p = none) (e : H p = some u) (mu : Mut (some u)) : SR K F Z γ σ (upd H p o) := by
  have k : Kp [p] H (upd H p o) := Kp.mut (List.mem_singleton_self _) e mu
  have hz : ∀ a ∈ [p], av F Z a := fun a m => by
    rw [List.mem_singleton.mp m]
    exact .inr hp
  refine ⟨fun a o1 e1 c => ?_, s.zn, s.wz, fun a ha => ?_, s.len, fun i sl ei => ?_, s.ap, s.nst.imp rfl (fun _ m => m) (fun v d r => Rep.keep k hz d v r) fun i gh c a _ _ m => upd_ne fun q => nz (by rw [← q]; exact m)⟩
  · have q : a ≠ p := fun q => by
      subst q
      rw [h0] at e1
      cases e1
    rw [upd_ne q]
    exact s.kp a o1 e1 c
  · by_cases q : a = p
    · subst q
      rw [upd_same]
      exact fun z => nomatch z
    · rw [upd_ne q]
      exact s.dm a ha
  · have r := s.at_ i sl ei
    cases sl with
    | un => trivial
    | va d =>
      obtain ⟨v, e1, r1⟩ := r
      exact ⟨v, e1, Rep.keep k hz d v r1⟩
    | ce b d =>
      obtain ⟨a, e1, m, m1, m2, r1⟩ := r
      refine ⟨a, e1, m, m1, m2, r1.keep k hz ?_⟩
      rw [upd_ne fun q => nz (by rw [← q]; exact m)]
    | ow gh c => trivial
theorem postB_ok {f : SB} {b : Bool} {γ' : List Sl} (e : f γ = .ok b γ') : PostB K F W Z σ H (f γ) (fun t H' => t = b ∧ SR K F Z γ' σ H' ∧ Kp Z H H') := by
  rw [e]
  exact fun H' s k => ⟨rfl, s, k⟩
theorem post_ok {f : SE} {h : Hd} {γ' : List Sl} (e : f γ = .ok h γ') : Post K F W Z σ H (f γ) (fun v H' => SR K F Z γ' σ H' ∧ Kp Z H H' ∧ HdOk K F Z H' σ v h) := by
  rw [e]
  exact fun v H' s k r _ => ⟨s.unpl, k, r⟩
theorem pv1_rep {h : Hd} {d : D} {v : V} (e : pv1 h = some d) (r : HdOk K F Z H σ v h) : Rep K (av F Z) H v d := by
  cases h with
  | cl i => cases e
  | pv d =>
    cases e
    exact r
  | nw d =>
    cases d with
    | list d =>
      cases e
      exact r.rep
    | _ => cases e
theorem pg_ex {tg : Expr} {ι : Type} {t : ι → L2.TG} (h : ∀ i, PG X tg (t i)) : PG X tg (fun v σ H Q => ∃ i, t i v σ H Q) := ⟨fun pins s σ H v u Q I r ⟨i, q⟩ => (h i).run pins s σ H v u Q I r q⟩
theorem pe_ex {e : Expr} {ι : Type} {t : ι → TE} (h : ∀ i, PE X e (t i)) : PE X e (fun σ H Q => ∃ i, t i σ H Q) := ⟨fun pins s σ H Q I ⟨i, q⟩ => (h i).run pins s σ H Q I q⟩
theorem pts_ex {e : List Expr} {ι : Type} {t : ι → TT} (h : ∀ i, PTs X e (t i)) : PTs X e (fun σ H Q => ∃ i, t i σ H Q) := ⟨fun pins s σ H Q I ⟨i, q⟩ => (h i).run pins s σ H Q I q⟩
def W0 : WX := fun _ _ _ _ => False
/-- what is known while a comprehension runs: γ1 ahead of it, the new list at p with acc -/
structure LcS (K : PySem.W.Frag) (F : Fr) (Z : List Addr) (σ : L2.St) (vs : List Nat) (H1 : Hp) (p : Addr) (γ' : List Sl) (acc : List D) (H' : Hp) : Prop where
  gh : noGhs vs γ' = true
  sr : SR K (F.plus (.ref p)) Z (GL.forget vs γ') (wipe σ vs) H'
  kp : Kp Z H1 H'
  at_ : ∃ xs, H' p = some (.lst xs) ∧ Reps K (av (F.plus (.ref p)) Z) H' xs acc
theorem avp {p : Addr} : av (F.plus (.ref p)) Z p := .inr (.inl rfl)
theorem av_plus {p a : Addr} (h : av (F.plus (.ref p)) Z a) : a = p ∨ av F Z a := by
  rcases h with h | h | h
  · exact .inr (.inl h)
  · cases h
    exact .inl rfl
  · exact .inr (.inr h)
theorem ext_plus {p : Addr} (hp : H1 p = none) (k : Kp Z H1 H') : ∀ v d, Rep K (av F Z) H1 v d → Rep K (av (F.plus (.ref p)) Z) H' v d := fun v d r =>
  Rep.keep k (fun a m => .inl m) d v ((Rep.more hp d v r).weak fun a => av_plus)
theorem restore_sr {F' : Fr} {vs : List Nat} (s1 : SR K F Z γ1 σ H1) (hn : noCe vs γ1 = true) (hgh : noGhs vs γ2 = true) (hx : ∀ v d, Rep K (av F Z) H1 v d → Rep K (av F' Z) H' v d) (s2 : SR K F' Z (GL.forget vs γ2) (wipe σ vs) H') : SR K F' Z (restore vs γ1 γ2) σ H' := by
  have nst : Nest K (F') Z (restore vs γ1 γ2) σ H' := by
    refine s2.nst.move (fun i gh c ei => ?_) (fun i c ei => ?_) fun i b d a ei es _ => ?_
    · rcases restore_at vs γ1 γ2 i _ ei with ⟨m, eq⟩ | ⟨m, eq⟩
      · have hq := List.all_eq_true.mp hn i m
        cases e1 : γ1[i]? with
        | none =>
          rw [List.getD_eq_getElem?_getD, e1] at eq
          cases eq
        | some s0 =>
          rw [List.getD_eq_getElem?_getD, e1] at eq
          have eq : Sl.ow gh c = s0 := eq
          subst eq
          rw [e1] at hq
          cases hq
      · exact ⟨(forget_out vs γ2 i m).trans eq, (wipe_out vs σ i m).symm⟩
    · have m : i ∉ vs := fun m => by cases forget_in vs γ2 i _ m (notGh_ne (List.all_eq_true.mp hgh i m)) ei
      rw [forget_out vs γ2 i m] at ei
      exact ⟨(restore_out vs γ1 γ2 i m).trans ei, (wipe_out vs σ i m).symm⟩
    · rcases restore_at vs γ1 γ2 i _ ei with ⟨m, eq⟩ | ⟨m, eq⟩
      · have hq := List.all_eq_true.mp hn i m
        cases e1 : γ1[i]? with
        | none =>
          rw [List.getD_eq_getElem?_getD, e1] at eq
          cases eq
        | some s0 =>
          rw [List.getD_eq_getElem?_getD, e1] at eq
          have eq : Sl.ce b d = s0 := eq
          subst eq
          rw [e1] at hq
          cases hq
      · exact ⟨.inl ⟨b, d, (forget_out vs γ2 i m).trans eq⟩, (wipe_out vs σ i m).trans es⟩
  refine ⟨s2.kp, s2.zn, s2.wz, s2.dm, ?_, fun i sl ei => ?_, fun i j a b c d e h1 h2 h3 h4 => ?_, nst⟩
  · have := s2.len
    rw [forget_len, wipe_length] at this
    rw [restore_len, this]
  · rcases restore_at vs γ1 γ2 i sl ei with ⟨m, es⟩ | ⟨m, es⟩
    · cases e1 : γ1[i]? with
      | none =>
        have : sl = .un := by
          rw [es, List.getD_eq_getElem?_getD, e1]
          rfl
        rw [this]
        trivial
      | some s0 =>
        have e2 : sl = s0 := by
          rw [es, List.getD_eq_getElem?_getD, e1]
          rfl
        subst e2
        have hq := List.all_eq_true.mp hn i m
        cases sl with
        | un => trivial
        | ce b d =>
          rw [e1] at hq
          cases hq
        | ow gh c => trivial
        | va d =>
          obtain ⟨v, ev, rv⟩ := s1.va e1
          exact ⟨v, ev, hx v d rv⟩
    · have r2 := s2.at_ i sl (by rw [forget_out vs γ2 i m]; exact es)
      rw [wipe_out vs σ i m] at r2
      exact r2
  · have side : ∀ (u : Nat) (y : Bool) (w : D), (restore vs γ1 γ2)[u]? = some (.ce y w) → u ∉ vs ∧ γ2[u]? = some (.ce y w) := fun u y w hu => by
      rcases restore_at vs γ1 γ2 u _ hu with ⟨m, es⟩ | ⟨m, es⟩
      · have hq := List.all_eq_true.mp hn u m
        cases e1 : γ1[u]? with
        | none =>
          rw [List.getD_eq_getElem?_getD, e1] at es
          cases es
        | some s0 =>
          rw [List.getD_eq_getElem?_getD, e1] at es
          have es : Sl.ce y w = s0 := es
          subst es
          rw [e1] at hq
          cases hq
      · exact ⟨m, es⟩
    obtain ⟨m1, g1⟩ := side i b d h1
    obtain ⟨m2, g2⟩ := side j c e h2
    refine s2.ap i j a b c d e (by rw [forget_out vs γ2 i m1]; exact g1) (by rw [forget_out vs γ2 j m2]; exact g2) (by rw [wipe_out vs σ i m1]; exact h3) (by rw [wipe_out vs σ j m2]; exact h4)
/-- the end of a comprehension -/
theorem lc_end {p : Addr} {vs : List Nat} {acc : List D} {Q : VK} (s1 : SR K F Z γ1 σ H1) (hp : H1 p = none) (hn : noCe vs γ1 = true) (k0 : Kp Z H H1) (x : LcS K F Z σ vs H1 p γ2 acc H') (hz : acc.length ≤ sizeLine)
    (q : Post K F W Z σ H (.ok (.nw (.list acc)) (restore vs γ1 γ2)) Q) : Q (.ref p) H' := by
  obtain ⟨hgh, s2, k, xs, e, r⟩ := x
  have np : ¬ av F Z p := fun z => s1.dm p z hp
  have n0 : F.H0 p = none := (s1.h0 hp).1
  refine q (.ref p) H' ?_ (k0.trans k) ⟨p, rfl, np, n0, .lst (by rw [r.length]; exact hz) e (r.weak fun a z => ?_)⟩ fun d _ b eb => ?_
  · exact restore_sr s1 hn hgh (ext_plus hp k) s2
  · rcases z with z | z | z
    · subst z
      exact avp
    · exact .inl z
    · exact .inr (.inr z)
  · cases eb
    cases e2 : H p with
    | none => rfl
    | some o =>
      by_cases hzz : p ∈ Z
      · exact absurd (.inl hzz) np
      · have e3 := k0 p o e2 (.inl hzz)
        rw [hp] at e3
        cases e3
theorem lc_run {ts vs : List Nat} {fi : SI} {g : SG} {c : SB} {f : SE} (hts : ∀ i ∈ ts, i ∈ vs) {Q : VK} (h : T K F W (vLc fi g c f vs) σ H Q) :
    tLc (TI K F W fi) (fun v σ H Q => ∃ F, TG K F ts g v σ H Q) (fun σ H Q => ∃ F, TB K F W0 c σ H Q) (fun σ H Q => ∃ F, T K F W0 f σ H Q) vs σ H Q := by
  obtain ⟨Z, γ, s, p⟩ := h
  refine ⟨Z, γ, s, (Post.bindI p).mono fun J H1 ⟨ds, S, γ1, _, s1, k1, io, st, hl, p1⟩ => ?_⟩
  intro Dl hD
  cases hn : noCe vs γ1 with
  | false =>
    rw [hn] at p1
    exact p1.elim
  | true =>
    rw [hn] at p1
    have np : ¬ av F Z Dl := fun z => s1.dm Dl z hD
    have nz : Dl ∉ Z := fun z => np (.inl z)
    have n0 : F.H0 Dl = none := (s1.h0 hD).1
    have s2 : SR K (F.plus (.ref Dl)) Z γ1 σ (upd H1 Dl (.lst [])) := s1.plus hD (same_new hD) (by rw [upd_same]; exact fun z => nomatch z)
    refine ⟨fun i m H' => m = ds.length - i ∧ i ≤ ds.length ∧ ∃ γ' acc, LcS K F Z σ vs H1 Dl γ' acc H' ∧ acc.length ≤ i ∧ Post K F W Z σ H ((lcL g c f vs (ds.drop i) acc γ').bind fun acc γ2 => .ok (.nw (.list acc)) (restore vs γ1 γ2)) Q,
      ⟨ds.length, by rw [Nat.sub_zero], Nat.zero_le _, γ1, [], ⟨noCe_gh hn, s2.wiped (noCe_gh hn), Kp.new hD, [], upd_same, .nil⟩, Nat.zero_le _, p1⟩, ?_⟩
    rintro i m H' ⟨rfl, hi', γ', acc, x, ha, p'⟩
    have st' : S (av (F.plus (.ref Dl)) Z) H' := io.st _ _ _ _ (ext_plus hD x.kp) st
    by_cases hlt : i < ds.length
    · obtain ⟨d, ed, edr⟩ := drop_some hlt
      rw [edr] at p'
      obtain ⟨hgo, hy⟩ := io.go _ _ i d st' ed
      refine .inr ⟨hgo, fun H2 => ∃ γ' acc, LcS K F Z σ vs H1 Dl γ' acc H2 ∧ acc.length ≤ i + 1 ∧ Post K F W Z σ H ((lcL g c f vs (ds.drop (i + 1)) acc γ').bind fun acc γ2 => .ok (.nw (.list acc)) (restore vs γ1 γ2)) Q,
        fun H2 ⟨γ2, acc2, a1, a2, a3⟩ => ⟨ds.length - (i + 1), by omega, rfl, hlt, γ2, acc2, a1, a2, a3⟩, fun v H2 yl => ?_⟩
      obtain ⟨sm, rx⟩ := hy v H2 yl
      have p' : Post K F W Z σ H ((match g d (GL.forget vs γ') with
        | none => .no
        | some γ1 => (c γ1).bx fun t γ2 => match t with
          | false => chk vs γ2 (lcL g c f vs (ds.drop (i + 1)) acc γ2)
          | true => (f γ2).bx fun h γ3 => match pv1 h with
            | some e => chk vs γ3 (lcL g c f vs (ds.drop (i + 1)) (acc ++ [e]) γ3)
            | none => .no : R (List PyData)).bind fun acc γ2 => .ok (.nw (.list acc)) (restore vs γ1 γ2)) Q := p'
      refine ⟨F.plus (.ref Dl), Z, GL.forget vs γ', d, x.sr.same sm, rx, ?_⟩
      cases q : g d (GL.forget vs γ') with
      | none => rw [q] at p'; exact p'.elim
      | some γ3 =>
        rw [q] at p'
        have p' : Post K F W Z σ H (((c γ3).bx fun t γ2 => match t with
          | false => chk vs γ2 (lcL g c f vs (ds.drop (i + 1)) acc γ2)
          | true => (f γ2).bx fun h γ3 => match pv1 h with
            | some e => chk vs γ3 (lcL g c f vs (ds.drop (i + 1)) (acc ++ [e]) γ3)
            | none => .no : R (List PyData)).bind fun acc γ2 => .ok (.nw (.list acc)) (restore vs γ1 γ2)) Q := p'
        intro σ3 s3 sb
        have ew : wipe σ3 vs = wipe σ vs := wipe_eq sb hts
        refine ⟨ew, ?_⟩
        cases q2 : c γ3 with
        | no => rw [q2] at p'; exact p'.elim
        | ex z γ4 => rw [q2] at p'; exact p'.elim
        | ok t γ4 =>
          rw [q2] at p'
          refine ⟨F.plus (.ref Dl), Z, γ3, s3, (postB_ok q2).mono fun t' H3 ⟨et, s4, k4⟩ => ?_⟩
          subst et
          obtain ⟨xs, e0, r0⟩ := x.at_
          have k3 : Kp Z H' H3 := (Kp.of_same sm).trans k4
          have e3 : H3 Dl = some (.lst xs) := k3 Dl _ e0 (.inl nz)
          have r3 : Reps K (av (F.plus (.ref Dl)) Z) H3 xs acc := Reps.keep k3 avZ _ _ r0
          cases t' with
          | false =>
            have hg4 : noGhs vs γ4 = true := by
              cases hq : noGhs vs γ4 with
              | true => rfl
              | false =>
                have p' : Post K F W Z σ H ((chk vs γ4 (lcL g c f vs (ds.drop (i + 1)) acc γ4)).bind fun acc γ2 => .ok (.nw (.list acc)) (restore vs γ1 γ2)) Q := p'
                unfold chk at p'
                rw [hq] at p'
                exact p'.elim
            have sw := s4.wiped (vs := vs) hg4
            rw [ew] at sw
            have p' : Post K F W Z σ H ((chk vs γ4 (lcL g c f vs (ds.drop (i + 1)) acc γ4)).bind fun acc γ2 => .ok (.nw (.list acc)) (restore vs γ1 γ2)) Q := p'
            rw [chk_ok hg4] at p'
            exact ⟨γ4, acc, ⟨hg4, sw, x.kp.trans k3, xs, e3, r3⟩, by omega, p'⟩
          | true =>
            have p' : Post K F W Z σ H (((f γ4).bx fun h γ3 => match pv1 h with
              | some e => chk vs γ3 (lcL g c f vs (ds.drop (i + 1)) (acc ++ [e]) γ3)
              | none => .no : R (List PyData)).bind fun acc γ2 => .ok (.nw (.list acc)) (restore vs γ1 γ2)) Q := p'
            rw [if_pos rfl]
            cases q3 : f γ4 with
            | no => rw [q3] at p'; exact p'.elim
            | ex z γ5 => rw [q3] at p'; exact p'.elim
            | ok h γ5 =>
              rw [q3] at p'
              have p' : Post K F W Z σ H ((match pv1 h with
                | some e => chk vs γ5 (lcL g c f vs (ds.drop (i + 1)) (acc ++ [e]) γ5)
                | none => .no : R (List PyData)).bind fun acc γ2 => .ok (.nw (.list acc)) (restore vs γ1 γ2)) Q := p'
              refine ⟨F.plus (.ref Dl), Z, γ4, s4, (post_ok q3).mono fun y H4 ⟨s5, k5, r5⟩ => ?_⟩
              cases q4 : pv1 h with
              | none => rw [q4] at p'; exact p'.elim
              | some e =>
                rw [q4] at p'
                have ry := pv1_rep q4 r5
                have e4 : H4 Dl = some (.lst xs) := k5 Dl _ e3 (.inl nz)
                have r4 : Reps K (av (F.plus (.ref Dl)) Z) H4 xs acc := Reps.keep k5 avZ _ _ r3
                have hlen := r4.length
                have kd : Kp [Dl] H4 (upd H4 Dl (.lst (xs ++ [y]))) := Kp.mut (List.mem_singleton_self _) e4 trivial
                have hz : ∀ a ∈ [Dl], av (F.plus (.ref Dl)) Z a := fun a m => by
                  rw [List.mem_singleton.mp m]
                  exact avp
                have hg5 : noGhs vs γ5 = true := by
                  cases hq : noGhs vs γ5 with
                  | true => rfl
                  | false =>
                    have p' : Post K F W Z σ H ((chk vs γ5 (lcL g c f vs (ds.drop (i + 1)) (acc ++ [e]) γ5)).bind fun acc γ2 => .ok (.nw (.list acc)) (restore vs γ1 γ2)) Q := p'
                    unfold chk at p'
                    rw [hq] at p'
                    exact p'.elim
                have p' : Post K F W Z σ H ((chk vs γ5 (lcL g c f vs (ds.drop (i + 1)) (acc ++ [e]) γ5)).bind fun acc γ2 => .ok (.nw (.list acc)) (restore vs γ1 γ2)) Q := p'
                rw [chk_ok hg5] at p'
                refine ⟨xs, e4, by omega, γ5, acc ++ [e], ⟨hg5, ?_, fun a o ea ca => ?_, xs ++ [y], upd_same, ?_⟩, by rw [List.length_append, List.length_singleton]; omega, p'⟩
                · have sw := (s5.updA (o := .lst (xs ++ [y])) (.inl rfl) nz n0 e4 trivial).wiped (vs := vs) hg5
                  rw [ew] at sw
                  exact sw
                · have na : a ≠ Dl := fun z => by
                    subst z
                    rw [hD] at ea
                    cases ea
                  rw [upd_ne na]
                  exact ((x.kp.trans k3).trans k5) a o ea ca
                · exact (Reps.keep kd hz _ _ r4).append (.cons (Rep.keep kd hz _ _ ry) .nil)
    · have e : i = ds.length := by omega
      subst e
      refine .inl ⟨io.stop _ _ st', ?_⟩
      rw [List.drop_length] at p'
      exact lc_end s1 hD hn k1 x (Nat.le_trans ha hl) p'
theorem ge_lc {elt tg iter : Expr} {ifs : List Expr} {scope : Scope} {own : List (Str × Nat)} {ts : List Nat} {fi : SI} {g : SG} {c : SB} {f : SE} (hc : X.calm = true) (hN : X.N.Nodup) (hi : GI X tg iter fi) (ok : BlkOk X.N X.env.scope scope own)
    (hg : ∀ (s : Shared) (H : Hp) (C : Addr) (cl : List (Str × Addr)) (fp : List Addr), GG (X.blk s H scope (compEnvC scope cl C X.env) fp) tg ts g)
    (ht : ∀ (s : Shared) (H : Hp) (C : Addr) (cl : List (Str × Addr)) (fp : List Addr), GTs (X.blk s H scope (compEnvC scope cl C X.env) fp) ifs c)
    (he : ∀ (s : Shared) (H : Hp) (C : Addr) (cl : List (Str × Addr)) (fp : List Addr), GE (X.blk s H scope (compEnvC scope cl C X.env) fp) elt f)
    (hts : ∀ i ∈ ts, i ∈ own.map (·.2)) (hs : ∀ x, foldedSetIterable iter X.env x = pure x := by intro _; rfl) :
    GE X (.ListComp elt [⟨tg, iter, ifs, 0⟩] scope pos) (vLc fi g c f (own.map (·.2))) := ⟨fun F W tk => (pe_lc (g := fun v σ H Q => ∃ F, TG X.K F ts g v σ H Q) (tt := fun σ H Q => ∃ F, TB X.K F W0 c σ H Q) (te := fun σ H Q => ∃ F, T X.K F W0 f σ H Q)
      hc hN (hi.run F W tk) ok (fun s H C cl fp => pg_ex fun F => (hg s H C cl fp).run F) (fun s H C cl fp => pts_ex fun F => (ht s H C cl fp).run F W0 takes0) (fun s H C cl fp => pe_ex fun F => (he s H C cl fp).run F W0 takes0) hs).weak fun σ H Q h => lc_run hts h⟩
/-- name = [..] on one line -/
theorem gs_setLc {i : Nat} {y : Str} {py : Pos} {elt tg iter : Expr} {ifs : List Expr} {scope : Scope} {own : List (Str × Nat)} {spos : Pos} {ts : List Nat} {fi : SI} {g : SG} {c : SB} {f : SE} (hc : X.calm = true) (hN : X.N.Nodup) (hy : X.N[i]? = some y) (hyl : X.env.scope.names.lookup y = some .local)
    (hsw : swapsWith (.ListComp elt [⟨tg, iter, ifs, 0⟩] scope pos) (some (.Name y py)) spos.line X.env = pure true) (hi : GI X tg iter fi) (ok : BlkOk X.N X.env.scope scope own)
    (hg : ∀ (s : Shared) (H : Hp) (C : Addr) (cl : List (Str × Addr)) (fp : List Addr), GG (X.blk s H scope (compEnvC scope cl C X.env) fp) tg ts g)
    (ht : ∀ (s : Shared) (H : Hp) (C : Addr) (cl : List (Str × Addr)) (fp : List Addr), GTs (X.blk s H scope (compEnvC scope cl C X.env) fp) ifs c)
    (he : ∀ (s : Shared) (H : Hp) (C : Addr) (cl : List (Str × Addr)) (fp : List Addr), GE (X.blk s H scope (compEnvC scope cl C X.env) fp) elt f)
    (hts : ∀ i ∈ ts, i ∈ own.map (·.2)) (hs : ∀ x, foldedSetIterable iter X.env x = pure x := by intro _; rfl) :
    GS X (.Assign [.Name y py] (.ListComp elt [⟨tg, iter, ifs, 0⟩] scope pos) spos) (sAsg i (vLc fi g c f (own.map (·.2)))) := ⟨fun F W tk => (ps_setLc (g := fun v σ H Q => ∃ F, TG X.K F ts g v σ H Q) (tt := fun σ H Q => ∃ F, TB X.K F W0 c σ H Q) (te := fun σ H Q => ∃ F, T X.K F W0 f σ H Q)
      hc hN hy hyl hsw (hi.run F W tk) ok (fun s H C cl fp => pg_ex fun F => (hg s H C cl fp).run F) (fun s H C cl fp => pts_ex fun F => (ht s H C cl fp).run F W0 takes0) (fun s H C cl fp => pe_ex fun F => (he s H C cl fp).run F W0 takes0) hs).weak fun D σ H ⟨Z, γ, s, p⟩ =>
  lc_run hts ⟨Z, γ, s, p.bindE.mono fun v H1 ⟨h1, γ1, _, s1, k1, r1, n1, p1⟩ => asg_ok s1 k1 r1 n1 p1⟩⟩
theorem gs_setLcF {i : Nat} {y : Str} {py : Pos} {elt tg iter : Expr} {ifs : List Expr} {scope : Scope} {own : List (Str × Nat)} {spos : Pos} {ts : List Nat} {fi : SI} {g : SG} {c : SB} {f : SE} (hc : X.calm = true) (hN : X.N.Nodup) (hy : X.N[i]? = some y) (hyl : X.env.scope.names.lookup y = some .local)
    (hsw : swapsWith (.ListComp elt [⟨tg, iter, ifs, 0⟩] scope pos) (some (.Name y py)) spos.line X.env = pure true) (hi : GI X tg iter fi) (ok : BlkOk X.N X.env.scope scope own)
    (hg : ∀ (s : Shared) (H : Hp) (C : Addr) (cl : List (Str × Addr)) (fp : List Addr), GG (X.blk s H scope (compEnvC scope cl C X.env) fp) tg ts g)
    (ht : ∀ (s : Shared) (H : Hp) (C : Addr) (cl : List (Str × Addr)) (fp : List Addr), GTs (X.blk s H scope (compEnvC scope cl C X.env) fp) ifs c)
    (he : ∀ (s : Shared) (H : Hp) (C : Addr) (cl : List (Str × Addr)) (fp : List Addr), GE (X.blk s H scope (compEnvC scope cl C X.env) fp) elt f)
    (hts : ∀ i ∈ ts, i ∈ own.map (·.2)) (hs : ∀ x, foldedSetIterable iter X.env x = pure x := by intro _; rfl) :
    GS X (.Assign [.Name y py] (.ListComp elt [⟨tg, iter, ifs, 0⟩] scope pos) spos) (sAsgF i (vLc fi g c f (own.map (·.2)))) := ⟨fun F W tk => (ps_setLc (g := fun v σ H Q => ∃ F, TG X.K F ts g v σ H Q) (tt := fun σ H Q => ∃ F, TB X.K F W0 c σ H Q) (te := fun σ H Q => ∃ F, T X.K F W0 f σ H Q)
      hc hN hy hyl hsw (hi.run F W tk) ok (fun s H C cl fp => pg_ex fun F => (hg s H C cl fp).run F) (fun s H C cl fp => pts_ex fun F => (ht s H C cl fp).run F W0 takes0) (fun s H C cl fp => pe_ex fun F => (he s H C cl fp).run F W0 takes0) hs).weak fun D σ H ⟨Z, γ, s, p⟩ =>
  lc_run hts ⟨Z, γ, s, p.bindE.mono fun v H1 ⟨h1, γ1, _, s1, k1, r1, n1, p1⟩ => asgF_ok s1 k1 r1 p1⟩⟩
end
end GL

set_option Elab.async false
set_option linter.all false
set_option autoImplicit false
set_option maxRecDepth 100000
set_option maxHeartbeats 2000000
namespace GL
open PySem PySem.Spec PyProof.Rows L2

/-! ### defs and their calls -/
inductive RC where
  | ok (h : Hd) (os : List D) | ex (c : Str) (os : List D) | no
abbrev Fn := List D → RC
/-- the slots at the entry: io tells which parameters are cells of the caller that may be changed -/
def mkG : Nat → List Bool → List D → List Sl
  | n, [], _ => List.replicate n .un
  | n, _, [] => List.replicate n .un
  | 0, _, _ => []
  | n + 1, false :: io, d :: ds => .va d :: mkG n io ds
  | n + 1, true :: io, d :: ds => .ce true d :: mkG n io ds
def outs : List Bool → List Sl → Option (List D)
  | [], _ => some []
  | false :: io, _ :: γ => outs io γ
  | true :: io, .ce true d :: γ => (outs io γ).map (d :: ·)
  | _, _ => none
def finB (io : List Bool) (h : Hd) (γ : List Sl) : RC := match outs io γ with
  | some os => .ok h os
  | none => .no
def runB (n : Nat) (io : List Bool) (b : SS) : Fn := fun ds => match b (mkG n io ds) with
  | .ok (.rt h) γ' => finB io h γ'
  | .ok .nx γ' => finB io (.pv .none) γ'
  | .ex c γ' => (match outs io γ' with
    | some os => .ex c os
    | none => .no)
  | _ => .no
inductive ArgsOk (K : PySem.W.Frag) (av : Addr → Prop) (H : Hp) : List Bool → List V → List D → List Addr → Prop
  | nil : ArgsOk K av H [] [] [] []
  | pl {io : List Bool} {v : V} {vs : List V} {d : D} {ds : List D} {ws : List Addr} : Rep K av H v d → ArgsOk K av H io vs ds ws → ArgsOk K av H (false :: io) (v :: vs) (d :: ds) ws
  | io {io : List Bool} {a : Addr} {vs : List V} {d : D} {ds : List D} {ws : List Addr} : ObOk K av H a d → ArgsOk K av H io vs ds ws → ArgsOk K av H (true :: io) (.ref a :: vs) (d :: ds) (a :: ws)
inductive OutOk (K : PySem.W.Frag) (av : Addr → Prop) (H : Hp) : List Addr → List D → Prop
  | nil : OutOk K av H [] []
  | cons {a : Addr} {d : D} {ws : List Addr} {ds : List D} : ObOk K av H a d → OutOk K av H ws ds → OutOk K av H (a :: ws) (d :: ds)
def avR (W : List Addr) (A : Addr → Prop) (h : Hd) (v : V) : Addr → Prop := fun a => (∃ d, h = .nw d ∧ v = .ref a) ∨ a ∈ W ∨ A a
def ResOk (K : PySem.W.Frag) (W : List Addr) (A : Addr → Prop) (H H' : Hp) (v : V) : Hd → Prop
  | .pv d => Rep K (fun a => a ∈ W ∨ A a) H' v d
  | .nw d => ∃ p, v = .ref p ∧ H p = none ∧ ObOk K (fun a => a = p ∨ a ∈ W ∨ A a) H' p d
  | .cl _ => False
def spF (K : PySem.W.Frag) (io : List Bool) (m : Fn) : Sp := fun vs H Q E => ∃ (A : Addr → Prop) (W : List Addr) (ds : List D), ArgsOk K (fun a => a ∈ W ∨ A a) H io vs ds W ∧ W.Nodup ∧ (∀ a, (a ∈ W ∨ A a) → H a ≠ none) ∧ (match m ds with
  | .ok h os => ∀ v H', Kp W H H' → OutOk K (avR W A h v) H' W os → ResOk K W A H H' v h → Q v H'
  | .ex c os => ∀ d H', Kp W H H' → OutOk K (fun a => a ∈ W ∨ A a) H' W os → E (.ref (He.ga K c)) d H'
  | .no => False)
section
variable {K : PySem.W.Frag} {av av' : Addr → Prop} {H H' : Hp}
theorem ArgsOk.len : ∀ {io : List Bool} {vs : List V} {ds : List D} {ws : List Addr}, ArgsOk K av H io vs ds ws → vs.length = io.length
  | _, _, _, _, .nil => rfl
  | _, _, _, _, .pl _ t => by rw [List.length_cons, List.length_cons, t.len]
  | _, _, _, _, .io _ t => by rw [List.length_cons, List.length_cons, t.len]
/-- where the parameters' cells stand -/
def prm : List Bool → List V → Nat → Option Addr
  | true :: _, .ref a :: _, 0 => some a
  | _ :: io, _ :: vs, i + 1 => prm io vs i
  | _, _, _ => none
theorem prm_mem : ∀ {io : List Bool} {vs : List V} {ds : List D} {ws : List Addr}, ArgsOk K av H io vs ds ws → ∀ i a, prm io vs i = some a → a ∈ ws
  | _, _, _, _, .nil, i, a, e => by cases i <;> cases e
  | _, _, _, _, .pl _ t, 0, a, e => by cases e
  | _, _, _, _, .pl _ t, i + 1, a, e => prm_mem t i a e
  | _, _, _, _, .io _ t, 0, a, e => by
    cases e
    exact List.mem_cons_self
  | _, _, _, _, .io _ t, i + 1, a, e => List.mem_cons_of_mem _ (prm_mem t i a e)
theorem prm_inj : ∀ {io : List Bool} {vs : List V} {ds : List D} {ws : List Addr}, ArgsOk K av H io vs ds ws → ws.Nodup → ∀ i j a, prm io vs i = some a → prm io vs j = some a → i = j
  | _, _, _, _, .nil, _, i, _, _, e, _ => by cases i <;> cases e
  | _, _, _, _, .pl _ t, _, 0, _, _, e, _ => by cases e
  | _, _, _, _, .pl _ t, _, _ + 1, 0, _, _, e => by cases e
  | _, _, _, _, .pl _ t, n, i + 1, j + 1, a, e1, e2 => congrArg Nat.succ (prm_inj t n i j a e1 e2)
  | _, _, _, _, .io _ t, n, 0, 0, _, _, _ => rfl
  | _, _, _, _, .io _ t, n, 0, j + 1, a, e1, e2 => by
    cases e1
    exact absurd (prm_mem t j _ e2) (List.nodup_cons.mp n).1
  | _, _, _, _, .io _ t, n, i + 1, 0, a, e1, e2 => by
    cases e2
    exact absurd (prm_mem t i _ e1) (List.nodup_cons.mp n).1
  | _, _, _, _, .io _ t, n, i + 1, j + 1, a, e1, e2 => congrArg Nat.succ (prm_inj t (List.nodup_cons.mp n).2 i j a e1 e2)
theorem mkG_len : ∀ (n : Nat) (io : List Bool) (ds : List D), (mkG n io ds).length = n
  | n, [], _ => by simp [mkG]
  | n, false :: _, [] => by simp [mkG]
  | n, true :: _, [] => by simp [mkG]
  | 0, false :: _, _ :: _ => by simp [mkG]
  | 0, true :: _, _ :: _ => by simp [mkG]
  | n + 1, false :: io, d :: ds => by simp [mkG, mkG_len n io ds]
  | n + 1, true :: io, d :: ds => by simp [mkG, mkG_len n io ds]
theorem mkG_at : ∀ {io : List Bool} {vs : List V} {ds : List D} {ws : List Addr}, ArgsOk K av H io vs ds ws → ∀ (n i : Nat) (s : Sl), (mkG n io ds)[i]? = some s →
    s = .un ∨ (∃ v d, s = .va d ∧ vs[i]? = some v ∧ Rep K av H v d) ∨ (∃ a d, s = .ce true d ∧ vs[i]? = some (.ref a) ∧ prm io vs i = some a ∧ ObOk K av H a d)
  | _, _, _, _, .nil, n, i, s, e => by
    have e : (List.replicate n Sl.un)[i]? = some s := by simpa [mkG] using e
    rw [List.getElem?_replicate] at e
    split at e
    · cases e
      exact .inl rfl
    · cases e
  | _, _, _, _, .pl r t, 0, i, s, e => by simp [mkG] at e
  | _, _, _, _, .pl r t, n + 1, 0, s, e => by
    simp [mkG] at e
    subst e
    exact .inr (.inl ⟨_, _, rfl, rfl, r⟩)
  | _, _, _, _, .pl r t, n + 1, i + 1, s, e => by
    simp only [mkG, List.getElem?_cons_succ] at e
    rcases mkG_at t n i s e with q | ⟨v, d, q1, q2, q3⟩ | ⟨a, d, q1, q2, q3, q4⟩
    · exact .inl q
    · exact .inr (.inl ⟨v, d, q1, by simpa using q2, q3⟩)
    · exact .inr (.inr ⟨a, d, q1, by simpa using q2, q3, q4⟩)
  | _, _, _, _, .io r t, 0, i, s, e => by simp [mkG] at e
  | _, _, _, _, .io r t, n + 1, 0, s, e => by
    simp [mkG] at e
    subst e
    exact .inr (.inr ⟨_, _, rfl, rfl, rfl, r⟩)
  | _, _, _, _, .io r t, n + 1, i + 1, s, e => by
    simp only [mkG, List.getElem?_cons_succ] at e
    rcases mkG_at t n i s e with q | ⟨v, d, q1, q2, q3⟩ | ⟨a, d, q1, q2, q3, q4⟩
    · exact .inl q
    · exact .inr (.inl ⟨v, d, q1, by simpa using q2, q3⟩)
    · exact .inr (.inr ⟨a, d, q1, by simpa using q2, q3, q4⟩)
theorem start_at {N : List Str} {vs : List V} {i : Nat} {v : V} (h : vs[i]? = some v) : (start N vs)[i]? = some (some v) := by
  unfold L2.start
  have hl := (List.getElem?_eq_some_iff.mp h).1
  rw [List.getElem?_append_left (by simpa using hl), List.getElem?_map, h]
  rfl
theorem start_len {N : List Str} {vs : List V} (h : vs.length ≤ N.length) : (start N vs).length = N.length := by
  unfold L2.start
  rw [List.length_append, List.length_map, List.length_replicate]
  omega
/-- the entry -/
theorem sr_start {A : Addr → Prop} {W : List Addr} {io : List Bool} {vs : List V} {ds : List D} {N : List Str} (h : ArgsOk K (fun a => a ∈ W ∨ A a) H io vs ds W) (nd : W.Nodup) (dm : ∀ a, (a ∈ W ∨ A a) → H a ≠ none) (hl : vs.length ≤ N.length) :
    SR K { P := prm io vs, W := W, A := A, H0 := H } W (mkG N.length io ds) (start N vs) H where
  kp := Kp.refl _ _
  zn := fun a m => .inl m
  wz := fun a m => m
  dm := dm
  len := by rw [mkG_len, start_len hl]
  at_ := fun i s e => by
    rcases mkG_at h N.length i s e with q | ⟨v, d, q1, q2, q3⟩ | ⟨a, d, q1, q2, q3, q4⟩
    · subst q
      trivial
    · subst q1
      exact ⟨v, start_at q2, q3⟩
    · subst q1
      exact ⟨a, start_at q2, prm_mem h i a q3, fun z => (nomatch z), fun _ => q3, q4⟩
  ap := fun i j a b c d e h1 h2 h3 h4 => by
    rcases mkG_at h N.length i _ h1 with q | ⟨v, d', q1, _⟩ | ⟨a1, d', q1, q2, q3, q4⟩
    · cases q
    · cases q1
    · rcases mkG_at h N.length j _ h2 with q | ⟨v, d', r1, _⟩ | ⟨a2, d', r1, r2, r3, r4⟩
      · cases q
      · cases r1
      · rw [start_at q2] at h3
        rw [start_at r2] at h4
        cases h3
        cases h4
        exact prm_inj h nd i j _ q3 r3
  nst := Nest.none fun i gh c e => by
    rcases mkG_at h N.length i _ e with q | ⟨v, d', q1, _⟩ | ⟨a1, d', q1, _⟩
    · cases q
    · cases q1
    · cases q1
theorem outs_ok {P : Nat → Option Addr} {H' : Hp} : ∀ {io : List Bool} {vs : List V} {ds : List D} {ws : List Addr} {γ : List Sl} {os : List D} (off : Nat), ArgsOk K av H io vs ds ws → (∀ i a, prm io vs i = some a → P (off + i) = some a) →
    (∀ (i : Nat) d, γ[i]? = some (.ce true d) → ∃ a, P (off + i) = some a ∧ ObOk K av' H' a d) → outs io γ = some os → OutOk K av' H' ws os
  | _, _, _, _, γ, os, off, .nil, _, _, e => by
    have e : some ([] : List D) = some os := by simpa [outs] using e
    cases e
    exact .nil
  | _, _, _, _, [], os, off, .pl r t, _, _, e => by simp [outs] at e
  | _, _, _, _, s :: γ, os, off, .pl r t, hp, hg, e => by
    simp only [outs] at e
    refine outs_ok (P := P) (off + 1) t (fun i a q => ?_) (fun i d q => ?_) e
    · have := hp (i + 1) a q
      rw [show off + 1 + i = off + (i + 1) by omega]
      exact this
    · have := hg (i + 1) d (by simpa using q)
      rw [show off + 1 + i = off + (i + 1) by omega]
      exact this
  | _, _, _, _, [], os, off, .io r t, _, _, e => by simp [outs] at e
  | _, _, _, _, s :: γ, os, off, .io r t, hp, hg, e => by
    match s, e, hg with
    | .un, e, _ => simp [outs] at e
    | .va _, e, _ => simp [outs] at e
    | .ce false _, e, _ => simp [outs] at e
    | .ce true d, e, hg =>
      simp only [outs] at e
      obtain ⟨os', e2, rfl⟩ := Option.map_eq_some_iff.mp e
      obtain ⟨a, e3, o⟩ := hg 0 d rfl
      have e4 := hp 0 _ rfl
      rw [e3] at e4
      cases e4
      refine .cons o (outs_ok (P := P) (off + 1) t (fun i a q => ?_) (fun i d q => ?_) e2)
      · have := hp (i + 1) a q
        rw [show off + 1 + i = off + (i + 1) by omega]
        exact this
      · have := hg (i + 1) d (by simpa using q)
        rw [show off + 1 + i = off + (i + 1) by omega]
        exact this
end
section
variable {P : Program} {w : World} {K : PySem.W.Frag} {mg : Str → Option Value} {base : Heap}
/-- THE RULE: a def does what its body's semantics says -/
theorem fn_ok {x : Str} {params : Arguments} {body : List Stmt} {scope : Scope} {f : Addr} {fd : FuncData} {N ps : List Str} {io : List Bool} {k : Nat} {b : SS} (F : FunD K x x params body scope [] [] f fd) (S : FnScope N ps scope) (hio : io.length = ps.length)
    (hb : ∀ (cdv : Value) (A : Around) (outer : List Env) (s : Shared) (H : Hp) (E : XK), Room k (A.deeper (envOfC x scope s.heap.objs.size f cdv)) → GSs (cxOf (L2.CX P w) P w K mg base N x scope f cdv A outer s H E) body b) :
    FnOk P w K mg base (L2.CX P w) (k + 1) f fd ps (spF K io (runB N.length io b)) := by
  have hpl : ps.length ≤ N.length := by
    have := congrArg List.length S.pre
    rw [List.length_take] at this
    omega
  refine F.ok S (fun vs H Q E h => ?_) (fun cdv A outer s H vs Q E hr h => ?_)
  · obtain ⟨_, _, _, h1, _⟩ := h
    rw [h1.len, hio]
  · obtain ⟨Av, W, ds, h1, nd, dm, hm⟩ := h
    have tk : Takes (cxOf (L2.CX P w) P w K mg base N x scope f cdv A outer s H E) (fun cls d _ H => E cls d H) := takes_of rfl rfl rfl rfl
    have s0 := sr_start (N := N) h1 nd dm (by rw [h1.len, hio]; exact hpl)
    refine ⟨_, (hb cdv A outer s H E hr).run { P := prm io vs, W := W, A := Av, H0 := H } _ tk, W, _, s0, ?_⟩
    have hw : ∀ (Fr0 : Fr) (Z' : List Addr), Fr0.W = W → Fr0.A = Av → (∀ a ∈ W, a ∈ Z') → ∀ a, (a ∈ W ∨ Av a) → GL.av Fr0 Z' a := fun Fr0 Z' e1 e2 hz a q => by
      rcases q with q | q
      · exact .inl (hz a q)
      · exact .inr (by rw [e2]; exact q)
    have ho : ∀ (v : V) (hh : Hd) (Z' : List Addr) (γ' : List Sl) (σ' : L2.St) (H' : Hp) (os : List D), SR K (Fr.pl { P := prm io vs, W := W, A := Av, H0 := H } v hh) Z' γ' σ' H' → outs io γ' = some os → OutOk K (avR W Av hh v) H' W os := fun v hh Z' γ' σ' H' os s' e => by
      refine outs_ok (P := prm io vs) 0 h1 (fun i a q => by rw [Nat.zero_add]; exact q) (fun i d q => ?_) e
      obtain ⟨a, _, m, _, m2, o⟩ := SR.ce s' q
      refine ⟨a, ?_, o.weak fun b z => ?_⟩
      · have m3 := m2 rfl
        rw [Nat.zero_add]
        cases hh <;> exact m3
      · rcases z with ⟨d2, e2, e3⟩ | z | z
        · subst e2
          exact .inr (.inl e3)
        · refine .inl (SR.wz s' b ?_)
          cases hh <;> exact z
        · refine .inr ?_
          cases hh with
          | pv _ => exact z
          | cl _ => exact z
          | nw _ => exact .inr z
    have hm : (match (match b (mkG N.length io ds) with
      | .ok (.rt h) γ' => finB io h γ'
      | .ok .nx γ' => finB io (.pv .none) γ'
      | .ex c γ' => (match outs io γ' with
        | some os => .ex c os
        | none => .no)
      | _ => .no : RC) with
      | .ok h os => ∀ v H', Kp W H H' → OutOk K (avR W Av h v) H' W os → ResOk K W Av H H' v h → Q v H'
      | .ex c os => ∀ d H', Kp W H H' → OutOk K (fun a => a ∈ W ∨ Av a) H' W os → E (.ref (He.ga K c)) d H'
      | .no => False) := hm
    cases e : b (mkG N.length io ds) with
    | no => rw [e] at hm; exact hm.elim
    | ex c γ' =>
      rw [e] at hm
      intro Z' σ' H' s' d
      have hm : (match (match outs io γ' with
        | some os => RC.ex c os
        | none => .no) with
        | .ok h os => ∀ v H', Kp W H H' → OutOk K (avR W Av h v) H' W os → ResOk K W Av H H' v h → Q v H'
        | .ex c os => ∀ d H', Kp W H H' → OutOk K (fun a => a ∈ W ∨ Av a) H' W os → E (.ref (He.ga K c)) d H'
        | .no => False) := hm
      cases e2 : outs io γ' with
      | none => rw [e2] at hm; exact hm.elim
      | some os =>
        rw [e2] at hm
        refine hm d H' s'.kp ?_
        have q := ho .non (.cl 0) Z' γ' σ' H' os s' e2
        have hq : avR W Av (.cl 0) .non = fun a => a ∈ W ∨ Av a := by
          funext a
          refine propext ⟨fun z => ?_, fun z => .inr z⟩
          rcases z with ⟨_, z, _⟩ | z
          · cases z
          · exact z
        rw [hq] at q
        exact q
    | ok fl γ' =>
      rw [e] at hm
      cases fl with
      | bk => exact hm.elim
      | ct => exact hm.elim
      | nx =>
        intro Z' σ' H' s' _
        have hm : (match (match outs io γ' with
          | some os => RC.ok (.pv .none) os
          | none => .no) with
          | .ok h os => ∀ v H', Kp W H H' → OutOk K (avR W Av h v) H' W os → ResOk K W Av H H' v h → Q v H'
          | .ex c os => ∀ d H', Kp W H H' → OutOk K (fun a => a ∈ W ∨ Av a) H' W os → E (.ref (He.ga K c)) d H'
          | .no => False) := hm
        cases e2 : outs io γ' with
        | none => rw [e2] at hm; exact hm.elim
        | some os =>
          rw [e2] at hm
          exact hm .non H' s'.kp (ho .non (.pv .none) Z' γ' σ' H' os s' e2) .non
      | rt h =>
        intro Z' σ' v H' s' ro
        have hm : (match (match outs io γ' with
          | some os => RC.ok h os
          | none => .no) with
          | .ok h os => ∀ v H', Kp W H H' → OutOk K (avR W Av h v) H' W os → ResOk K W Av H H' v h → Q v H'
          | .ex c os => ∀ d H', Kp W H H' → OutOk K (fun a => a ∈ W ∨ Av a) H' W os → E (.ref (He.ga K c)) d H'
          | .no => False) := hm
        cases e2 : outs io γ' with
        | none => rw [e2] at hm; exact hm.elim
        | some os =>
          rw [e2] at hm
          refine hm v H' s'.unpl.kp (ho v h Z' γ' σ' H' os s' e2) ?_
          cases h with
          | pv d => exact ro
          | cl i => exact ro.elim
          | nw d => exact ro
end
end GL

set_option Elab.async false
set_option linter.all false
set_option autoImplicit false
set_option maxRecDepth 100000
set_option maxHeartbeats 2000000
namespace GL
open PySem PySem.Spec PyProof.Rows L2

mutual
/-- no list and no dict is within -/
def noL : PyData → Bool
  | .tuple ds => noLs ds
  | .list _ => false
  | .dict _ => false
  | _ => true
def noLs : List PyData → Bool
  | [] => true
  | d :: ds => noL d && noLs ds
end
def noLO : PyData → Bool
  | .list ds => noLs ds
  | .dict kvs => noLs (kvs.map (·.2))
  | _ => false
def noLH : Hd → Bool
  | .pv d => noL d
  | .nw d => noLO d
  | .cl _ => false
section
variable {K : PySem.W.Frag} {av av' : Addr → Prop} {H : Hp}
mutual
theorem Rep.noL : ∀ (d : D) (v : V), GL.noL d = true → Rep K av H v d → Rep K av' H v d
  | .none, _, _, h => by cases h; exact .non
  | .bool _, _, _, h => by cases h; exact .bl _
  | .int _, _, _, h => by cases h; exact .int _
  | .str _, _, _, h => by cases h; exact .str _
  | .tuple ds, _, n, h => by
    cases h with
    | tup hz h1 h2 => exact .tup hz h1 (Reps.noL ds _ (by simpa [GL.noL] using n) h2)
  | .list ds, _, n, h => by simp [GL.noL] at n
  | .dict _, _, _, h => by cases h
theorem Reps.noL : ∀ (ds : List D) (vs : List V), noLs ds = true → Reps K av H vs ds → Reps K av' H vs ds
  | [], _, _, h => by cases h; exact .nil
  | d :: ds, _, n, h => by
    have n : GL.noL d = true ∧ noLs ds = true := by simpa [noLs] using n
    cases h with
    | cons h1 h2 => exact .cons (Rep.noL d _ n.1 h1) (Reps.noL ds _ n.2 h2)
end
theorem KvRep.noL : ∀ {kvs : List (Key × V)} {ds : List (D × D)}, noLs (ds.map (·.2)) = true → KvRep K av H kvs ds → KvRep K av' H kvs ds
  | _, _, _, .nil => .nil
  | _, _, n, .cons r t => by
    simp only [List.map_cons, noLs, Bool.and_eq_true] at n
    exact .cons (Rep.noL _ _ n.1 r) (KvRep.noL n.2 t)
theorem KtRep.noL : ∀ {kvs : List (List Key × V)} {ds : List (D × D)}, noLs (ds.map (·.2)) = true → KtRep K av H kvs ds → KtRep K av' H kvs ds
  | _, _, _, .nil => .nil
  | _, _, n, .cons r t => by
    simp only [List.map_cons, noLs, Bool.and_eq_true] at n
    exact .cons (Rep.noL _ _ n.1 r) (KtRep.noL n.2 t)
theorem ObOk.noL {a : Addr} {d : D} (n : noLO d = true) (h : ObOk K av H a d) : ObOk K av' H a d := by
  cases h with
  | lst hz h1 h2 => exact .lst hz h1 (Reps.noL _ _ n h2)
  | dk h1 h2 => exact .dk h1 (h2.noL n)
  | dt h1 h2 => exact .dt h1 (h2.noL n)
theorem OutOk.noL : ∀ {ws : List Addr} {os : List D}, os.all noLO = true → OutOk K av H ws os → OutOk K av' H ws os
  | _, _, _, .nil => .nil
  | _, _, n, .cons o t => by
    simp only [List.all_cons, Bool.and_eq_true] at n
    exact .cons (o.noL n.1) (OutOk.noL n.2 t)
theorem OutOk.weak (hz : ∀ a, av' a → av a) : ∀ {ws : List Addr} {os : List D}, OutOk K av H ws os → OutOk K av' H ws os
  | _, _, .nil => .nil
  | _, _, .cons o t => .cons (o.weak hz) (OutOk.weak hz t)
theorem OutOk.some : ∀ {ws : List Addr} {os : List D}, OutOk K av H ws os → ∀ a ∈ ws, H a ≠ none
  | _, _, .cons o t, a, m => by
    rcases List.mem_cons.mp m with m | m
    · subst m
      obtain ⟨u, e, _⟩ := o.some
      rw [e]
      exact fun z => nomatch z
    · exact OutOk.some t a m
end

def rs0 (γ : List Sl) : Hd → Option D
  | .pv d => some d
  | .nw d => some d
  | .cl i => match γ[i]? with
    | some (.ce _ d) => some d
    | _ => none
theorem rs0_rs {γ : List Sl} {h : Hd} {d : D} (e : rs0 γ h = some d) : rs γ h = some d := by
  cases h with
  | pv _ => exact e
  | nw _ => exact e
  | cl i =>
    have e : (match γ[i]? with
      | some (.ce _ d) => some d
      | _ => none) = some d := e
    show (match γ[i]? with
      | some (.ce _ d) => some d
      | some (.ow _ (.lst its)) => (plainI its).map PyData.list
      | _ => none) = some d
    cases q : γ[i]? with
    | none => rw [q] at e; cases e
    | some sl =>
      rw [q] at e
      cases sl with
      | ce b d => exact e
      | _ => cases e
def argD (γ : List Sl) (h : Hd) : Option D := match rs0 γ h with
  | some (.dict _) => none
  | o => o
def callArgs : List Bool → List Hd → List Sl → Option (List D)
  | [], [], _ => some []
  | false :: io, h :: hs, γ => (argD γ h).bind fun d => (callArgs io hs γ).map (d :: ·)
  | true :: io, .cl i :: hs, γ => (rs0 γ (.cl i)).bind fun d => (callArgs io hs γ).map (d :: ·)
  | _, _, _ => none
/-- the slots that may be changed, that are read alone -/
def ioS : List Bool → List Hd → List Nat
  | true :: io, .cl i :: hs => i :: ioS io hs
  | _ :: io, _ :: hs => ioS io hs
  | _, _ => []
def roS : List Bool → List Hd → List Nat
  | false :: io, .cl i :: hs => i :: roS io hs
  | _ :: io, _ :: hs => roS io hs
  | _, _ => []
def setC (γ : List Sl) (i : Nat) (d : D) : List Sl := match γ[i]? with
  | some (.ce b _) => γ.set i (.ce b d)
  | _ => γ
def putOuts : List Nat → List D → List Sl → List Sl
  | i :: is, d :: ds, γ => putOuts is ds (setC γ i d)
  | _, _, γ => γ
def callOk (is rs : List Nat) (n : Bool) : Bool := decide is.Nodup && (rs.all fun i => !is.contains i) && (rs.isEmpty || n)
def vCall (io : List Bool) (m : Fn) (fa : SA) : SE := fun γ => (fa γ).bind fun hs γ1 => match callArgs io hs γ1 with
  | none => .no
  | some ds => match m ds with
    | .ok h os => if callOk (ioS io hs) (roS io hs) (noLH h && os.all noLO) = true then .ok h (putOuts (ioS io hs) os γ1) else .no
    | .ex c os => if callOk (ioS io hs) (roS io hs) (os.all noLO) = true then .ex c (putOuts (ioS io hs) os γ1) else .no
    | .no => .no
/-- the cells at these slots stand there -/
inductive Cells (γ : List Sl) (σ : L2.St) : List Nat → List Addr → Prop
  | nil : Cells γ σ [] []
  | cons {i : Nat} {a : Addr} {is : List Nat} {ws : List Addr} (b : Bool) (d : D) : γ[i]? = some (.ce b d) → σ[i]? = some (some (.ref a)) → Cells γ σ is ws → Cells γ σ (i :: is) (a :: ws)
section
variable {X : Cx} {pos : Pos} {K : PySem.W.Frag} {F F' : Fr} {W : WX} {Z : List Addr} {γ γ1 γ2 : List Sl} {σ : L2.St} {H H1 H' : Hp}
theorem Cells.mem : ∀ {is : List Nat} {ws : List Addr}, Cells γ σ is ws → ∀ a ∈ ws, ∃ i ∈ is, ∃ b d, γ[i]? = some (.ce b d) ∧ σ[i]? = some (some (.ref a))
  | _, _, .cons (i := i) b d h1 h2 t, a, m => by
    rcases List.mem_cons.mp m with m | m
    · subst m
      exact ⟨i, List.mem_cons_self, b, d, h1, h2⟩
    · obtain ⟨j, mj, q⟩ := t.mem a m
      exact ⟨j, List.mem_cons_of_mem _ mj, q⟩
theorem Cells.nodup (s : SR K F Z γ σ H) : ∀ {is : List Nat} {ws : List Addr}, Cells γ σ is ws → is.Nodup → ws.Nodup
  | _, _, .nil, _ => .nil
  | _, _, .cons b d h1 h2 t, n => by
    refine List.nodup_cons.mpr ⟨fun m => ?_, t.nodup s (List.nodup_cons.mp n).2⟩
    obtain ⟨j, mj, b2, d2, g1, g2⟩ := t.mem _ m
    have e := s.ap _ j _ b b2 d d2 h1 g1 h2 g2
    subst e
    exact (List.nodup_cons.mp n).1 mj
theorem cells_of (s : SR K F Z γ σ H) : ∀ {io : List Bool} {hs : List Hd} {ds : List D}, callArgs io hs γ = some ds → ∃ ws, Cells γ σ (ioS io hs) ws
  | [], [], _, _ => ⟨[], .nil⟩
  | [], _ :: _, _, e => by simp [callArgs] at e
  | false :: io, [], _, e => by simp [callArgs] at e
  | true :: io, [], _, e => by simp [callArgs] at e
  | false :: io, h :: hs, ds, e => by
    simp only [callArgs] at e
    obtain ⟨d, _, e2⟩ := Option.bind_eq_some_iff.mp e
    obtain ⟨ds2, e3, _⟩ := Option.map_eq_some_iff.mp e2
    obtain ⟨ws, c⟩ := cells_of s e3
    refine ⟨ws, ?_⟩
    simp only [ioS]
    exact c
  | true :: io, .pv d :: hs, ds, e => by simp [callArgs] at e
  | true :: io, .nw d :: hs, ds, e => by simp [callArgs] at e
  | true :: io, .cl i :: hs, ds, e => by
    simp only [callArgs] at e
    obtain ⟨d, e1, e2⟩ := Option.bind_eq_some_iff.mp e
    obtain ⟨ds2, e3, _⟩ := Option.map_eq_some_iff.mp e2
    obtain ⟨ws, c⟩ := cells_of s e3
    have e1 : (match γ[i]? with
      | some (.ce _ d) => some d
      | _ => none) = some d := e1
    cases q : γ[i]? with
    | none => rw [q] at e1; cases e1
    | some sl =>
      rw [q] at e1
      cases sl with
      | un => cases e1
      | va _ => cases e1
      | ow gh c => cases e1
      | ce b d' =>
        obtain ⟨a, ea, _⟩ := s.ce q
        simp only [ioS]
        exact ⟨a :: ws, .cons b d' q ea c⟩
theorem args_mk (s : SR K F Z γ σ H) {B : Addr → Prop} (hB : ∀ a, B a → av F Z a) : ∀ {io : List Bool} {hs : List Hd} {vs : List V} {ds : List D} {ws : List Addr}, HdsOk K F Z H σ vs hs → callArgs io hs γ = some ds → Cells γ σ (ioS io hs) ws →
    (∀ i ∈ roS io hs, ∀ a, σ[i]? = some (some (.ref a)) → ¬ B a) → ArgsOk K B H io vs ds ws
  | [], [], _, _, _, .nil, e, c, _ => by
    simp only [callArgs] at e
    cases e
    simp only [ioS] at c
    cases c
    exact .nil
  | [], _ :: _, _, _, _, _, e, _, _ => by simp [callArgs] at e
  | false :: io, [], _, _, _, _, e, _, _ => by simp [callArgs] at e
  | true :: io, [], _, _, _, _, e, _, _ => by simp [callArgs] at e
  | false :: io, h :: hs, _, ds, ws, .cons r t, e, c, nr => by
    simp only [callArgs] at e
    obtain ⟨d, e1, e2⟩ := Option.bind_eq_some_iff.mp e
    obtain ⟨ds2, e3, rfl⟩ := Option.map_eq_some_iff.mp e2
    have c2 : Cells γ σ (ioS io hs) ws := by
      simp only [ioS] at c
      exact c
    have nr2 : ∀ i ∈ roS io hs, ∀ a, σ[i]? = some (some (.ref a)) → ¬ B a := fun i m => nr i (by
      cases h with
      | cl j =>
        simp only [roS]
        exact List.mem_cons_of_mem _ m
      | pv _ => simpa only [roS] using m
      | nw _ => simpa only [roS] using m)
    refine .pl ?_ (args_mk s hB t e3 c2 nr2)
    have e4 : rs γ h = some d ∧ ∀ kvs, d ≠ .dict kvs := by
      unfold argD at e1
      cases q : rs0 γ h with
      | none => rw [q] at e1; cases e1
      | some d2 =>
        rw [q] at e1
        have q := rs0_rs q
        cases d2 with
        | dict _ => cases e1
        | _ =>
          cases e1
          exact ⟨q, fun kvs z => nomatch z⟩
    cases h with
    | pv d2 =>
      have := e4.1
      cases this
      exact Rep.weak hB d _ r
    | nw d2 =>
      have := e4.1
      cases this
      cases d with
      | list dl => exact Rep.weak hB _ _ r.rep
      | dict kvs => exact absurd rfl (e4.2 kvs)
      | _ =>
        obtain ⟨p, _, _, _, o⟩ := r
        cases o
    | cl j =>
      have r2 := HdOk.rs r s e4.1
      rcases r2 with r2 | ⟨a, rfl, o⟩
      · exact Rep.weak hB d _ r2
      · cases o with
        | lst hz h1 h2 => exact .lst hz (nr j (by simp [roS]) a r) (.inl h1) (h2.weak hB)
        | dk h1 h2 => exact absurd rfl (e4.2 _)
        | dt h1 h2 => exact absurd rfl (e4.2 _)
  | true :: io, .pv d :: hs, _, ds, _, _, e, _, _ => by simp [callArgs] at e
  | true :: io, .nw d :: hs, _, ds, _, _, e, _, _ => by simp [callArgs] at e
  | true :: io, .cl i :: hs, _, ds, ws, .cons r t, e, c, nr => by
    simp only [callArgs] at e
    obtain ⟨d, e1, e2⟩ := Option.bind_eq_some_iff.mp e
    obtain ⟨ds2, e3, rfl⟩ := Option.map_eq_some_iff.mp e2
    simp only [ioS] at c
    cases c with
    | cons b d0 g1 g2 c2 =>
      have r : σ[i]? = some (some _) := r
      rw [g2] at r
      cases r
      obtain ⟨a, ea, _, _, _, o⟩ := s.ce g1
      rw [g2] at ea
      cases ea
      have e5 : d = d0 := by
        have e1 : (match γ[i]? with
          | some (.ce _ d) => some d
          | _ => none) = some d := e1
        rw [g1] at e1
        exact (Option.some.inj e1).symm
      subst e5
      exact .io (o.weak hB) (args_mk s hB t e3 c2 fun j m => nr j (by simpa only [roS] using m))
theorem setC_at {i : Nat} {d : D} {b : Bool} {d0 : D} (e : γ[i]? = some (.ce b d0)) : setC γ i d = γ.set i (.ce b d) := by
  unfold setC
  rw [e]
theorem put_at {av : Addr → Prop} : ∀ {is : List Nat} {ws : List Addr} {os : List D} {γ : List Sl}, Cells γ σ is ws → is.Nodup → OutOk K av H' ws os → ∀ (i : Nat) (s : Sl), (putOuts is os γ)[i]? = some s →
    (γ[i]? = some s ∧ i ∉ is) ∨ ∃ b d d0 a, s = .ce b d ∧ γ[i]? = some (.ce b d0) ∧ σ[i]? = some (some (.ref a)) ∧ a ∈ ws ∧ ObOk K av H' a d
  | _, _, _, γ, .nil, _, .nil, i, s, e => by
    simp only [putOuts] at e
    exact .inl ⟨e, List.not_mem_nil⟩
  | _, _, _, γ, .cons (i := j) (is := is) (ws := ws) b d0 h1 h2 t, n, .cons (d := d) o t2, i, s, e => by
    simp only [putOuts] at e
    rw [setC_at h1] at e
    have hj : j < γ.length := (List.getElem?_eq_some_iff.mp h1).1
    have t' : Cells (γ.set j (.ce b d)) σ is ws := by
      have go : ∀ {is : List Nat} {ws : List Addr}, j ∉ is → Cells γ σ is ws → Cells (γ.set j (.ce b d)) σ is ws := by
        intro is ws nj c
        induction c with
        | nil => exact .nil
        | cons b2 d2 g1 g2 _ ih => exact .cons b2 d2 (by rw [List.getElem?_set_ne fun z => nj (by rw [z]; exact List.mem_cons_self)]; exact g1) g2 (ih fun z => nj (List.mem_cons_of_mem _ z))
      exact go (List.nodup_cons.mp n).1 t
    rcases put_at t' (List.nodup_cons.mp n).2 t2 i s e with ⟨g, ni⟩ | ⟨b2, d2, d3, a, g1, g2, g3, g4, g5⟩
    · by_cases q : j = i
      · subst q
        rw [List.getElem?_set, if_pos rfl, if_pos hj] at g
        cases g
        exact .inr ⟨b, d, d0, _, rfl, h1, h2, List.mem_cons_self, o⟩
      · rw [List.getElem?_set_ne q] at g
        exact .inl ⟨g, fun z => (List.mem_cons.mp z).elim (fun z => q z.symm) ni⟩
    · by_cases q : j = i
      · subst q
        rw [List.getElem?_set, if_pos rfl, if_pos hj] at g2
        cases g2
        exact .inr ⟨b, d2, d0, a, g1, h1, g3, List.mem_cons_of_mem _ g4, g5⟩
      · rw [List.getElem?_set_ne q] at g2
        exact .inr ⟨b2, d2, d3, a, g1, g2, g3, List.mem_cons_of_mem _ g4, g5⟩
theorem put_len : ∀ (is : List Nat) (os : List D) (γ : List Sl), (putOuts is os γ).length = γ.length
  | [], _, _ => by simp [putOuts]
  | i :: is, [], γ => by simp [putOuts]
  | i :: is, d :: os, γ => by
    simp only [putOuts]
    rw [put_len is os]
    unfold setC
    split
    · rw [List.length_set]
    · rfl
/-- behind a call -/
theorem SR.called {is : List Nat} {ws : List Addr} {os : List D} (s : SR K F Z γ σ H1) (eP : F'.P = F.P) (eW : F'.W = F.W) (e0 : F'.H0 = F.H0) (c : Cells γ σ is ws) (n : is.Nodup) (k : Kp ws H1 H') (hA : ∀ v d, Rep K (av F Z) H1 v d → Rep K (av F' Z) H' v d)
    (hO : ∀ a d, H' a = H1 a → ObOk K (av F Z) H1 a d → ObOk K (av F' Z) H' a d) (dm : ∀ a, av F' Z a → H' a ≠ none) (o : OutOk K (av F' Z) H' ws os) : SR K F' Z (putOuts is os γ) σ H' where
  kp := fun b u e cc => by
    rw [e0] at e
    rw [eW] at cc
    have q := s.kp b u e cc
    refine k b u q ?_
    by_cases m : b ∈ ws
    · obtain ⟨i, _, b1, d1, g1, g2⟩ := c.mem b m
      obtain ⟨a, ea, mz, _⟩ := s.ce g1
      rw [g2] at ea
      cases ea
      rcases s.zn b mz with z | z
      · exact .inr (cc.resolve_left fun y => y z)
      · rw [z] at e
        cases e
    · exact .inl m
  zn := by
    rw [eW, e0]
    exact s.zn
  wz := by
    rw [eW]
    exact s.wz
  dm := dm
  len := by rw [put_len, s.len]
  at_ := fun i sl e => by
    rcases put_at c n o i sl e with ⟨g, ni⟩ | ⟨b, d, d0, a, g1, g2, g3, g4, g5⟩
    · have r := s.at_ i sl g
      cases sl with
      | un => trivial
      | va d =>
        obtain ⟨v, ev, rv⟩ := r
        exact ⟨v, ev, hA v d rv⟩
      | ce b d =>
        obtain ⟨a, ea, m, m1, m2, oa⟩ := r
        refine ⟨a, ea, m, (by rw [e0]; exact m1), (by rw [eP]; exact m2), hO a d ?_ oa⟩
        obtain ⟨u, eu, _⟩ := oa.some
        have na : a ∉ ws := fun z => by
          obtain ⟨j, mj, b1, d1, q1, q2⟩ := c.mem a z
          have := s.ap i j a b b1 d d1 g q1 ea q2
          subst this
          exact ni mj
        exact (k a u eu (.inl na)).trans eu.symm
      | ow gh c => trivial
    · subst g1
      obtain ⟨a1, ea, m, m1, m2, _⟩ := s.ce g2
      rw [g3] at ea
      cases ea
      exact ⟨a, g3, m, (by rw [e0]; exact m1), (by rw [eP]; exact m2), g5⟩
  ap := fun i j a b1 c1 d1 e1 h1 h2 h3 h4 => by
    have back : ∀ (u : Nat) (y : Bool) (x : D), (putOuts is os γ)[u]? = some (.ce y x) → ∃ y' x', γ[u]? = some (.ce y' x') := fun u y x hu => by
      rcases put_at c n o u _ hu with ⟨g, _⟩ | ⟨b, d, d0, a, g1, g2, _⟩
      · exact ⟨y, x, g⟩
      · exact ⟨b, d0, g2⟩
    obtain ⟨y1, x1, z1⟩ := back i b1 d1 h1
    obtain ⟨y2, x2, z2⟩ := back j c1 e1 h2
    exact s.ap i j a y1 y2 x1 x2 z1 z2 h3 h4
  nst := by
    have n2 : Nest K F' Z γ σ H' := s.nst.imp e0 (fun _ m => m) hA fun i gh cc a e es m => by
      obtain ⟨a1, ea, _, _, oo⟩ := s.nst.ok i gh cc e
      rw [es] at ea
      cases ea
      obtain ⟨u, eu, _⟩ := oo.some
      have na : a ∉ ws := fun z => by
        obtain ⟨j, mj, b1, d1, q1, q2⟩ := c.mem a z
        have := s.nst.ap i j gh cc a e (.inr ⟨b1, d1, q1⟩) es q2
        subst this
        rw [q1] at e
        cases e
      exact (k a u eu (.inl na)).trans eu.symm
    refine n2.move (fun i gh cc e => ?_) (fun i cc e => ?_) fun i b d a e es m => ?_
    · rcases put_at c n o i _ e with ⟨g, _⟩ | ⟨b, d, d0, a, g1, _⟩
      · exact ⟨g, rfl⟩
      · cases g1
    · refine ⟨?_, rfl⟩
      have len : i < (putOuts is os γ).length := by
        rw [put_len]
        exact (List.getElem?_eq_some_iff.mp e).1
      obtain ⟨x, hx⟩ : ∃ x, (putOuts is os γ)[i]? = some x := ⟨_, List.getElem?_eq_getElem len⟩
      rcases put_at c n o i x hx with ⟨g, _⟩ | ⟨b, d, d0, a, g1, g2, _⟩
      · rw [hx, ← e, g]
      · rw [g2] at e
        cases e
    · rcases put_at c n o i _ e with ⟨g, _⟩ | ⟨b, d, d0, a, g1, g2, _⟩
      · exact ⟨.inl ⟨b, d, g⟩, es⟩
      · exact ⟨.inl ⟨b, d0, g2⟩, es⟩
/-- a def of the module that may be called -/
structure FnIs (P : Program) (w : World) (K : PySem.W.Frag) (mg : Str → Option Value) (base : Heap) (k : Nat) (x : Str) (ps : List Str) (io : List Bool) (m : Fn) : Prop where
  ex : ∃ fd, FnOk P w K mg base (L2.CX P w) k (He.ga K x) fd ps (spF K io m) ∧ Binds K fd ps []
  kp : PySem.W.keepIn K (.ref (He.ga K x)) = true
  mg : mg x = some (.ref (He.ga K x))
theorem ge_call {x : Str} {p : Pos} {k : Nat} {e : Expr} {es : List Expr} {ps : List Str} {io : List Bool} {m : Fn} {fa : SA} (Fn : FnIs X.prog X.w X.K X.mg X.base k x ps io m) (hr : Room k X.A) (hg : Gl X x) (ha : GA X (e :: es) fa)
    (hdb : (x == ("__debug__" : Str)) = false := by decide) (he : starEach (e :: es) X.env = (false, eval e X.env) :: starEach es X.env := by rfl) (hpl : (backTo pos (starEach es X.env)).any (·.1) = false := by rfl) : GE X (.Call (.Name x p) (e :: es) [] pos) (vCall io m fa) := by
  obtain ⟨fd, hF, hB⟩ := Fn.ex
  refine ⟨fun F W tk => (pe_callS (E := WE W) hF hr hg Fn.mg Fn.kp hB (fun σ => passAt tk σ) (ha.run F W tk) hdb he hpl).weak fun σ H Q ⟨Z, γ, s, p⟩ => ?_⟩
  refine ⟨Z, γ, s, p.bindA.mono fun vs H1 ⟨hs, γ1, _, s1, k1, r1, p1⟩ => ?_⟩
  cases e1 : callArgs io hs γ1 with
  | none =>
    rw [e1] at p1
    exact p1.elim
  | some ds =>
    rw [e1] at p1
    obtain ⟨ws, c⟩ := cells_of s1 e1
    have wz : ∀ a ∈ ws, a ∈ Z := fun a m => by
      obtain ⟨i, _, b, d, g1, g2⟩ := c.mem a m
      obtain ⟨a1, ea, mz, _⟩ := s1.ce g1
      rw [g2] at ea
      cases ea
      exact mz
    -- what the callee is to avoid
    let A : Addr → Prop := fun a => av F Z a ∧ ∀ i ∈ roS io hs, σ[i]? ≠ some (some (.ref a))
    have hB : ∀ a, (a ∈ ws ∨ A a) → av F Z a := fun a q => by
      rcases q with q | q
      · exact .inl (wz a q)
      · exact q.1
    have p1 : Post X.K F W Z σ H1 (match m ds with
      | .ok h os => if callOk (ioS io hs) (roS io hs) (noLH h && os.all noLO) = true then .ok h (putOuts (ioS io hs) os γ1) else .no
      | .ex c os => if callOk (ioS io hs) (roS io hs) (os.all noLO) = true then .ex c (putOuts (ioS io hs) os γ1) else .no
      | .no => .no) Q := p1
    have sep : ∀ n, callOk (ioS io hs) (roS io hs) n = true → (ioS io hs).Nodup ∧ (∀ i ∈ roS io hs, i ∉ ioS io hs) ∧ (roS io hs = [] ∨ n = true) := fun n q => by
      unfold callOk at q
      simp only [Bool.and_eq_true, decide_eq_true_eq, List.all_eq_true, Bool.or_eq_true, List.isEmpty_iff] at q
      refine ⟨q.1.1, fun i m z => ?_, q.2⟩
      have := q.1.2 i m
      simp [z] at this
    have ro : (∀ i ∈ roS io hs, i ∉ ioS io hs) → ∀ i ∈ roS io hs, ∀ a, σ[i]? = some (some (.ref a)) → ¬ (a ∈ ws ∨ A a) := fun q i mi a ea z => by
      rcases z with z | z
      · obtain ⟨j, mj, b, d, g1, g2⟩ := c.mem a z
        -- slot i holds a cell, too: its address is a's
        have hcl : ∃ b' d', γ1[i]? = some (.ce b' d') := by
          have go : ∀ {io : List Bool} {hs : List Hd} {ds : List D}, callArgs io hs γ1 = some ds → i ∈ roS io hs → ∃ b' d', γ1[i]? = some (.ce b' d') := by
            intro io
            induction io with
            | nil =>
              intro hs ds e m
              simp [roS] at m
            | cons y io ih =>
              intro hs ds e m
              cases hs with
              | nil => simp [roS] at m
              | cons h hs =>
                cases y with
                | true =>
                  cases h with
                  | cl j2 =>
                    simp only [callArgs] at e
                    obtain ⟨d, _, e2⟩ := Option.bind_eq_some_iff.mp e
                    obtain ⟨ds2, e3, _⟩ := Option.map_eq_some_iff.mp e2
                    exact ih e3 (by simpa only [roS] using m)
                  | pv _ => simp [callArgs] at e
                  | nw _ => simp [callArgs] at e
                | false =>
                  simp only [callArgs] at e
                  obtain ⟨d, e1, e2⟩ := Option.bind_eq_some_iff.mp e
                  obtain ⟨ds2, e3, _⟩ := Option.map_eq_some_iff.mp e2
                  cases h with
                  | pv _ => exact ih e3 (by simpa only [roS] using m)
                  | nw _ => exact ih e3 (by simpa only [roS] using m)
                  | cl j2 =>
                    rcases List.mem_cons.mp (show i ∈ j2 :: roS io hs by simpa only [roS] using m) with m | m
                    · subst m
                      unfold argD at e1
                      have e1 : (match (match γ1[i]? with
                        | some (.ce _ d) => some d
                        | _ => none) with
                        | some (.dict _) => none
                        | o => o) = some d := e1
                      cases q : γ1[i]? with
                      | none => rw [q] at e1; cases e1
                      | some sl =>
                        rw [q] at e1
                        cases sl with
                        | un => cases e1
                        | va _ => cases e1
                        | ow _ _ => cases e1
                        | ce b d' => exact ⟨b, d', rfl⟩
                    · exact ih e3 m
          exact go e1 mi
        obtain ⟨b', d', g3⟩ := hcl
        have := s1.ap i j a b' b d' d g3 g1 ea g2
        subst this
        exact q i mi mj
      · exact z.2 i mi ea
    have dmB : ∀ a, (a ∈ ws ∨ A a) → H1 a ≠ none := fun a q => s1.dm a (hB a q)
    have avA : roS io hs = [] → ∀ a, av F Z a → (a ∈ ws ∨ A a) := fun q a z => .inr ⟨z, fun i mi => by rw [q] at mi; cases mi⟩
    cases e2 : m ds with
    | no =>
      rw [e2] at p1
      exact p1.elim
    | ex cn os =>
      rw [e2] at p1
      have p1 : Post X.K F W Z σ H1 (if callOk (ioS io hs) (roS io hs) (os.all noLO) = true then .ex cn (putOuts (ioS io hs) os γ1) else .no) Q := p1
      by_cases hk : callOk (ioS io hs) (roS io hs) (os.all noLO) = true
      · rw [if_pos hk] at p1
        obtain ⟨n1, n2, n3⟩ := sep _ hk
        refine ⟨A, ws, ds, args_mk s1 hB r1 e1 c (ro n2), c.nodup s1 n1, dmB, ?_⟩
        rw [e2]
        intro d H' kk oo
        have oo2 : OutOk X.K (av F Z) H' ws os := by
          rcases n3 with q | q
          · exact oo.weak (avA q)
          · exact oo.noL q
        have kz := kk.mono wz
        exact p1 Z σ H' (s1.called (F' := F) rfl rfl rfl c n1 kk (fun v d r => Rep.keep kz avZ d v r) (fun a d e o => o.keep kz avZ e) (fun a ha => by
          by_cases m : a ∈ ws
          · exact oo2.some a m
          · cases q : H1 a with
            | none => exact absurd q (s1.dm a ha)
            | some u =>
              rw [kk a u q (.inl m)]
              exact fun z => nomatch z) oo2) d
      · rw [if_neg hk] at p1
        exact p1.elim
    | ok h os =>
      rw [e2] at p1
      have p1 : Post X.K F W Z σ H1 (if callOk (ioS io hs) (roS io hs) (noLH h && os.all noLO) = true then .ok h (putOuts (ioS io hs) os γ1) else .no) Q := p1
      by_cases hk : callOk (ioS io hs) (roS io hs) (noLH h && os.all noLO) = true
      · rw [if_pos hk] at p1
        obtain ⟨n1, n2, n3⟩ := sep _ hk
        refine ⟨A, ws, ds, args_mk s1 hB r1 e1 c (ro n2), c.nodup s1 n1, dmB, ?_⟩
        rw [e2]
        intro v H' kk oo rr
        have kz := kk.mono wz
        have keepDm : ∀ a, a ∉ ws → H1 a ≠ none → H' a ≠ none := fun a m q => by
          cases e : H1 a with
          | none => exact absurd e q
          | some u =>
            rw [kk a u e (.inl m)]
            exact fun z => nomatch z
        cases h with
        | cl i => exact rr.elim
        | pv d =>
          have oo2 : OutOk X.K (av F Z) H' ws os := by
            rcases n3 with q | q
            · exact oo.weak fun a z => .inr (avA q a z)
            · exact oo.noL (Bool.and_eq_true_iff.mp q).2
          have r2 : Rep X.K (av F Z) H' v d := by
            rcases n3 with q | q
            · exact Rep.weak (avA q) d v rr
            · exact Rep.noL d v (Bool.and_eq_true_iff.mp q).1 rr
          refine p1 v H' ?_ kz r2 newIn_pv
          exact s1.called (F' := F) rfl rfl rfl c n1 kk (fun v d r => Rep.keep kz avZ d v r) (fun a d e o => o.keep kz avZ e) (fun a ha => by
            by_cases m : a ∈ ws
            · exact oo2.some a m
            · exact keepDm a m (s1.dm a ha)) oo2
        | nw d =>
          obtain ⟨q, rfl, hn, o⟩ := rr
          obtain ⟨h0, nav⟩ := s1.h0 hn
          have o2 : ObOk X.K (fun a => a = q ∨ av F Z a) H' q d := by
            rcases n3 with z | z
            · exact o.weak fun a y => y.imp id (avA z a)
            · exact o.noL (Bool.and_eq_true_iff.mp z).1
          have oo2 : OutOk X.K (av (F.plus (.ref q)) Z) H' ws os := by
            rcases n3 with z | z
            · exact oo.weak fun a y => by
                rcases y with y | y | y
                · exact .inr (avA z a (.inl y))
                · exact .inl ⟨d, rfl, y⟩
                · exact .inr (avA z a (.inr y))
            · exact oo.noL (Bool.and_eq_true_iff.mp z).2
          obtain ⟨u, eu, _⟩ := o.some
          refine p1 (.ref q) H' ?_ kz ⟨q, rfl, nav, h0, o2⟩ (newIn_ref hn)
          have hw : ∀ a, av (F.plus (.ref q)) Z a → a = q ∨ av F Z a := fun a y => av_plus y
          exact s1.called (F' := F.plus (.ref q)) rfl rfl rfl c n1 kk (ext_plus hn kz)
            (fun a d e oa => ((oa.more hn).weak hw).keep kz avZ e)
            (fun a ha => by
              rcases hw a ha with z | z
              · rw [z, eu]
                exact fun y => nomatch y
              · by_cases m : a ∈ ws
                · exact oo2.some a m
                · exact keepDm a m (s1.dm a z)) oo2
      · rw [if_neg hk] at p1
        exact p1.elim
end
end GL

set_option Elab.async false
set_option linter.all false
set_option autoImplicit false
set_option maxRecDepth 100000
set_option maxHeartbeats 2000000
namespace GL
open PySem PySem.Spec PyProof.Rows L2

theorem opR_or {X : Cx} {f : Value → Value → Sem Value} {r r' : R2} (h : OpR X f r) (h' : OpR X f r') : OpR X f (fun x y H Q => r x y H Q ∨ r' x y H Q) := fun pins s σ H x y v u Q I rx ry q => by
  rcases q with q | q
  · exact h pins s σ H x y v u Q I rx ry q
  · exact h' pins s σ H x y v u Q I rx ry q
theorem slR_or {X : Cx} {r r' : V → Option Int → Option Int → Hp → VK → Prop} (h : SlR X r) (h' : SlR X r') : SlR X (fun x lo hi H Q => r x lo hi H Q ∨ r' x lo hi H Q) := h.or h'
section
variable {X : Cx} {K : PySem.W.Frag} {F : Fr} {Z : List Addr} {γ : List Sl} {σ : L2.St} {H : Hp}

/-! ### lists, read wherever they stand -/
def rCatL (K : PySem.W.Frag) : R2 := fun x y H Q => ∃ l b xs zs, x = .ref l ∧ y = .ref b ∧ SqL K H l xs ∧ SqL K H b zs ∧ xs.length + zs.length ≤ sizeLine ∧ ∀ p, H p = none → Q (.ref p) (upd H p (.lst (xs ++ zs)))
theorem op_catL : OpR X (binaryOp .Add) (rCatL X.K) := by
  rintro pins s σ H _ _ v u Q I rx ry ⟨l, b, xs, zs, rfl, rfl, hH, hB, hz, q⟩
  cases rx; cases ry
  obtain ⟨us, r, ⟨⟨c1, d1, t1, s1⟩, n1, e1, k1, _, f1⟩, _⟩ := I.list hH
  obtain ⟨ws, r2, ⟨⟨c2, d2, t2, s2⟩, n2, e2, k2, _, f2⟩, _⟩ := I.list hB
  simp only at k1 f1 k2 f2
  subst k1 f1 k2 f2
  have l1 := r.length
  have l2 := r2.length
  refine concat_meets ⟨_, e1, rfl⟩ ⟨_, e2, rfl⟩ noFill_list_add seq_list_add PySem.F.slot_list_add PySem.F.entry_list_add (PySem.F.args_list_add_2 _ _)
    (list_addW l b us.toArray ws.toArray n1 n2 d1 d2 s1 s2 (by rw [List.size_toArray, List.size_toArray]; omega)) ⟨e1, e2, ?_⟩
  have ea : us.toArray ++ ws.toArray = (us ++ ws).toArray := by simp
  rw [ea]
  exact ⟨.ref _, _, I.lnew (t' := s.toks) (r.append r2) (by rw [List.length_append]; omega), rfl, q _ I.fresh⟩
theorem list_mulW (l : Addr) (us : Array Value) (n : Nat) (dd : Option Addr) (sl : Array (Option Value)) (x : Int) (u : Tok) (h0 : ¬(!Builtin.List.listFitsIndex x) = true) (h1 : ¬us.size * x.toNat > (2 ^ 63 - 1) / 8) (h2 : ¬Builtin.List.listTooLong (us.size * x.toNat) = true) :
    Meets (Builtin.«list.__mul__» ⟨[.ref l, .int x u], []⟩) (fun _ R s => s.heap.get? l = some { cls := .type "list", dict := dd, data := .seq us n, slots := sl } ∧
      R (.ok (.ret (Value.ref s.heap.objs.size))) { s with heap := s.heap.push { cls := Value.type "list", data := Data.seq (List.foldl (fun x1 x2 => x1 ++ x2) #[] (List.replicate (if us.isEmpty = true then 0 else x.toNat) us)) }, toks := s.toks }) :=
  .of_wp fun prog w A R s q => by
    obtain ⟨hh, g, d, tk, os⟩ := s; obtain ⟨hl, q⟩ := q
    have fits := AutoListH.joined_fits h2
    wp_walk using wpAny_loadPart' hl
    refine wpAny_ite_false (decide_eq_false (Nat.not_lt.mpr fits)) ?_
    wp_walk using wpAny_loadPart' hl
    exact ⟨_, rfl, q⟩
theorem int_rmulW (a : Int) (t : Tok) (l : Addr) (us : Array Value) (n : Nat) (dd : Option Addr) (sl : Array (Option Value)) :
    Meets (Builtin.«int.__rmul__» ⟨[.int a t, .ref l], []⟩) (fun _ R s => s.heap.get? l = some { cls := .type "list", dict := dd, data := .seq us n, slots := sl } ∧ R (.ok (.ret Value.notImplemented)) s) :=
  .of_wp fun prog w A R s q => by obtain ⟨hh, g, d, tk, os⟩ := s; obtain ⟨hl, q⟩ := q; wp_walk using wpAny_loadPart' hl; exact ⟨_, rfl, q⟩
def rRepL (K : PySem.W.Frag) : R2 := fun x y H Q => ∃ l k xs, x = .ref l ∧ y = .int k ∧ SqL K H l xs ∧ -(2 ^ 63) ≤ k ∧ k < 2 ^ 63 ∧ xs.length * k.toNat ≤ sizeLine ∧
  ∀ p, H p = none → Q (.ref p) (upd H p (.lst (List.replicate k.toNat xs).flatten))
theorem op_repL : OpR X (binaryOp .Mult) (rRepL X.K) := by
  rintro pins s σ H _ _ v u Q I rx ry ⟨l, k, xs, rfl, rfl, hH, h1, h2, hz, q⟩
  cases rx
  obtain ⟨t, rfl⟩ := ry
  obtain ⟨us, r, ⟨⟨c1, d1, t1, s1⟩, n1, e1, k1, _, f1⟩, _⟩ := I.list hH
  simp only at k1 f1
  subst k1 f1
  have l1 := r.length
  have len : us.toArray.size * k.toNat ≤ sizeLine := by rw [List.size_toArray, ← l1]; exact hz
  have cap : ¬ us.toArray.size * k.toNat > (2 ^ 63 - 1) / 8 := by
    have big : (sizeLine : Nat) ≤ (2 ^ 63 - 1) / 8 := by decide
    omega
  have fit : ¬ (!Builtin.List.listFitsIndex k) = true := by rw [fitsIndex_both h1 h2]; exact Bool.false_ne_true
  have long : ¬ Builtin.List.listTooLong (us.toArray.size * k.toNat) = true := by rw [notLongL len]; exact Bool.false_ne_true
  have res : List.foldl (fun x1 x2 => x1 ++ x2) #[] (List.replicate (if us.toArray.isEmpty = true then 0 else k.toNat) us.toArray) = (List.replicate k.toNat us).flatten.toArray := by
    have f0 := fun m : Nat => foldl_rep us m []
    simp only [List.nil_append] at f0
    cases us with
    | nil => rw [if_pos (by simp), f0]; simp
    | cons a r' => rw [if_neg (by simp)]; exact f0 _
  refine wpAny_binaryOp_repeat_ref (T := "list") (U := "int") (by decide) ⟨_, e1, rfl⟩ (fun s' => typeIs_int s' k t) noFill_list_mul PySem.F.fills_int_mul PySem.F.slot_int_rmul repeat_list PySem.F.slot_int_index.lookup
    (call_meets PySem.F.slot_int_rmul (typeIs_int s k t) PySem.F.entry_int_rmul (PySem.F.args_int_rmul_2 _ _) (int_rmulW k t l us.toArray n1 d1 s1)
      ⟨e1, rfl, ⟨_, e1, rfl⟩, call_meets PySem.F.slot_list_mul ⟨_, e1, rfl⟩ PySem.F.entry_list_mul (PySem.F.args_list_mul_2 _ _) (list_mulW l us.toArray n1 d1 s1 k t fit cap long) ⟨e1, ?_⟩⟩)
  rw [res]
  exact ⟨.ref _, _, I.lnew (t' := s.toks) (r.rep k.toNat) (by rw [PyProof.Rows.lm_len_rep_flat, Nat.mul_comm]; exact hz), rfl, q _ I.fresh⟩

/-! ### tuples that are made here -/
/-- t + u -/
def rCatF (K : PySem.W.Frag) : R2 := fun x y H Q => ∃ a b xs ys, x = .ref a ∧ y = .ref b ∧ SqT K H a xs ∧ SqT K H b ys ∧ xs.length + ys.length ≤ sizeLine ∧
  (xs = [] → Q (.ref b) H) ∧ (xs ≠ [] → ys = [] → Q (.ref a) H) ∧ (xs ≠ [] → ys ≠ [] → ∀ p o, H p = none → o.dict = none → Q (.ref p) (upd H p (.frz o (.tup (xs ++ ys)))))
theorem op_catF : OpR X (binaryOp .Add) (rCatF X.K) := by
  rintro pins s σ H _ _ v u Q I rx ry ⟨a, b, xs, ys, rfl, rfl, ha, hb, hz, q0, q1, q2⟩
  cases rx; cases ry
  obtain ⟨us, r1, p1, _⟩ := I.tuple ha
  obtain ⟨ws, r2, p2, _⟩ := I.tuple hb
  by_cases hx : xs = []
  · subst hx
    cases r1
    exact cat_tup0 p1 p2 ⟨.ref b, H, I, rfl, q0 rfl⟩
  · refine HT.cat_tup p1 p2 (fun e => hx (r1.nil_iff.mp e)) (fun e => ⟨.ref a, H, I, rfl, q1 hx (r2.nil_iff.mp e)⟩) (fun e => ?_) (by rw [← r1.length, ← r2.length]; exact hz)
    exact ⟨.ref s.heap.objs.size, _, I.tnew (r1.append r2) (by rw [List.length_append]; exact hz), rfl, q2 hx (fun w => e (r2.nil_iff.mpr w)) _ (tob (us ++ ws)) (I.hok.fresh (Nat.le_refl _)) rfl⟩
/-- t[lo:hi] -/
def rSlF (K : PySem.W.Frag) : V → Option Int → Option Int → Hp → VK → Prop := fun x lo hi H Q => ∃ a xs, x = .ref a ∧ SqT K H a xs ∧
  (HT.sIx xs.length 0 lo = 0 ∧ HT.sIx xs.length xs.length hi = xs.length → Q (.ref a) H) ∧ (¬ (HT.sIx xs.length 0 lo = 0 ∧ HT.sIx xs.length xs.length hi = xs.length) → ∀ p o, H p = none → o.dict = none → Q (.ref p) (upd H p (.frz o (.tup (cutV xs lo hi)))))
theorem sl_tupF : SlR X (rSlF X.K) := by
  rintro pins s σ H _ v vl vu lo hi sl Q I rx hs pl pu ⟨a, xs, rfl, hx, q1, q2⟩
  cases rx
  obtain ⟨us, r, ht, hz⟩ := I.tuple hx
  have e0 : us.toArray.size = xs.length := by rw [List.size_toArray, r.length]
  refine ⟨"tuple", _, PyProof.Rows.slot_tuple_getitem.lookup, ht.typeIs, ?_⟩
  by_cases hw : HT.sIx xs.length 0 lo = 0 ∧ HT.sIx xs.length xs.length hi = xs.length
  · exact getItem_tuple_whole ht hs pl pu (by rw [e0]; exact hw) ⟨.ref a, H, I, rfl, q1 hw⟩
  · refine HT.getItem_tuple_cut ht hs pl pu (by rw [e0]; exact hw) ?_ (by rw [e0]; exact hz)
    rw [e0]
    exact ⟨.ref s.heap.objs.size, _, I.tnew (xs := cutV xs lo hi) ((r.drop _).take _) (Nat.le_trans (cutV_length xs lo hi) hz), rfl, q2 hw _ (tob _) (I.hok.fresh (Nat.le_refl _)) rfl⟩

def big : Nat := 10000000
theorem big_le {n : Nat} (h : n ≤ big) : n ≤ sizeLine := Nat.le_trans h (by decide)
def dAdd : D → D → Option Hd
  | .int a, .int b => some (.pv (.int (a + b)))
  | .str a, .str b => if a.length + b.length ≤ big then some (.pv (.str (a ++ b))) else none
  | .tuple a, .tuple b => if a.length + b.length ≤ big then some (.pv (.tuple (a ++ b))) else none
  | .list a, .list b => if a.length + b.length ≤ big then some (.nw (.list (a ++ b))) else none
  | _, _ => none
def rAdd (K : PySem.W.Frag) : R2 := fun x y H Q => rI0 (fun i j => .int (i + j)) x y H Q ∨ (∃ i j, x = .str i ∧ y = .str j ∧ i.length + j.length ≤ sizeLine ∧ Q (.str (i ++ j)) H) ∨ rCatF K x y H Q ∨ rCatL K x y H Q
theorem op_addU : OpR X (binaryOp .Add) (rAdd X.K) := opR_or op_add (opR_or op_add_str (opR_or op_catF op_catL))
theorem does_add : Does2 K (rAdd K) dAdd := by
  intro F Z γ σ H v w d e h Q s hv hw hg k
  match d, e, hv, hw, hg with
  | .int a, .int b, hv, hw, hg =>
    cases hg
    exact .inl ⟨a, b, hv.int, hw.int, k _ H (Same.refl H) (.int _) newIn_pv⟩
  | .str a, .str b, hv, hw, hg =>
    simp only [dAdd] at hg
    split at hg
    · rename_i hl
      cases hg
      exact .inr (.inl ⟨a, b, hv.str, hw.str, big_le hl, k _ H (Same.refl H) (.str _) newIn_pv⟩)
    · cases hg
  | .tuple a, .tuple b, hv, hw, hg =>
    simp only [dAdd] at hg
    split at hg
    · rename_i hl
      cases hg
      obtain ⟨p, xs, rfl, hz, r, q⟩ := hv.tup
      obtain ⟨p2, ys, rfl, hz2, r2, q2⟩ := hw.tup
      have l1 := q.length
      have l2 := q2.length
      refine .inr (.inr (.inl ⟨p, p2, xs, ys, rfl, rfl, r.t, r2.t, by rw [l1, l2]; exact big_le hl, fun e => ?_, fun _ e => ?_, fun _ _ t o ht ho => ?_⟩))
      · subst e
        cases q
        exact k _ H (Same.refl H) (Rep.tup hz2 r2 q2) newIn_pv
      · subst e
        cases q2
        rw [List.append_nil] at k
        exact k _ H (Same.refl H) (Rep.tup hz r q) newIn_pv
      · exact k _ _ (same_new ht) (SR.newT (by rw [List.length_append, l1, l2]; exact big_le hl) s ht ho (q.append q2)) newIn_pv
    · cases hg
  | .list a, .list b, hv, hw, hg =>
    simp only [dAdd] at hg
    split at hg
    · rename_i hl
      cases hg
      obtain ⟨p, xs, rfl, hz, r, q⟩ := hv.lst
      obtain ⟨p2, ys, rfl, hz2, r2, q2⟩ := hw.lst
      have l1 := q.length
      have l2 := q2.length
      refine .inr (.inr (.inr ⟨p, p2, xs, ys, rfl, rfl, r, r2, by rw [l1, l2]; exact big_le hl, fun t ht => ?_⟩))
      exact k _ _ (same_new ht) (SR.newL (by rw [List.length_append, l1, l2]; exact big_le hl) s ht (q.append q2)) (newIn_ref ht)
    · cases hg
/-! ### - * // % ** -/
def dSub : D → D → Option Hd
  | .int a, .int b => some (.pv (.int (a - b)))
  | _, _ => none
theorem does_sub : Does2 K (rI0 fun i j => .int (i - j)) dSub := by
  intro F Z γ σ H v w d e h Q s hv hw hg k
  match d, e, hv, hw, hg with
  | .int a, .int b, hv, hw, hg =>
    cases hg
    exact ⟨a, b, hv.int, hw.int, k _ H (Same.refl H) (.int _) newIn_pv⟩
def small64 (i : Int) : Bool := decide (-(2 ^ 64) < i ∧ i < 2 ^ 64)
def dMul : D → D → Option Hd
  | .int a, .int b => if (small64 a || small64 b) = true then some (.pv (.int (a * b))) else none
  | .list a, .int b => if b ≤ 1000000 ∧ -1000000 ≤ b ∧ a.length * b.toNat ≤ big then some (.nw (.list (List.replicate b.toNat a).flatten)) else none
  | _, _ => none
def rMulU (K : PySem.W.Frag) : R2 := fun x y H Q => rI CMul (fun i j => .int (i * j)) x y H Q ∨ rRepL K x y H Q
theorem op_mulU : OpR X (binaryOp .Mult) (rMulU X.K) := opR_or op_mul op_repL
theorem does_mul : Does2 K (rMulU K) dMul := by
  intro F Z γ σ H v w d e h Q s hv hw hg k
  match d, e, hv, hw, hg with
  | .int a, .int b, hv, hw, hg =>
    simp only [dMul] at hg
    split at hg
    · rename_i hl
      cases hg
      refine .inl ⟨a, b, hv.int, hw.int, ?_, k _ H (Same.refl H) (.int _) newIn_pv⟩
      rw [Bool.or_eq_true] at hl
      exact hl.imp (fun z => of_decide_eq_true z) fun z => of_decide_eq_true z
    · cases hg
  | .list a, .int b, hv, hw, hg =>
    simp only [dMul] at hg
    split at hg
    · rename_i hl
      cases hg
      obtain ⟨p, xs, rfl, hz, r, q⟩ := hv.lst
      have l1 := q.length
      have hq := q.rep b.toNat
      refine .inr ⟨p, b, xs, rfl, hw.int, r, by omega, by omega, by rw [l1]; exact big_le hl.2.2, fun t ht => ?_⟩
      exact k _ _ (same_new ht) (SR.newL (by rw [PyProof.Rows.lm_len_rep_flat, l1, Nat.mul_comm]; exact big_le hl.2.2) s ht hq) (newIn_ref ht)
    · cases hg
/-- a tuple times an int: twice or more -/
def dMulT : D → D → Option Hd
  | .tuple a, .int b => if a ≠ [] ∧ 2 ≤ b ∧ b ≤ 1000 ∧ a.length ≤ 1000 then some (.pv (.tuple (List.replicate b.toNat a).flatten)) else none
  | _, _ => none
def dFdiv : D → D → Option Hd
  | .int a, .int b => if 0 < b ∧ b < 1073741824 then some (.pv (.int (a / b))) else none
  | _, _ => none
theorem does_fdiv : Does2 K (rI CDiv fun i j => .int (i / j)) dFdiv := by
  intro F Z γ σ H v w d e h Q s hv hw hg k
  match d, e, hv, hw, hg with
  | .int a, .int b, hv, hw, hg =>
    simp only [dFdiv] at hg
    split at hg
    · rename_i hl
      cases hg
      exact ⟨a, b, hv.int, hw.int, hl, k _ H (Same.refl H) (.int _) newIn_pv⟩
    · cases hg
def dMod : D → D → Option Hd
  | .int a, .int b => if 0 < b then some (.pv (.int (a % b))) else none
  | _, _ => none
theorem does_mod : Does2 K (rI (fun _ j => 0 < j) fun i j => .int (i % j)) dMod := by
  intro F Z γ σ H v w d e h Q s hv hw hg k
  match d, e, hv, hw, hg with
  | .int a, .int b, hv, hw, hg =>
    simp only [dMod] at hg
    split at hg
    · rename_i hl
      cases hg
      exact ⟨a, b, hv.int, hw.int, hl, k _ H (Same.refl H) (.int _) newIn_pv⟩
    · cases hg
def dPow : D → D → Option Hd
  | .int a, .int b => if 0 ≤ b ∧ b ≤ 1000 ∧ a.natAbs < 2 ^ 64 then some (.pv (.int (a ^ b.toNat))) else none
  | _, _ => none
theorem does_pow : Does2 K (rI CPow fun i j => .int (i ^ j.toNat)) dPow := by
  intro F Z γ σ H v w d e h Q s hv hw hg k
  match d, e, hv, hw, hg with
  | .int a, .int b, hv, hw, hg =>
    simp only [dPow] at hg
    split at hg
    · rename_i hl
      cases hg
      exact ⟨a, b, hv.int, hw.int, ⟨hl.1, by omega, hl.2.2⟩, k _ H (Same.refl H) (.int _) newIn_pv⟩
    · cases hg
def dNeg : D → Option Hd
  | .int a => some (.pv (.int (-a)))
  | _ => none
theorem does_neg : Does1 K (rU fun i => .int (-i)) dNeg := by
  intro F Z γ σ H v d h Q s hv hg k
  match d, hv, hg with
  | .int a, hv, hg =>
    cases hg
    exact ⟨a, hv.int, k _ H (Same.refl H) (.int _) newIn_pv⟩
/-! ### == != < <= > >= -/
def okD (d : D) : Bool := SeqAt.shaped d
theorem okD_nd {d : D} (h : okD d = true) : ∀ kvs, d ≠ .dict kvs := fun kvs e => by
  subst e
  simp [okD, SeqAt.shaped, PyData.canLay0] at h
def dEq (d e : D) : Option Hd := if (okD d && okD e) = true then some (.pv (.bool (PyData.eqv d e))) else none
def dNe (d e : D) : Option Hd := if (okD d && okD e) = true then some (.pv (.bool (!PyData.eqv d e))) else none
theorem does_eq : Does2 K (rEqD K) dEq := by
  intro F Z γ σ H v w d e h Q s hv hw hg k
  unfold dEq at hg
  split at hg
  · rename_i hl
    cases hg
    obtain ⟨h1, h2⟩ := Bool.and_eq_true_iff.mp hl
    exact ⟨d, e, hv.dp (okD_nd h1), hw.dp (okD_nd h2), h1, h2, k _ H (Same.refl H) (.bl _) newIn_pv⟩
  · cases hg
theorem does_ne : Does2 K (rNeD K) dNe := by
  intro F Z γ σ H v w d e h Q s hv hw hg k
  unfold dNe at hg
  split at hg
  · rename_i hl
    cases hg
    obtain ⟨h1, h2⟩ := Bool.and_eq_true_iff.mp hl
    exact ⟨d, e, hv.dp (okD_nd h1), hw.dp (okD_nd h2), h1, h2, k _ H (Same.refl H) (.bl _) newIn_pv⟩
  · cases hg
def dCmp (p : Int → Int → Bool) : D → D → Option Hd
  | .int a, .int b => some (.pv (.bool (p a b)))
  | _, _ => none
theorem does_cmp {p : Int → Int → Bool} : Does2 K (rI0 fun i j => .bl (p i j)) (dCmp p) := by
  intro F Z γ σ H v w d e h Q s hv hw hg k
  match d, e, hv, hw, hg with
  | .int a, .int b, hv, hw, hg =>
    cases hg
    exact ⟨a, b, hv.int, hw.int, k _ H (Same.refl H) (.bl _) newIn_pv⟩
abbrev dLt : D → D → Option Hd := dCmp fun i j => decide (i < j)
abbrev dLe : D → D → Option Hd := dCmp fun i j => decide (i ≤ j)
abbrev dGt : D → D → Option Hd := dCmp fun i j => decide (j < i)
abbrev dGe : D → D → Option Hd := dCmp fun i j => decide (j ≤ i)
/-! ### in, is -/
def rInT (K : PySem.W.Frag) : R2 := fun x y H Q => ∃ d ds, Dp K H x d ∧ Dp K H y (.tuple ds) ∧ SeqAt.shaped d = true ∧ SeqAt.shaped (.tuple ds) = true ∧ Q (.bl (ds.any fun z => PyData.eqv z d)) H
def rNotInT (K : PySem.W.Frag) : R2 := fun x y H Q => ∃ d ds, Dp K H x d ∧ Dp K H y (.tuple ds) ∧ SeqAt.shaped d = true ∧ SeqAt.shaped (.tuple ds) = true ∧ Q (.bl (!ds.any fun z => PyData.eqv z d)) H
theorem op_inT (hu : X.A.units + 65 < cLine) : OpR X (compareOp .In) (rInT X.K) := by
  intro pins s σ H x y v u Q I rx ry h
  obtain ⟨d, ds, hd, he, sd, se, q⟩ := h
  obtain ⟨as, r1⟩ := Dp.reads I d x v hd rx
  obtain ⟨bs, r2⟩ := Dp.reads I (.tuple ds) y u he ry
  exact SeqAt.in_tuple_reads r2 r1 (SeqAt.canLay_of_shaped se) (SeqAt.canLay_of_shaped sd) (room_in_shaped sd hu) ⟨.bl _, H, I, rfl, q⟩
theorem op_notInT (hu : X.A.units + 65 < cLine) : OpR X (compareOp .NotIn) (rNotInT X.K) := by
  intro pins s σ H x y v u Q I rx ry h
  obtain ⟨d, ds, hd, he, sd, se, q⟩ := h
  obtain ⟨as, r1⟩ := Dp.reads I d x v hd rx
  obtain ⟨bs, r2⟩ := Dp.reads I (.tuple ds) y u he ry
  exact SeqAt.notIn_tuple_reads r2 r1 (SeqAt.canLay_of_shaped se) (SeqAt.canLay_of_shaped sd) (room_in_shaped sd hu) ⟨.bl _, H, I, rfl, q⟩
def rInSg : R2 := fun x y H Q => ∃ (c : Nat) (z : Str), x = .str ⟨#[c]⟩ ∧ y = .str z ∧ Q (.bl (decide (c ∈ z.cps.toList))) H
def rNotInSg : R2 := fun x y H Q => ∃ (c : Nat) (z : Str), x = .str ⟨#[c]⟩ ∧ y = .str z ∧ Q (.bl (!decide (c ∈ z.cps.toList))) H
def rInU (K : PySem.W.Frag) : R2 := fun x y H Q => rInD K x y H Q ∨ rInT K x y H Q ∨ rInSg x y H Q
def rNotInU (K : PySem.W.Frag) : R2 := fun x y H Q => rNotInD K x y H Q ∨ rNotInT K x y H Q ∨ rNotInSg x y H Q
theorem op_inU (hu : X.A.units + 65 < cLine) : OpR X (compareOp .In) (rInU X.K) := opR_or (op_inD hu) (opR_or (op_inT hu) op_in_sign)
theorem op_notInU (hu : X.A.units + 65 < cLine) : OpR X (compareOp .NotIn) (rNotInU X.K) := opR_or (op_notInD hu) (opR_or (op_notInT hu) op_notIn_sign)
/-- one sign -/
def sign1 (x : Str) : Option Nat := match x.cps.toList with
  | [c] => some c
  | _ => none
theorem sign1_eq {x : Str} {c : Nat} (h : sign1 x = some c) : x = ⟨#[c]⟩ := by
  obtain ⟨a⟩ := x
  have h : (match a.toList with
    | [c] => some c
    | _ => none) = some c := h
  cases e : a.toList with
  | nil => rw [e] at h; cases h
  | cons b r =>
    rw [e] at h
    cases r with
    | nil =>
      cases h
      have : a = #[c] := by
        have := congrArg List.toArray e
        simpa using this
      rw [this]
    | cons _ _ => cases h
def memD (d : D) (ds : List D) : Bool := ds.any fun z => PyData.eqv z d
def dInB (d e : D) : Option Bool := match e with
  | .list ds => if (okD d && okD e) = true then some (memD d ds) else none
  | .tuple ds => if (okD d && okD e) = true then some (memD d ds) else none
  | .str z => (match d with
    | .str x => (sign1 x).map fun c => decide (c ∈ z.cps.toList)
    | _ => none)
  | _ => none
def dIn (d e : D) : Option Hd := (dInB d e).map fun b => .pv (.bool b)
def dNotIn (d e : D) : Option Hd := (dInB d e).map fun b => .pv (.bool (!b))
theorem dInB_ok {v w : V} {d e : D} {b : Bool} (hv : RepI K F Z H v d) (hw : RepI K F Z H w e) (h : dInB d e = some b) :
    (∃ d ds, Dp K H v d ∧ Dp K H w (.list ds) ∧ SeqAt.shaped d = true ∧ SeqAt.shaped (.list ds) = true ∧ (ds.any fun z => PyData.eqv z d) = b) ∨
    (∃ d ds, Dp K H v d ∧ Dp K H w (.tuple ds) ∧ SeqAt.shaped d = true ∧ SeqAt.shaped (.tuple ds) = true ∧ (ds.any fun z => PyData.eqv z d) = b) ∨
    (∃ (c : Nat) (z : Str), v = .str ⟨#[c]⟩ ∧ w = .str z ∧ decide (c ∈ z.cps.toList) = b) := by
  cases e with
  | list ds =>
    simp only [dInB] at h
    split at h
    · rename_i hl
      cases h
      obtain ⟨h1, h2⟩ := Bool.and_eq_true_iff.mp hl
      exact .inl ⟨d, ds, hv.dp (okD_nd h1), hw.dp (okD_nd h2), h1, h2, rfl⟩
    · cases h
  | tuple ds =>
    simp only [dInB] at h
    split at h
    · rename_i hl
      cases h
      obtain ⟨h1, h2⟩ := Bool.and_eq_true_iff.mp hl
      exact .inr (.inl ⟨d, ds, hv.dp (okD_nd h1), hw.dp (okD_nd h2), h1, h2, rfl⟩)
    · cases h
  | str z =>
    cases d with
    | str x =>
      simp only [dInB] at h
      obtain ⟨c, hc, rfl⟩ := Option.map_eq_some_iff.mp h
      have hx := sign1_eq hc
      subst hx
      exact .inr (.inr ⟨c, z, hv.str, hw.str, rfl⟩)
    | _ => simp [dInB] at h
  | _ => simp [dInB] at h
theorem does_in : Does2 K (rInU K) dIn := by
  intro F Z γ σ H v w d e h Q s hv hw hg k
  obtain ⟨b, hb, rfl⟩ := Option.map_eq_some_iff.mp hg
  have q : Q (.bl b) H := k _ H (Same.refl H) (.bl _) newIn_pv
  rcases dInB_ok hv hw hb with ⟨d, ds, h1, h2, h3, h4, h5⟩ | ⟨d, ds, h1, h2, h3, h4, h5⟩ | ⟨c, z, h1, h2, h3⟩
  · exact .inl ⟨d, ds, h1, h2, h3, h4, by rw [h5]; exact q⟩
  · exact .inr (.inl ⟨d, ds, h1, h2, h3, h4, by rw [h5]; exact q⟩)
  · exact .inr (.inr ⟨c, z, h1, h2, by rw [h3]; exact q⟩)
theorem does_notIn : Does2 K (rNotInU K) dNotIn := by
  intro F Z γ σ H v w d e h Q s hv hw hg k
  obtain ⟨b, hb, rfl⟩ := Option.map_eq_some_iff.mp hg
  have q : Q (.bl (!b)) H := k _ H (Same.refl H) (.bl _) newIn_pv
  rcases dInB_ok hv hw hb with ⟨d, ds, h1, h2, h3, h4, h5⟩ | ⟨d, ds, h1, h2, h3, h4, h5⟩ | ⟨c, z, h1, h2, h3⟩
  · exact .inl ⟨d, ds, h1, h2, h3, h4, by rw [h5]; exact q⟩
  · exact .inr (.inl ⟨d, ds, h1, h2, h3, h4, by rw [h5]; exact q⟩)
  · exact .inr (.inr ⟨c, z, h1, h2, by rw [h3]; exact q⟩)
def rIsN : R2 := fun x y H Q => y = .non ∧ Q (.bl (decide (x = .non))) H
def rNotN : R2 := fun x y H Q => y = .non ∧ Q (.bl (!decide (x = .non))) H
theorem op_isN1 : OpR X (compareOp .Is) rIsN := op_isN
theorem op_notN1 : OpR X (compareOp .IsNot) rNotN := op_notN
def isNonD : D → Bool
  | .none => true
  | _ => false
theorem repI_non {v : V} {d : D} (h : RepI K F Z H v d) : decide (v = .non) = isNonD d := by
  rcases h with h | ⟨a, rfl, h⟩
  · cases h <;> rfl
  · cases h <;> rfl
def dIsN (d e : D) : Option Hd := match e with
  | .none => some (.pv (.bool (isNonD d)))
  | _ => none
def dNotN (d e : D) : Option Hd := match e with
  | .none => some (.pv (.bool (!isNonD d)))
  | _ => none
theorem does_isN : Does2 K rIsN dIsN := by
  intro F Z γ σ H v w d e h Q s hv hw hg k
  match e, hw, hg with
  | .none, hw, hg =>
    cases hg
    refine ⟨hw.none, ?_⟩
    rw [repI_non hv]
    exact k _ H (Same.refl H) (.bl _) newIn_pv
theorem does_notN : Does2 K rNotN dNotN := by
  intro F Z γ σ H v w d e h Q s hv hw hg k
  match e, hw, hg with
  | .none, hw, hg =>
    cases hg
    refine ⟨hw.none, ?_⟩
    rw [repI_non hv]
    exact k _ H (Same.refl H) (.bl _) newIn_pv
/-! ### subscripts, slices -/
def atD (ds : List D) (i : Int) : Option D := atI ds i
theorem atI_reps {vs : List V} {ds : List D} {i : Int} {d : D} {av : Addr → Prop} (r : Reps K av H vs ds) (e : atI ds i = some d) : ∃ v, atI vs i = some v ∧ Rep K av H v d := by
  unfold atI at e ⊢
  rw [r.length]
  cases q : ixN ds.length i with
  | none => rw [q] at e; cases e
  | some j =>
    rw [q] at e
    exact r.get e
def dIx : D → D → Option Hd
  | .list ds, .int i => (atD ds i).map .pv
  | .tuple ds, .int i => (atD ds i).map .pv
  | .str z, .int i => if z.length ≤ big then (atI z.cps.toList i).map fun c => .pv (.str ⟨#[c]⟩) else none
  | _, _ => none
theorem does_ix : Does2 K (rIx K) dIx := by
  intro F Z γ σ H v w d e h Q s hv hw hg k
  match d, e, hv, hw, hg with
  | .list ds, .int i, hv, hw, hg =>
    obtain ⟨x, hx, rfl⟩ := Option.map_eq_some_iff.mp hg
    obtain ⟨p, xs, rfl, hz, r, q⟩ := hv.lst
    obtain ⟨u, hu, ru⟩ := atI_reps q hx
    exact .inl ⟨p, xs, i, u, rfl, hw.int, r, hu, k _ H (Same.refl H) ru newIn_pv⟩
  | .tuple ds, .int i, hv, hw, hg =>
    obtain ⟨x, hx, rfl⟩ := Option.map_eq_some_iff.mp hg
    obtain ⟨p, xs, rfl, hz, r, q⟩ := hv.tup
    obtain ⟨u, hu, ru⟩ := atI_reps q hx
    exact .inr (.inl ⟨p, xs, i, u, rfl, hw.int, r.t, hu, k _ H (Same.refl H) ru newIn_pv⟩)
  | .str z, .int i, hv, hw, hg =>
    simp only [dIx] at hg
    split at hg
    · rename_i hl
      obtain ⟨c, hc, rfl⟩ := Option.map_eq_some_iff.mp hg
      exact .inr (.inr ⟨z, i, c, hv.str, hw.int, big_le hl, hc, k _ H (Same.refl H) (.str _) newIn_pv⟩)
    · cases hg
def cutD (xs : List D) (lo hi : Option Int) : List D := (xs.drop (HT.sIx xs.length 0 lo)).take (HT.sIx xs.length xs.length hi - HT.sIx xs.length 0 lo)
theorem cut_reps {vs : List V} {ds : List D} {lo hi : Option Int} {av : Addr → Prop} (r : Reps K av H vs ds) : Reps K av H (cutV vs lo hi) (cutD ds lo hi) := by
  unfold cutV cutD
  rw [r.length]
  exact (r.drop _).take _
def dSl (d : D) (lo hi : Option Int) : Option Hd := match d with
  | .list ds => some (.nw (.list (cutD ds lo hi)))
  | .tuple ds => some (.pv (.tuple (cutD ds lo hi)))
  | .str z => if z.length ≤ big then some (.pv (.str (cutS z lo hi))) else none
  | _ => none
def rSlU (K : PySem.W.Frag) : V → Option Int → Option Int → Hp → VK → Prop := fun x lo hi H Q => rSlL K x lo hi H Q ∨ rSlF K x lo hi H Q ∨ rSlS x lo hi H Q
theorem sl_any : SlR X (rSlU X.K) := slR_or sl_list (slR_or sl_tupF sl_str)
theorem cutV_whole {xs : List V} {lo hi : Option Int} (h : HT.sIx xs.length 0 lo = 0 ∧ HT.sIx xs.length xs.length hi = xs.length) : cutV xs lo hi = xs := by
  unfold cutV
  rw [h.1, h.2]
  simp
theorem does_sl {lo hi : Option Int} : Does1 K (fun v H Q => rSlU K v lo hi H Q) (fun d => dSl d lo hi) := by
  intro F Z γ σ H v d h Q s hv hg k
  match d, hv, hg with
  | .list ds, hv, hg =>
    cases hg
    obtain ⟨p, xs, rfl, hz, r, q⟩ := hv.lst
    exact .inl ⟨p, xs, rfl, r, fun t ht => k _ _ (same_new ht) (SR.newL (Nat.le_trans (cutV_length xs lo hi) hz) s ht (cut_reps q)) (newIn_ref ht)⟩
  | .tuple ds, hv, hg =>
    cases hg
    obtain ⟨p, xs, rfl, hz, r, q⟩ := hv.tup
    refine .inr (.inl ⟨p, xs, rfl, r.t, fun e => ?_, fun _ t o ht ho => ?_⟩)
    · have c := cut_reps (lo := lo) (hi := hi) q
      rw [cutV_whole e] at c
      exact k _ H (Same.refl H) (Rep.tup hz r c) newIn_pv
    · exact k _ _ (same_new ht) (SR.newT (Nat.le_trans (cutV_length xs lo hi) hz) s ht ho (cut_reps q)) newIn_pv
  | .str z, hv, hg =>
    simp only [dSl] at hg
    split at hg
    · rename_i hl
      cases hg
      exact .inr (.inr ⟨z, hv.str, big_le hl, k _ H (Same.refl H) (.str _) newIn_pv⟩)
    · cases hg
/-- a bound of a slice -/
abbrev SO := List Sl → R (Option Int)
def oNone : SO := fun γ => .ok none γ
def oSome (f : SE) : SO := fun γ => (f γ).bind fun h γ1 => match h with
  | .pv (.int i) => .ok (some i) γ1
  | _ => .no
def PostO (K : PySem.W.Frag) (F : Fr) (W : WX) (Z : List Addr) (σ : L2.St) (H : Hp) (r : R (Option Int)) (Q : Option Int → Hp → Prop) : Prop := match r with
  | .ok b γ' => ∀ H', SR K F Z γ' σ H' → Kp Z H H' → Q b H'
  | .ex c γ' => ∀ Z' σ' H', SR K F Z' γ' σ' H' → WOk K W c σ' H'
  | .no => False
def TOp (K : PySem.W.Frag) (F : Fr) (W : WX) (f : SO) : TO := fun σ H Q => ∃ Z γ, SR K F Z γ σ H ∧ PostO K F W Z σ H (f γ) Q
structure GO (X : Cx) (e : Option Expr) (f : SO) : Prop where
  run : ∀ (F : Fr) (W : WX), Takes X W → PO X e (TOp X.K F W f)
theorem _root_.L2.PO.weak {e : Option Expr} {t t' : TO} (h : PO X e t) (w : ∀ σ H Q, t' σ H Q → t σ H Q) : PO X e t' := ⟨fun pins s σ H Q I q => h.run pins s σ H Q I (w σ H Q q)⟩
theorem PostO.mono {W : WX} {Q Q' : Option Int → Hp → Prop} {r : R (Option Int)} (p : PostO K F W Z σ H r Q) (k : ∀ v H', Q v H' → Q' v H') : PostO K F W Z σ H r Q' := by
  cases r with
  | ok h γ' => exact fun H' a b => k _ _ (p H' a b)
  | ex c γ' => exact p
  | no => exact p
theorem go_none : GO X none oNone := ⟨fun F W tk => po_none.weak fun σ H Q ⟨Z, γ, s, p⟩ => p H s (Kp.refl _ _)⟩
theorem go_some {e : Expr} {f : SE} (h : GE X e f) : GO X (some e) (oSome f) := ⟨fun F W tk => (po_some (h.run F W tk)).weak fun σ H Q ⟨Z, γ, s, p⟩ => by
  refine ⟨Z, γ, s, ?_⟩
  have p : PostO X.K F W Z σ H ((f γ).bind fun h γ1 => match h with
    | .pv (.int i) => .ok (some i) γ1
    | _ => .no) Q := p
  cases q : f γ with
  | no => rw [q] at p; exact p.elim
  | ex c γ1 => rw [q] at p; exact p
  | ok h1 γ1 =>
    rw [q] at p
    intro v H1 s1 k1 r1 _
    match h1, r1, s1, p with
    | .pv (.int i), r1, s1, p =>
      have r2 : Rep X.K (av F Z) H1 v (.int i) := r1
      cases r2
      exact ⟨i, rfl, p H1 s1 k1⟩⟩
def vSl (f : SE) (fl fh : SO) : SE := fun γ => (f γ).bind fun h γ1 => (fl γ1).bind fun lo γ2 => (fh γ2).bind fun hi γ3 => fin1 γ3 ((rs γ3 h).bind fun d => dSl d lo hi)
theorem Post.bindO {W : WX} {Q : VK} {r : R (Option Int)} {k : Option Int → List Sl → R Hd} (p : Post K F W Z σ H (r.bind k) Q) :
    PostO K F W Z σ H r (fun b H1 => ∃ γ1, r = .ok b γ1 ∧ SR K F Z γ1 σ H1 ∧ Kp Z H H1 ∧ Post K F W Z σ H1 (k b γ1) Q) := by
  cases r with
  | no => exact p
  | ex c γ' => exact p
  | ok b γ1 =>
    intro H1 s1 k1
    refine ⟨γ1, rfl, s1, k1, ?_⟩
    have p1 : Post K F W Z σ H (k b γ1) Q := p
    cases e : k b γ1 with
    | no => rw [e] at p1; exact p1
    | ex c γ' => rw [e] at p1; exact p1
    | ok h2 γ2 =>
      rw [e] at p1
      exact fun u H2 s2 k2 r2 n2 => p1 u H2 s2 (k1.trans k2) r2 (n2.back k1 s1)
theorem ge_sl {e : Expr} {lo hi : Option Expr} {f : SE} {fl fh : SO} {p2 pos : Pos} (he : GE X e f) (hl : GO X lo fl) (hh : GO X hi fh) : GE X (.Subscript e (.Slice lo hi none p2) pos) (vSl f fl fh) :=
  ⟨fun F W tk => (pe_slice sl_any (he.run F W tk) (hl.run F W tk) (hh.run F W tk)).weak fun σ H Q ⟨Z, γ, s, p⟩ => by
    refine ⟨Z, γ, s, p.bind.mono fun v H1 ⟨h1, γ1, _, s1, k1, r1, p1⟩ => ?_⟩
    refine ⟨Z, γ1, s1, (Post.bindO p1).mono fun l H2 ⟨γ2, _, s2, k2, p2⟩ => ?_⟩
    refine ⟨Z, γ2, s2, (Post.bindO p2).mono fun u H3 ⟨γ3, _, s3, k3, p3⟩ => ?_⟩
    exact run1 does_sl s3 ((r1.keep k2).keep k3) p3⟩
end
end GL

set_option Elab.async false
set_option linter.all false
set_option autoImplicit false
set_option maxRecDepth 100000
set_option maxHeartbeats 2000000
namespace GL
open PySem PySem.Spec PyProof.Rows L2

/-! ### calls of built-in functions and types -/
def rsAll (γ : List Sl) : List Hd → Option (List D)
  | [] => some []
  | h :: hs => (rs γ h).bind fun d => (rsAll γ hs).map (d :: ·)
inductive RepIs (K : PySem.W.Frag) (F : Fr) (Z : List Addr) (H : Hp) : List V → List D → Prop
  | nil : RepIs K F Z H [] []
  | cons {v : V} {d : D} {vs : List V} {ds : List D} : RepI K F Z H v d → RepIs K F Z H vs ds → RepIs K F Z H (v :: vs) (d :: ds)
section
variable {X : Cx} {pos : Pos} {K : PySem.W.Frag} {F : Fr} {W : WX} {Z : List Addr} {γ : List Sl} {σ : L2.St} {H : Hp} {Q : VK}
theorem HdsOk.rsAll : ∀ {hs : List Hd} {vs : List V} {ds : List D}, HdsOk K F Z H σ vs hs → SR K F Z γ σ H → GL.rsAll γ hs = some ds → RepIs K F Z H vs ds
  | [], _, _, h, _, e => by
    cases h
    cases e
    exact .nil
  | h :: hs, _, ds, hh, s, e => by
    cases hh with
    | cons h1 h2 =>
      obtain ⟨d, e1, e2⟩ := Option.bind_eq_some_iff.mp e
      obtain ⟨es, e3, rfl⟩ := Option.map_eq_some_iff.mp e2
      exact .cons (h1.rs s e1) (HdsOk.rsAll h2 s e3)
def DoesN (K : PySem.W.Frag) (r : List V → Hp → VK → Prop) (g : List D → Option Hd) : Prop := ∀ (F : Fr) (Z : List Addr) (γ : List Sl) (σ : L2.St) (H : Hp) (vs : List V) (ds : List D) (h : Hd) (Q : VK), SR K F Z γ σ H → RepIs K F Z H vs ds → g ds = some h →
  (∀ u H', Same H H' → HdOk K F Z H' σ u h → NewIn H u h → Q u H') → r vs H Q
def vFn (g : List D → Option Hd) (fa : SA) : SE := fun γ => (fa γ).bind fun hs γ1 => fin1 γ1 ((GL.rsAll γ1 hs).bind g)
theorem runN {r : List V → Hp → VK → Prop} {g : List D → Option Hd} (dz : DoesN K r g) {hs : List Hd} {vs : List V} (s : SR K F Z γ σ H) (hv : HdsOk K F Z H σ vs hs) (p : Post K F W Z σ H (fin1 γ ((GL.rsAll γ hs).bind g)) Q) : r vs H Q := by
  cases e : GL.rsAll γ hs with
  | none => rw [e] at p; exact p.elim
  | some d =>
    rw [e] at p
    have p : Post K F W Z σ H (fin1 γ (g d)) Q := p
    cases e2 : g d with
    | none => rw [e2] at p; exact p.elim
    | some h2 =>
      rw [e2] at p
      exact dz F Z γ σ H vs d h2 Q s (hv.rsAll s e) e2 fun u H' k r n => p.end_ s k r n
theorem fn_run {r : List V → Hp → VK → Prop} {g : List D → Option Hd} {fa : SA} (dz : DoesN K r g) (h : T K F W (vFn g fa) σ H Q) : tCB r (TAr K F W fa) σ H Q := by
  obtain ⟨Z, γ, s, p⟩ := h
  exact ⟨Z, γ, s, p.bindA.mono fun vs H1 ⟨hs, γ1, _, s1, k1, r1, p1⟩ => runN dz s1 r1 p1⟩
theorem ge_blt {x : Str} {id : String} {p : Pos} {r : List V → Hp → VK → Prop} {g : List D → Option Hd} {e : Expr} {es : List Expr} {fa : SA} (hc : CallR X (.builtin id) r) (dz : DoesN X.K r g) (hg : Gl X x) (hm : X.mg x = none) (hv : bootBuiltins x = some (.builtin id)) (ha : GA X (e :: es) fa)
    (hn : x ≠ "__name__" := by decide) (hdb : (x == ("__debug__" : Str)) = false := by decide) (he : starEach (e :: es) X.env = (false, eval e X.env) :: starEach es X.env := by rfl) (hpl : (backTo pos (starEach es X.env)).any (·.1) = false := by rfl) :
    GE X (.Call (.Name x p) (e :: es) [] pos) (vFn g fa) := ⟨fun F W tk => (pe_callB hc hg hm hv (ha.run F W tk) hn hdb he hpl).weak fun σ H Q h => fn_run dz h⟩
theorem ge_ty {x : Str} {t : String} {p : Pos} {r : List V → Hp → VK → Prop} {g : List D → Option Hd} {e : Expr} {es : List Expr} {fa : SA} (hc : CallR X (.type t) r) (dz : DoesN X.K r g) (hg : Gl X x) (hm : X.mg x = none) (hv : bootBuiltins x = some (.type t)) (ha : GA X (e :: es) fa)
    (hn : x ≠ "__name__" := by decide) (hdb : (x == ("__debug__" : Str)) = false := by decide) (he : starEach (e :: es) X.env = (false, eval e X.env) :: starEach es X.env := by rfl) (hpl : (backTo pos (starEach es X.env)).any (·.1) = false := by rfl) :
    GE X (.Call (.Name x p) (e :: es) [] pos) (vFn g fa) := ⟨fun F W tk => (pe_callTy hc hg hm hv (ha.run F W tk) hn hdb he hpl).weak fun σ H Q h => fn_run dz h⟩

/-! #### len -/
def nLen : List D → Option Hd
  | [.str z] => if z.length ≤ big then some (.pv (.int z.length)) else none
  | [.list ds] => some (.pv (.int ds.length))
  | [.tuple ds] => some (.pv (.int ds.length))
  | _ => none
def rLen (K : PySem.W.Frag) : List V → Hp → VK → Prop := fun xs H Q => ∃ x n, xs = [x] ∧ LenV K x H n ∧ Q (.int n) H
theorem cr_len : CallR X (.builtin "len") (rLen X.K) := call_len
theorem does_len : DoesN K (rLen K) nLen := by
  intro F Z γ σ H vs ds h Q s hv hg k
  match ds, hv, hg with
  | [.str z], .cons hv .nil, hg =>
    simp only [nLen] at hg
    split at hg
    · rename_i hl
      cases hg
      have e := hv.str
      subst e
      exact ⟨.str z, z.length, rfl, ⟨big_le hl, rfl⟩, k _ H (Same.refl H) (.int _) newIn_pv⟩
    · cases hg
  | [.list ds], .cons hv .nil, hg =>
    cases hg
    obtain ⟨a, xs, rfl, hz, r, q⟩ := hv.lst
    exact ⟨_, xs.length, rfl, .inl ⟨xs, r, rfl⟩, by rw [q.length]; exact k _ H (Same.refl H) (.int _) newIn_pv⟩
  | [.tuple ds], .cons hv .nil, hg =>
    cases hg
    obtain ⟨a, xs, rfl, hz, r, q⟩ := hv.tup
    exact ⟨_, xs.length, rfl, .inr ⟨xs, r.t, rfl⟩, by rw [q.length]; exact k _ H (Same.refl H) (.int _) newIn_pv⟩

/-! #### list(..), tuple(..) of lists and tuples -/
def nList : List D → Option Hd
  | [.list ds] => some (.nw (.list ds))
  | [.tuple ds] => some (.nw (.list ds))
  | _ => none
def rList (K : PySem.W.Frag) : List V → Hp → VK → Prop := fun xs H Q => ∃ p ys, xs = [.ref p] ∧ (SqL K H p ys ∨ SqT K H p ys) ∧ ∀ l, H l = none → Q (.ref l) (upd H l (.lst ys))
theorem cr_list : CallR X (.type "list") (rList X.K) := call_list_of
theorem does_list : DoesN K (rList K) nList := by
  intro F Z γ σ H vs ds h Q s hv hg k
  match ds, hv, hg with
  | [.list ds], .cons hv .nil, hg =>
    cases hg
    obtain ⟨a, xs, rfl, hz, r, q⟩ := hv.lst
    exact ⟨a, xs, rfl, .inl r, fun l hl => k _ _ (same_new hl) (SR.newL hz s hl q) (newIn_ref hl)⟩
  | [.tuple ds], .cons hv .nil, hg =>
    cases hg
    obtain ⟨a, xs, rfl, hz, r, q⟩ := hv.tup
    exact ⟨a, xs, rfl, .inr r.t, fun l hl => k _ _ (same_new hl) (SR.newL hz s hl q) (newIn_ref hl)⟩
def nTup : List D → Option Hd
  | [.list ds] => some (.pv (.tuple ds))
  | [.tuple ds] => some (.pv (.tuple ds))
  | _ => none
def rTupF (K : PySem.W.Frag) : List V → Hp → VK → Prop := fun xs H Q => ∃ p ys, xs = [.ref p] ∧ ((SqL K H p ys ∧ ∀ l o, H l = none → o.dict = none → Q (.ref l) (upd H l (.frz o (.tup ys)))) ∨ (SqT K H p ys ∧ Q (.ref p) H))
theorem cr_tup : CallR X (.type "tuple") (rTupF X.K) := by
  rintro pins s σ H _ us Q I r ⟨p, ys, rfl, h⟩
  obtain ⟨u, rfl, rx⟩ := vals1 r
  cases rx
  rcases h with ⟨hq, q⟩ | ⟨hq, q⟩
  · obtain ⟨vs, r', pl, hz⟩ := I.list hq
    refine call_tuple_list pl.isList (fun h' kp => ?_) (by rw [List.size_toArray, ← r'.length]; exact hz)
    have I1 : Inv X pins σ H { s with heap := h' } := I.kept (t' := s.toks) kp
    exact ⟨.ref h'.objs.size, _, I1.tnew r' hz, rfl, q _ (tob vs) (I1.hok.fresh (Nat.le_refl _)) rfl⟩
  · obtain ⟨vs, r', pl, hz⟩ := I.tuple hq
    exact call_tuple_same pl ⟨.ref p, H, I, rfl, q⟩
theorem does_tup : DoesN K (rTupF K) nTup := by
  intro F Z γ σ H vs ds h Q s hv hg k
  match ds, hv, hg with
  | [.list ds], .cons hv .nil, hg =>
    cases hg
    obtain ⟨a, xs, rfl, hz, r, q⟩ := hv.lst
    exact ⟨a, xs, rfl, .inl ⟨r, fun l o hl ho => k _ _ (same_new hl) (SR.newT hz s hl ho q) newIn_pv⟩⟩
  | [.tuple ds], .cons hv .nil, hg =>
    cases hg
    obtain ⟨a, xs, rfl, hz, r, q⟩ := hv.tup
    exact ⟨a, xs, rfl, .inr ⟨r.t, k _ _ (Same.refl H) (Rep.tup hz r q) newIn_pv⟩⟩
/-! #### list(range(..)), tuple(range(..)) -/
def bds : List Hd → Option (Int × Int)
  | [.pv (.int n)] => if n ≤ 1000000 ∧ -1000000 ≤ n then some (0, n) else none
  | [.pv (.int m), .pv (.int n)] => if n ≤ 1000000 ∧ -1000000 ≤ n ∧ -1000000 ≤ m ∧ m ≤ 1000000 then some (m, n) else none
  | _ => none
def vLRg (fa : SA) : SE := fun γ => (fa γ).bind fun hs γ1 => fin1 γ1 ((bds hs).map fun b => .nw (.list (rangeD b.1 (b.2 - b.1).toNat)))
def vTRg (fa : SA) : SE := fun γ => (fa γ).bind fun hs γ1 => fin1 γ1 ((bds hs).map fun b => .pv (.tuple (rangeD b.1 (b.2 - b.1).toNat)))
theorem rg_reps {av : Addr → Prop} {a b : Int} : Reps K av H (rgV a b) (rangeD a (b - a).toNat) := by
  unfold rgV rangeD
  generalize List.range (b - a).toNat = l
  induction l with
  | nil => exact .nil
  | cons i l ih => exact .cons (.int _) ih
theorem rg_len {a b : Int} (h : RgOk a b) : (rgV a b).length ≤ sizeLine := by
  rw [rgV_length, sizeLine_eq]
  obtain ⟨_, _, _, _, h⟩ := h
  exact h
def tTupRgF (te : L2.St → Hp → (Int → Int → Hp → Prop) → Prop) : TE := fun σ H Q => te σ H fun a b H1 => RgOk a b ∧ ∀ q o, H1 q = none → o.dict = none → Q (.ref q) (upd H1 q (.frz o (.tup (rgV a b))))
theorem pe_tupRgF {e : Expr} {te : L2.St → Hp → (Int → Int → Hp → Prop) → Prop} {p pos : Pos} (hc : X.calm = true) (hg : Gl X "tuple") (hm : X.mg "tuple" = none) (he : PRg X e te) (na : starEach [e] X.env = (false, eval e X.env) :: starEach [] X.env := by rfl) : PE X (.Call (.Name "tuple" p) [e] [] pos) (tTupRgF te) := by
  refine ⟨fun pins s σ H Q I h => ?_⟩
  refine Call_ (ld_blt I hg hm boot_tuple (PyProof.Rows.callWith_type1 (args_cons (thn (he pins s σ H _ I h) fun x s1 ⟨r, a, b, t, u, v, H1, ex, hr, I1, ok, q⟩ => args_nil ?_) na) na))
  subst ex
  have hz := rg_len ok
  obtain ⟨b1, b2, b3, b4, b5⟩ := ok
  refine call_tuple_range (n := (b - a).toNat) (I1.ok.hd hc) hr (small_one b1 b2 b3 b4) (rangeSize_nat a b) b5 fun h' tk acc hk hi => ?_
  have I2 : Inv X pins σ H1 { s1 with heap := h', toks := tk } := I1.kept hk
  have I3 := I2.tnew (vals_rg hi) hz
  refine ⟨.ref h'.objs.size, _, ?_, rfl, q _ (tob acc.toList) (I2.hok.fresh (Nat.le_refl _)) rfl⟩
  have e1 : tob acc.toList = { cls := .type "tuple", data := .seq acc } := by unfold tob; rw [Array.toArray_toList]
  rw [e1] at I3 ⊢
  exact I3
theorem prg_or {e : Expr} {te te' : L2.St → Hp → (Int → Int → Hp → Prop) → Prop} (h : PRg X e te) (w : ∀ σ H Q, te' σ H Q → te σ H Q) : PRg X e te' := fun pins s σ H Q I q => h pins s σ H Q I (w σ H Q q)
/-- the bounds of a range -/
def TRg (K : PySem.W.Frag) (F : Fr) (W : WX) (fa : SA) : L2.St → Hp → (Int → Int → Hp → Prop) → Prop := fun σ H Q => ∃ Z γ, SR K F Z γ σ H ∧ PostA K F W Z σ H (fa γ) fun vs H1 => ((∃ n, vs = [.int n] ∧ Q 0 n H1) ∨ ∃ m n, vs = [.int m, .int n] ∧ Q m n H1)
structure GRg (X : Cx) (e : Expr) (fa : SA) : Prop where
  run : ∀ (F : Fr) (W : WX), Takes X W → PRg X e (TRg X.K F W fa)
theorem grg_1 {a : Expr} {f : SE} {p pos : Pos} (hg : Gl X "range") (hm : X.mg "range" = none) (ha : GE X a f) (na : starEach [a] X.env = (false, eval a X.env) :: starEach [] X.env := by rfl) : GRg X (.Call (.Name "range" p) [a] [] pos) (aCons f aNil) :=
  ⟨fun F W tk => prg_or (prg_1 hg hm (ha.run F W tk) na) fun σ H Q ⟨Z, γ, s, p⟩ => by
    refine ⟨Z, γ, s, p.bindE.mono fun v H1 ⟨h1, γ1, _, s1, k1, r1, p1⟩ => ?_⟩
    have q := p1 [v] H1 s1 (Kp.refl _ _) (.cons r1 .nil)
    rcases q with ⟨n, e, q⟩ | ⟨m, n, e, q⟩
    · cases e
      exact ⟨n, rfl, q⟩
    · cases e⟩
theorem grg_2 {a b : Expr} {f g : SE} {p pos : Pos} (hg : Gl X "range") (hm : X.mg "range" = none) (ha : GE X a f) (hb : GE X b g) (na : starEach [a, b] X.env = (false, eval a X.env) :: starEach [b] X.env := by rfl)
    (nb : starEach [b] X.env = (false, eval b X.env) :: starEach [] X.env := by rfl) (hp : (backTo pos (starEach [b] X.env)).any (·.1) = false := by rfl) : GRg X (.Call (.Name "range" p) [a, b] [] pos) (aCons f (aCons g aNil)) :=
  ⟨fun F W tk => prg_or (prg_2 hg hm (ha.run F W tk) (hb.run F W tk) na nb hp) fun σ H Q ⟨Z, γ, s, p⟩ => by
    refine ⟨Z, γ, s, p.bindE.mono fun v H1 ⟨h1, γ1, _, s1, k1, r1, p1⟩ => ?_⟩
    refine ⟨Z, γ1, s1, (PostA.bindA p1).bindE.mono fun w H2 ⟨h2, γ2, _, s2, k2, r2, p2⟩ => ?_⟩
    have q := p2 [w] H2 s2 (Kp.refl _ _) (.cons r2 .nil)
    obtain ⟨h3, γ3, e3, s3, k3, r3, p3⟩ := q
    have q := p3 [v, w] H2 s3 (Kp.refl _ _) (.cons (r1.keep k2) r3)
    rcases q with ⟨n, e, q⟩ | ⟨m, n, e, q⟩
    · cases e
    · cases e
      exact ⟨m, n, rfl, rfl, q⟩⟩
theorem bds_ok {hs : List Hd} {vs : List V} {b : Int × Int} (h : HdsOk K F Z H σ vs hs) (e : bds hs = some b) : ((vs = [.int b.2] ∧ b.1 = 0) ∨ vs = [.int b.1, .int b.2]) ∧ RgOk b.1 b.2 := by
  match hs, h, e with
  | [.pv (.int n)], .cons h1 .nil, e =>
    simp only [bds] at e
    split at e
    · rename_i hn
      cases e
      have h2 : Rep K (av F Z) H _ (.int n) := h1
      cases h2
      exact ⟨.inl ⟨rfl, rfl⟩, by unfold RgOk; omega⟩
    · cases e
  | [.pv (.int m), .pv (.int n)], .cons h1 (.cons h2 .nil), e =>
    simp only [bds] at e
    split at e
    · rename_i hn
      cases e
      have h3 : Rep K (av F Z) H _ (.int m) := h1
      have h4 : Rep K (av F Z) H _ (.int n) := h2
      cases h3
      cases h4
      exact ⟨.inr rfl, by unfold RgOk; omega⟩
    · cases e
theorem rg_split {b : Int × Int} {vs : List V} {P : Int → Int → Prop} (h : (vs = [V.int b.2] ∧ b.1 = 0) ∨ vs = [V.int b.1, V.int b.2]) (p : P b.1 b.2) : (∃ n, vs = [.int n] ∧ P 0 n) ∨ ∃ m n, vs = [.int m, .int n] ∧ P m n := by
  rcases h with ⟨e, e0⟩ | e
  · rw [e0] at p
    exact .inl ⟨b.2, e, p⟩
  · exact .inr ⟨b.1, b.2, e, p⟩
theorem ge_listRg {e : Expr} {fa : SA} {p pos : Pos} (hc : X.calm = true) (hg : Gl X "list") (hm : X.mg "list" = none) (he : GRg X e fa) (na : starEach [e] X.env = (false, eval e X.env) :: starEach [] X.env := by rfl) : GE X (.Call (.Name "list" p) [e] [] pos) (vLRg fa) :=
  ⟨fun F W tk => (pe_listRg hc hg hm (he.run F W tk) na).weak fun σ H Q ⟨Z, γ, s, p⟩ => by
    refine ⟨Z, γ, s, p.bindA.mono fun vs H1 ⟨hs, γ1, _, s1, k1, r1, p1⟩ => ?_⟩
    cases e1 : bds hs with
    | none => rw [e1] at p1; exact p1.elim
    | some b =>
      rw [e1] at p1
      obtain ⟨h1, h2⟩ := bds_ok r1 e1
      exact rg_split (P := fun a b => RgOk a b ∧ ∀ q, H1 q = none → Q (.ref q) (upd H1 q (.lst (rgV a b)))) h1 ⟨h2, fun q hq => p1.end_ s1 (same_new hq) (SR.newL (rg_len h2) s1 hq rg_reps) (newIn_ref hq)⟩⟩
theorem ge_tupRg {e : Expr} {fa : SA} {p pos : Pos} (hc : X.calm = true) (hg : Gl X "tuple") (hm : X.mg "tuple" = none) (he : GRg X e fa) (na : starEach [e] X.env = (false, eval e X.env) :: starEach [] X.env := by rfl) : GE X (.Call (.Name "tuple" p) [e] [] pos) (vTRg fa) :=
  ⟨fun F W tk => (pe_tupRgF hc hg hm (he.run F W tk) na).weak fun σ H Q ⟨Z, γ, s, p⟩ => by
    refine ⟨Z, γ, s, p.bindA.mono fun vs H1 ⟨hs, γ1, _, s1, k1, r1, p1⟩ => ?_⟩
    cases e1 : bds hs with
    | none => rw [e1] at p1; exact p1.elim
    | some b =>
      rw [e1] at p1
      obtain ⟨h1, h2⟩ := bds_ok r1 e1
      exact rg_split (P := fun a b => RgOk a b ∧ ∀ q o, H1 q = none → o.dict = none → Q (.ref q) (upd H1 q (.frz o (.tup (rgV a b))))) h1 ⟨h2, fun q o hq ho => p1.end_ s1 (same_new hq) (SR.newT (rg_len h2) s1 hq ho rg_reps) newIn_pv⟩⟩

/-! #### min, max, int, str, all, any -/
def nMin : List D → Option Hd
  | [.int i, .int j] => some (.pv (.int (if j < i then j else i)))
  | _ => none
def nMax : List D → Option Hd
  | [.int i, .int j] => some (.pv (.int (if j > i then j else i)))
  | _ => none
def nInt : List D → Option Hd
  | [.int i] => some (.pv (.int i))
  | [.bool b] => some (.pv (.int (if b then 1 else 0)))
  | _ => none
def nStr : List D → Option Hd
  | [.int i] => if i.natAbs.log2 < 1920 then some (.pv (.str (toString i))) else none
  | _ => none
def rMin2 : List V → Hp → VK → Prop := fun xs H Q => ∃ i j, xs = [.int i, .int j] ∧ Q (.int (if j < i then j else i)) H
def rMax2 : List V → Hp → VK → Prop := fun xs H Q => ∃ i j, xs = [.int i, .int j] ∧ Q (.int (if j > i then j else i)) H
def rInt1 : List V → Hp → VK → Prop := fun xs H Q => (∃ i, xs = [.int i] ∧ Q (.int i) H) ∨ ∃ k, xs = [.bl k] ∧ Q (.int (if k then 1 else 0)) H
def rStr1 : List V → Hp → VK → Prop := fun xs H Q => ∃ i, xs = [.int i] ∧ i.natAbs.log2 < 1920 ∧ Q (.str (toString i)) H
theorem cr_min (hc : X.calm = true) : CallR X (.builtin "min") rMin2 := call_min2 hc
theorem cr_max (hc : X.calm = true) : CallR X (.builtin "max") rMax2 := call_max2 hc
theorem cr_int : CallR X (.type "int") rInt1 := call_int1
theorem cr_str : CallR X (.type "str") rStr1 := call_str_int
theorem does_min : DoesN K rMin2 nMin := by
  intro F Z γ σ H vs ds h Q s hv hg k
  match ds, hv, hg with
  | [.int i, .int j], .cons h1 (.cons h2 .nil), hg =>
    cases hg
    exact ⟨i, j, by rw [h1.int, h2.int], k _ H (Same.refl H) (.int _) newIn_pv⟩
theorem does_max : DoesN K rMax2 nMax := by
  intro F Z γ σ H vs ds h Q s hv hg k
  match ds, hv, hg with
  | [.int i, .int j], .cons h1 (.cons h2 .nil), hg =>
    cases hg
    exact ⟨i, j, by rw [h1.int, h2.int], k _ H (Same.refl H) (.int _) newIn_pv⟩
theorem does_int : DoesN K rInt1 nInt := by
  intro F Z γ σ H vs ds h Q s hv hg k
  match ds, hv, hg with
  | [.int i], .cons h1 .nil, hg =>
    cases hg
    exact .inl ⟨i, by rw [h1.int], k _ H (Same.refl H) (.int _) newIn_pv⟩
  | [.bool i], .cons h1 .nil, hg =>
    cases hg
    exact .inr ⟨i, by rw [h1.bool], k _ H (Same.refl H) (.int _) newIn_pv⟩
theorem does_str : DoesN K rStr1 nStr := by
  intro F Z γ σ H vs ds h Q s hv hg k
  match ds, hv, hg with
  | [.int i], .cons h1 .nil, hg =>
    simp only [nStr] at hg
    split at hg
    · rename_i hl
      cases hg
      exact ⟨i, by rw [h1.int], hl, k _ H (Same.refl H) (.str _) newIn_pv⟩
    · cases hg
def boolsD : List D → Option (List Bool)
  | [] => some []
  | .bool b :: r => (boolsD r).map (b :: ·)
  | _ :: _ => none
theorem boolsD_eq : ∀ {ds : List D} {bs : List Bool}, boolsD ds = some bs → ds = bs.map PyData.bool
  | [], _, e => by cases e; rfl
  | .bool b :: r, bs, e => by
    obtain ⟨cs, e1, rfl⟩ := Option.map_eq_some_iff.mp (show (boolsD r).map (b :: ·) = some bs from e)
    rw [boolsD_eq e1]
    rfl
  | .none :: _, _, e => by cases e
  | .int _ :: _, _, e => by cases e
  | .str _ :: _, _, e => by cases e
  | .list _ :: _, _, e => by cases e
  | .tuple _ :: _, _, e => by cases e
  | .dict _ :: _, _, e => by cases e
def nAll : List D → Option Hd
  | [.list ds] => (boolsD ds).map fun bs => .pv (.bool (bs.all id))
  | _ => none
def nAny : List D → Option Hd
  | [.list ds] => (boolsD ds).map fun bs => .pv (.bool (bs.any id))
  | _ => none
theorem does_all : DoesN K (rAll K) nAll := by
  intro F Z γ σ H vs ds h Q s hv hg k
  match ds, hv, hg with
  | [.list ds], .cons hv .nil, hg =>
    obtain ⟨bs, e, rfl⟩ := Option.map_eq_some_iff.mp (show (boolsD ds).map _ = some h from hg)
    have e := boolsD_eq e
    subst e
    obtain ⟨a, xs, rfl, hz, r, q⟩ := hv.lst
    have e2 := reps_bools_of q
    subst e2
    exact ⟨a, bs, rfl, r, k _ H (Same.refl H) (.bl _) newIn_pv⟩
theorem does_any : DoesN K (rAny K) nAny := by
  intro F Z γ σ H vs ds h Q s hv hg k
  match ds, hv, hg with
  | [.list ds], .cons hv .nil, hg =>
    obtain ⟨bs, e, rfl⟩ := Option.map_eq_some_iff.mp (show (boolsD ds).map _ = some h from hg)
    have e := boolsD_eq e
    subst e
    obtain ⟨a, xs, rfl, hz, r, q⟩ := hv.lst
    have e2 := reps_bools_of q
    subst e2
    exact ⟨a, bs, rfl, r, k _ H (Same.refl H) (.bl _) newIn_pv⟩
end
end GL

set_option Elab.async false
set_option linter.all false
set_option autoImplicit false
set_option maxRecDepth 100000
set_option maxHeartbeats 2000000
/-! enumerate of a list, a tuple -/
namespace PySem
open Sem (wp)
theorem meets_enum1 {v : Value} {o : Obj} {H : Heap → Prop} (B : Begins v o H) :
    Meets (Builtin.«enumerate.__new__» ⟨[.type "enumerate", v], []⟩) (fun _ R s => H s.heap ∧ R (.ok (.ret (.ref (s.heap.push o).objs.size)))
      { s with heap := (s.heap.push o).push { cls := .type "enumerate", data := .fields #[.none, .bool false, .ref s.heap.objs.size, rawInt 0, .none, .none] } }) :=
  .of_wp fun prog w A R s q => by
    obtain ⟨hh, g, d, tk, os⟩ := s; obtain ⟨h1, q⟩ := q
    have hsub := sub_enumerate
    have run : ∀ {A1 : Around} {E : Value → Shared → Prop} {Q : Value → Shared → Prop}, Q (.ref hh.objs.size) ⟨hh.push o, g, d, tk, os⟩ → wpAny (model prog w) A1 (pyIter v) Q E ⟨hh, g, d, tk, os⟩ :=
      fun z => B.iter prog w _ _ ⟨hh, g, d, tk, os⟩ _ h1 z
    wp_walk using run
    refine wpAny_stack_any fun st => wpAny_pure ?_
    split
    · rename_i c _ _ _ _ _
      cases (c == Value.type "enumerate")
      · wp_walk using run
        exact ⟨_, rfl, q⟩
      · wp_walk using run
        exact ⟨_, rfl, q⟩
    · wp_walk using run
      exact ⟨_, rfl, q⟩
theorem call_enum1 {prog : Program} {w : World} {A : Around} {E : Value → Shared → Prop} {s : Shared} {v : Value} {o : Obj} {H : Heap → Prop} {Q : Value → Shared → Prop} (B : Begins v o H) (h1 : H s.heap)
    (h : ∀ h', IsEnum h' (s.heap.objs.size + 1) s.heap.objs.size 0 .none → h'.get? s.heap.objs.size = some o → (∀ b u, s.heap.get? b = some u → h'.get? b = some u) → Q (.ref (s.heap.objs.size + 1)) { s with heap := h' }) :
    wpAny (model prog w) A (call (.type "enumerate") [v]) Q E s := by
  refine callType_new F.called_enumerate (by decide) (F.typeCall_enumerate_1 _) (F.newCall_enumerate_1 _) (fun z => F.args_object_init_2 z _) F.entry_enumerate_new (meets_enum1 B) ⟨h1, ?_⟩
  have sz : (s.heap.push o).objs.size = s.heap.objs.size + 1 := Heap.size_push ..
  have ee := Heap.get?_push_size (s.heap.push o) (o := { cls := .type "enumerate", data := .fields #[.none, .bool false, .ref s.heap.objs.size, rawInt 0, .none, .none] }) rfl
  show _ ∧ _
  rw [sz] at ee ⊢
  exact ⟨⟨_, ee, rfl⟩, h _ ee (Heap.get?_push_of_some _ (Heap.get?_push_size _ B.free)) fun b u x => Heap.get?_push_of_some _ (Heap.get?_push_of_some _ x)⟩
theorem pyNext_enumT_end {prog : Program} {w : World} {A : Around} {E : Value → Shared → Prop} {s : Shared} {e it t : Addr} {i : Nat} {us : Array Value} {c : Int} {old : Value} {Q : Option Value → Shared → Prop} (hh : A.handled = none)
    (he : IsEnum s.heap e it c old) (hit : s.heap.IsTupleIter it t i) (ht : s.heap.IsTuple t us) (hx : us[i]? = none) (hQ : ∀ h', Heap.ExtBut it s.heap h' → Q none { s with heap := h' }) : wpAny (model prog w) A (pyNext (.ref e)) Q E s := by
  have ty : s.TypeIs (.ref e) "enumerate" := ⟨_, he, rfl⟩
  unfold pyNext
  refine wpAny_bind (wpAny_attempt (wpAny_callSpecial?_slot (name := Str.ofString "__next__") ty F.slot_enumerate_next (wpAny_call_entry F.slot_enumerate_next ty F.entry_enumerate_next ?_ (F.args_enumerate_next_1 _))))
  show wpAny _ _ (field (.ref e) 2 >>= _) _ _ _
  refine wpAny_bind (wpAny_field he rfl (x := .ref it) rfl (wpAny_bind (wpAny_nextOf_tuple_end hh hit ht hx fun h' x eb hx' => ?_)))
  obtain ⟨o, ho, hc⟩ := hx'
  exact wpAny_bind (wpAny_isInstance (T := "StopIteration") (b := true) ⟨o, ho, hc⟩ isSubtype_stop (wpAny_pure (hQ _ eb)))
end PySem
namespace GL
open PySem PySem.Spec PyProof.Rows L2

/-- a list or a tuple -/
def SqE (K : PySem.W.Frag) (tp : Bool) (H : Hp) (a : Addr) (xs : List V) : Prop := match tp with
  | true => SqT K H a xs
  | false => SqL K H a xs
def IteU (K : PySem.W.Frag) (tp : Bool) (a : Addr) : It :=
  ⟨fun i H => ∃ (xs : List V) (x : V), SqE K tp H a xs ∧ xs[i]? = some x,
   fun i H v H' => ∃ T o x, v = .ref T ∧ H T = none ∧ o.dict = none ∧ H' = upd H T (.frz o (.tup [.int (i : Nat), x])) ∧ ∀ xs, SqE K tp H a xs → xs[i]? = some x,
   fun i H => ∃ xs : List V, SqE K tp H a xs ∧ xs.length ≤ i⟩
/-- what an iterator draws on -/
def DrS (tp : Bool) (it a : Addr) (us : Array Value) (i : Nat) (h : Heap) : Prop := match tp with
  | true => h.IsTupleIter it a i ∧ h.IsTuple a us
  | false => h.IsListIter it a i ∧ h.IsList a us
theorem drs {prog : Program} {w : World} {A : Around} {tp : Bool} {it a : Addr} {us : Array Value} (hh : A.handled = none) (hne : a ≠ it) : Draws prog w A it [it, a] us.size (fun i v => us[i]? = some v) (DrS tp it a us) := by
  cases tp with
  | true => exact Draws.tuple hh it a hne us
  | false => exact Draws.list hh it a hne us
def IterAt (tp : Bool) (it a : Addr) (i : Nat) (h : Heap) : Prop := match tp with
  | true => h.IsTupleIter it a i
  | false => h.IsListIter it a i
section
variable {X : Cx} {pins : List (Addr × Obj)} {σ : L2.St} {H : Hp} {s : Shared}
theorem sqE_get {tp : Bool} {a it : Addr} {i : Nat} {xs : List V} (I : Inv X pins σ H s) (h : SqE X.K tp H a xs) (hi : IterAt tp it a i s.heap) : ∃ us : List Value, Vals xs us ∧ DrS tp it a us.toArray i s.heap ∧ a ≠ it ∧ xs.length ≤ sizeLine := by
  cases tp with
  | true =>
    obtain ⟨us, r, p, hz⟩ := I.tuple h
    refine ⟨us, r, ⟨hi, p⟩, fun e => ?_, hz⟩
    subst e
    obtain ⟨o, e1, c1, _⟩ := p
    obtain ⟨o2, e2, c2, _⟩ := hi
    rw [e1] at e2
    cases e2
    rw [c1] at c2
    exact absurd c2 (by decide)
  | false =>
    obtain ⟨us, r, p, hz⟩ := I.list h
    refine ⟨us, r, ⟨hi, p.isList⟩, fun e => ?_, hz⟩
    subst e
    obtain ⟨o, e1, c1, _⟩ := p.isList
    obtain ⟨o2, e2, c2, _⟩ := hi
    rw [e1] at e2
    cases e2
    rw [c1] at c2
    exact absurd c2 (by decide)
theorem sqE_inj {tp : Bool} {a : Addr} {xs ys : List V} (I : Inv X pins σ H s) (h : SqE X.K tp H a xs) (h2 : SqE X.K tp H a ys) : xs = ys := by
  cases tp with
  | true => exact I.tuple_inj h h2
  | false => exact I.list_inj h h2
theorem iterAt_obj {tp : Bool} {it a : Addr} {i : Nat} {h : Heap} (hi : IterAt tp it a i h) : ∃ o, h.get? it = some o ∧ ∀ v, o.data ≠ .cell v := by
  cases tp with
  | true =>
    obtain ⟨o, e, _, d⟩ := hi
    exact ⟨o, e, fun v z => by rw [d] at z; cases z⟩
  | false =>
    obtain ⟨o, e, _, d⟩ := hi
    exact ⟨o, e, fun v z => by rw [d] at z; cases z⟩
theorem iterAt_keep {tp : Bool} {it a : Addr} {i : Nat} {h h2 : Heap} (hi : IterAt tp it a i h) (k : ∀ o, h.get? it = some o → h2.get? it = some o) : IterAt tp it a i h2 := by
  cases tp with
  | true => exact Heap.IsTupleIter.at hi k
  | false => exact Heap.IsListIter.at hi k
theorem drs_iter {tp : Bool} {it a : Addr} {us : Array Value} {i : Nat} {h : Heap} (d : DrS tp it a us i h) : IterAt tp it a i h := by
  cases tp with
  | true => exact d.1
  | false => exact d.1
end
theorem turn_enumU {P : Program} {w : World} {K : PySem.W.Frag} {tp : Bool} {elts : List Expr} {kk : Nat} {tpos : Pos} (a e it : Addr) :
    Turn P w K (.Tuple elts kk tpos) (IteU K tp a) [e, it] e (fun i h => (∃ old, IsEnum h e it ((i : Nat) : Int) old) ∧ IterAt tp it a i h ∧ e ≠ it ∧ e ≠ a) where
  mem := by simp
  obj := fun i h ⟨⟨old, he⟩, hi, _⟩ b hb => by
    rcases (by simpa using hb : b = e ∨ b = it) with z | z
    · subst z
      exact ⟨_, he, fun v q => nomatch q⟩
    · subst z
      exact iterAt_obj hi
  keep := fun i h h' ⟨⟨old, he⟩, hi, hn⟩ k => ⟨⟨old, k e (by simp) _ he⟩, iterAt_keep hi fun o q => k it (by simp) o q, hn⟩
  item := by
    intro X hP hw hK hc i pins s σ H E I hf ⟨⟨old, he⟩, hi, hne, hna⟩ ⟨xs, x, hq, hx⟩
    subst hP hw hK
    obtain ⟨us, rv, dr, han, hz⟩ := sqE_get I hq hi
    obtain ⟨u, hu, ru⟩ := rv.get hx
    have hl : i < us.toArray.size := by
      rw [List.size_toArray]
      exact (List.getElem?_eq_some_iff.mp hu).1
    have el : e < s.heap.objs.size := Heap.lt_size he
    have il : it < s.heap.objs.size := by
      obtain ⟨o, q, _⟩ := iterAt_obj hi
      exact Heap.lt_size q
    refine wpAny_pyNext_enum_itemD (drs (tp := tp) (show X.A.in1.handled = none from I.ok.hd hc) han) he dr hl hne (by simp [hne, hna]) fun y h' tk hy ho hs' hT hsz hk => ?_
    have ey : y = u := by
      have : us.toArray[i]? = some u := by simpa using hu
      rw [this] at hy
      exact (Option.some.inj hy).symm
    subst ey
    refine ⟨_, rfl, wpAny_letOwnedTupleGo_enum (s := { s with heap := h', toks := tk + 1 }) ho fun h2 he2 sb => ?_⟩
    have hT2 := (sb.2 _ (Nat.ne_of_gt el)).trans hT
    have I1 : Inv X pins σ (upd H s.heap.objs.size (.frz _ (.tup [.int (i : Nat), x]))) { s with heap := h2, toks := tk + 1 } :=
      I.turnedNew (ch := [e, it]) (fun b ob hb q => (sb.2 b (fun z => hb (by simp [z]))).trans (hk b ob (fun z => hb (by simp [z])) (fun z => hb (by simp [z])) q)) hf (Nat.le_refl _)
        ⟨hT2, (by show 2 ≤ sizeLine; decide), [.int i tk, y], .cons ⟨_, rfl⟩ (.cons ru .nil), ⟨_, hT2, rfl, _, rfl⟩⟩
    have e1 : ((i + 1 : Nat) : Int) = (i : Int) + 1 := by omega
    refine ⟨.ref s.heap.objs.size, _, I1, rfl, ⟨_, _, x, rfl, I.hok.fresh (Nat.le_refl _), rfl, rfl, fun ys q => by rw [sqE_inj I q hq]; exact hx⟩, ⟨⟨y, by rw [e1]; exact he2⟩, iterAt_keep (drs_iter hs') fun o q => (sb.2 it (Ne.symm hne)).trans q, hne, hna⟩, fun b hb => ?_⟩
    have bl : b < s.heap.objs.size := by
      rcases (by simpa using hb : b = e ∨ b = it) with z | z
      · rw [z]; exact el
      · rw [z]; exact il
    rw [upd_ne (Nat.ne_of_lt bl)]
    exact (hf b hb).1
  done := by
    intro X hP hw hK hc i pins s σ H E I hf ⟨⟨old, he⟩, hi, hne, hna⟩ ⟨xs, hq, hx⟩
    subst hP hw hK
    obtain ⟨us, rv, dr, han, hz⟩ := sqE_get I hq hi
    obtain ⟨f0, f1, f2, f3, f4, f5⟩ := hf it (by simp)
    have hl := rv.length
    cases tp with
    | false => exact wpAny_pyNext_enum_end (I.ok.hd hc) he dr.1 dr.2 (by simp; omega) fun h' eb => ⟨rfl, I.turned (t' := s.toks) (fun b o hb q => eb b o hb q) f0 f1 f3 f4 f5⟩
    | true =>
      refine pyNext_enumT_end (I.ok.hd hc) he dr.1 dr.2 (by simp; omega) fun h' eb => ⟨rfl, I.turned (t' := s.toks) (fun b o hb q => eb b o hb q) f0 f1 f3 f4 f5⟩
  self := fun A i s Q E ⟨⟨_, he⟩, _⟩ h => wpAny_pyIter_enum he h
/-! #### the rule -/
section
variable {X : Cx} {pos : Pos} {K : PySem.W.Frag} {F : Fr} {W : WX} {Z : List Addr} {γ : List Sl} {σ : L2.St} {H : Hp}
def iEnumU (K : PySem.W.Frag) (ta : TA) : L2.TI := fun σ H R => ta σ H fun vs H1 => ∃ tp a xs, vs = [.ref a] ∧ SqE K tp H1 a xs ∧ R (IteU K tp a) H1
theorem pi_enumU {e : Expr} {ta : TA} {p tpos : Pos} {elts : List Expr} {kk : Nat} (hg : Gl X "enumerate") (hm : X.mg "enumerate" = none) (ha : PA X [e] ta) (hs : starEach [e] X.env = [(false, eval e X.env)] := by rfl) :
    PI X (.Tuple elts kk tpos) (.Call (.Name "enumerate" p) [e] [] pos) (iEnumU X.K ta) := by
  refine ⟨fun pins s σ H R I h => ?_⟩
  refine Call_ (ld_blt I hg hm boot_enumerate (PyProof.Rows.callWith_type1 (thn (ha.run pos pins s σ H _ I h) fun us s1 ⟨vs, H1, I1, r1, tp, a, xs, ex, hq, q⟩ => ?_) hs rfl))
  subst ex
  obtain ⟨u, rfl, ru⟩ := r1.one
  cases ru
  have fin : ∀ h' : Heap, IsEnum h' (s1.heap.objs.size + 1) s1.heap.objs.size 0 .none → IterAt tp s1.heap.objs.size a 0 h' → a < s1.heap.objs.size → (∀ b u, s1.heap.get? b = some u → h'.get? b = some u) →
      wpAny (model X.prog X.w) X.A (pyIter (.ref (s1.heap.objs.size + 1))) (PIE X pins σ (.Tuple elts kk tpos) R) X.xe { s1 with heap := h' } := fun h' he hi hl hk => by
    refine wpAny_pyIter_enum he ?_
    have I2 : Inv X pins σ H1 { s1 with heap := h' } := I1.kept (t' := s1.toks) hk
    have e1 : s1.heap.objs.size + 1 ≠ a := Nat.ne_of_gt (Nat.lt_succ_of_lt hl)
    refine ⟨s1.heap.objs.size + 1, [s1.heap.objs.size + 1, s1.heap.objs.size], _, _, H1, rfl, I2, turn_enumU a (s1.heap.objs.size + 1) s1.heap.objs.size, ⟨⟨.none, he⟩, hi, Nat.succ_ne_self _, e1⟩, fun b hb => ?_, q⟩
    have hle : s1.heap.objs.size ≤ b := by
      rcases (by simpa using hb : b = s1.heap.objs.size + 1 ∨ b = s1.heap.objs.size) with z | z
      · rw [z]; exact Nat.le_add_right _ _
      · rw [z]; exact Nat.le_refl _
    exact I1.fpOk hle (I1.hok.fresh hle)
  cases tp with
  | true =>
    obtain ⟨us, r, p', hz⟩ := I1.tuple hq
    exact call_enum1 (begins_tuple a us.toArray) (show s1.heap.IsTuple a us.toArray from p') fun h' he ho hk => fin h' he ⟨_, ho, rfl, rfl⟩ p'.lt hk
  | false =>
    obtain ⟨us, r, p', hz⟩ := I1.list hq
    exact call_enum1 (begins_list a us.toArray) p'.isList fun h' he ho hk => fin h' he ⟨_, ho, rfl, rfl⟩ p'.lt hk
/-- pairs of a place and an item -/
def pairsD : Nat → List D → List D
  | _, [] => []
  | n, d :: ds => .tuple [.int n, d] :: pairsD (n + 1) ds
theorem pairsD_len : ∀ (ds : List D) (n : Nat), (pairsD n ds).length = ds.length
  | [], _ => rfl
  | _ :: ds, n => by rw [pairsD, List.length_cons, List.length_cons, pairsD_len ds]
theorem pairsD_get : ∀ (ds : List D) (n i : Nat) (d : D), (pairsD n ds)[i]? = some d → ∃ x, ds[i]? = some x ∧ d = .tuple [.int ((n + i : Nat) : Int), x]
  | [], _, _, _, e => by simp [pairsD] at e
  | x :: ds, n, 0, d, e => by
    rw [pairsD] at e
    cases e
    exact ⟨x, rfl, rfl⟩
  | x :: ds, n, i + 1, d, e => by
    rw [pairsD, List.getElem?_cons_succ] at e
    obtain ⟨y, e1, e2⟩ := pairsD_get ds (n + 1) i d e
    refine ⟨y, by rw [List.getElem?_cons_succ]; exact e1, ?_⟩
    rw [e2, show n + 1 + i = n + (i + 1) by omega]
def iEnum (f : SA) : SI := fun γ => (f γ).bind fun hs γ1 => match hs with
  | [.pv (.list ds)] => .ok (pairsD 0 ds) γ1
  | [.pv (.tuple ds)] => .ok (pairsD 0 ds) γ1
  | [.nw (.list ds)] => .ok (pairsD 0 ds) γ1
  | _ => .no
/-- a plain list or tuple stands at a -/
def SeqIs (K : PySem.W.Frag) (tp : Bool) (a : Addr) (ds : List D) (A : Addr → Prop) (H : Hp) : Prop := match tp with
  | true => Rep K A H (.ref a) (.tuple ds)
  | false => Rep K A H (.ref a) (.list ds)
theorem seqIs_get {tp : Bool} {a : Addr} {ds : List D} {A : Addr → Prop} (h : SeqIs K tp a ds A H) : ∃ xs, SqE K tp H a xs ∧ Reps K A H xs ds ∧ xs.length ≤ sizeLine := by
  cases tp with
  | true =>
    cases (show Rep K A H (.ref a) (.tuple ds) from h) with
    | tup hz h1 h2 => exact ⟨_, h1.t, h2, hz⟩
  | false =>
    obtain ⟨a', xs, ea, hz, h1, h2⟩ := Rep.lstL (show Rep K A H (.ref a) (.list ds) from h)
    cases ea
    exact ⟨xs, h1, h2, hz⟩
theorem iteU_ok {tp : Bool} {a : Addr} {ds : List D} : ItOk K (IteU K tp a) (SeqIs K tp a ds) (pairsD 0 ds) where
  st := fun A H A' H' e h => by
    cases tp with
    | true => exact e _ _ h
    | false => exact e _ _ h
  go := fun A H i d h e => by
    obtain ⟨xs, h1, h2, hz⟩ := seqIs_get h
    obtain ⟨x, e1, rfl⟩ := pairsD_get ds 0 i d e
    obtain ⟨v, e2, r⟩ := h2.get e1
    refine ⟨⟨xs, v, h1, e2⟩, fun y H' ⟨T, o, z, ey, hT, ho, eH, hz2⟩ => ?_⟩
    subst ey eH
    have e3 := hz2 xs h1
    rw [e2] at e3
    cases e3
    refine ⟨same_new hT, .tup (by show 2 ≤ sizeLine; decide) (.inl ⟨o, ho, upd_same⟩) ?_⟩
    rw [Nat.zero_add]
    exact .cons (.int _) (.cons (Rep.keep (Kp.of_same (Z := []) (same_new hT)) (fun _ z => nomatch z) _ _ r) .nil)
  stop := fun A H h => by
    obtain ⟨xs, h1, h2, hz⟩ := seqIs_get h
    exact ⟨xs, h1, by rw [pairsD_len, h2.length]; exact Nat.le_refl _⟩
theorem gi_enum {e : Expr} {f : SA} {p tpos : Pos} {elts : List Expr} {kk : Nat} (hg : Gl X "enumerate") (hm : X.mg "enumerate" = none) (ha : GA X [e] f) (hs : starEach [e] X.env = [(false, eval e X.env)] := by rfl) : GI X (.Tuple elts kk tpos) (.Call (.Name "enumerate" p) [e] [] pos) (iEnum f) :=
  ⟨fun F W tk => (pi_enumU hg hm (ha.run F W tk) hs).weak fun σ H Q ⟨Z, γ, s, p⟩ => by
    refine ⟨Z, γ, s, p.bindA.mono fun vs H1 ⟨hs, γ1, _, s1, k1, r1, p1⟩ => ?_⟩
    have fin : ∀ (tp : Bool) (a : Addr) (ds : List PyData), vs = [.ref a] → SeqIs X.K tp a ds (av F Z) H1 → PostI X.K F W Z σ H1 (.ok (pairsD 0 ds) γ1) Q → ∃ tp a xs, vs = [.ref a] ∧ SqE X.K tp H1 a xs ∧ Q (IteU X.K tp a) H1 := fun tp a ds ev sq q => by
      obtain ⟨xs, h1, h2, hz⟩ := seqIs_get sq
      exact ⟨tp, a, xs, ev, h1, q _ _ H1 s1 (Kp.refl _ _) iteU_ok sq (by rw [pairsD_len, ← h2.length]; exact hz)⟩
    match hs, r1, p1 with
    | [.pv (.list ds)], .cons h1 .nil, p1 =>
      have h2 : Rep X.K (av F Z) H1 _ (.list ds) := h1
      obtain ⟨a, xs, rfl, _⟩ := h2.lstL
      exact fin false a ds rfl h2 p1
    | [.nw (.list ds)], .cons h1 .nil, p1 =>
      have h2 : Rep X.K (av F Z) H1 _ (.list ds) := h1.rep
      obtain ⟨a, xs, rfl, _⟩ := h2.lstL
      exact fin false a ds rfl h2 p1
    | [.pv (.tuple ds)], .cons h1 .nil, p1 =>
      have h2 : Rep X.K (av F Z) H1 _ (.tuple ds) := h1
      cases h2 with
      | tup hz a b => exact fin true _ ds rfl (Rep.tup hz a b) p1⟩
end
end GL

set_option Elab.async false
set_option linter.all false
set_option autoImplicit false
set_option maxRecDepth 100000
set_option maxHeartbeats 2000000
namespace GL
open PySem PySem.Spec PyProof.Rows L2

/-! ### methods -/
section
variable {X : Cx} {pos : Pos} {K : PySem.W.Frag} {F : Fr} {W : WX} {Z : List Addr} {γ : List Sl} {σ : L2.St} {H : Hp} {Q : VK}
/-- the receiver's type, tuples that are made here too -/
def tyG (K : PySem.W.Frag) (t : String) (x : V) (H : Hp) : Prop := tyV K t x H ∨ (t = "tuple" ∧ ∃ p xs, x = .ref p ∧ SqD K H p xs)
theorem tyG_is {pins : List (Addr × Obj)} {s : Shared} {t : String} {x : V} {v : Value} (I : Inv X pins σ H s) (r : RelV x v) (ty : tyG X.K t x H) : s.TypeIs v t ∧ ∀ a, v = .ref a → ∃ ob, s.heap.get? a = some ob ∧ ob.dict = none := by
  rcases ty with ty | ⟨rfl, p, xs, rfl, ⟨o, ho, h⟩ | ⟨o, vs, m, h1, h2, h3, _⟩⟩
  · exact tyV_is I r ty
  · cases r
    obtain ⟨e, z⟩ := I.hok p _ h
    obtain ⟨_, us, _, o2, e2, c2, _⟩ := (show ObjOk X.prog X.w H s.heap p (.tup xs) from z)
    rw [e] at e2
    cases e2
    refine ⟨⟨o, e, c2⟩, fun a q => ?_⟩
    cases q
    exact ⟨o, e, ho⟩
  · cases r
    refine ⟨⟨o, I.kIn p o h1, h3⟩, fun a q => ?_⟩
    cases q
    exact ⟨o, I.kIn _ o h1, h2⟩
def tBMG (K : PySem.W.Frag) (t : String) (r : V → List V → Hp → VK → Prop) (to : TE) (ta : TA) : TE := fun σ H Q => to σ H fun x H1 => tyG K t x H1 ∧ ta σ H1 fun xs H2 => r x xs H2 Q
theorem pe_bmG {o e : Expr} {es : List Expr} {to : TE} {t : TA} {name : Str} {apos cpos : Pos} {ty id : String} {r : V → List V → Hp → VK → Prop} (pa : PlainAttrs ty) (slot : Slot ty name id) (hty : typeOf (.builtin id) = pure (.type "method_descriptor")) (hm : MtR X id r) (ho : PE X o to) (ha : PA X (e :: es) t)
    (hbase : attributeBase o name X.env (eval o X.env) = eval o X.env := by rfl)
    (hfew : ((backTo cpos (starEach (e :: es) X.env)).all (fun x => !x.1) && (backToKw cpos (keywordEach [] X.env)).all (fun x => x.1.isSome) && decide ((e :: es).length + ([] : List Keyword).length + (if ([] : List Keyword).isEmpty then 0 else 1) < 30)) = true := by rfl)
    (hline : (apos.endLine == cpos.line) = true := by rfl) (hs : starEach (e :: es) X.env = (false, eval e X.env) :: starEach es X.env := by rfl) (hplain : (backTo cpos (starEach es X.env)).any (·.1) = false := by rfl) :
    PE X (.Call (.Attribute o name apos) (e :: es) [] cpos) (tBMG X.K ty r to t) := by
  refine ⟨fun pins s σ H Q I h => wpAny_Call_method_late hbase hfew hline rfl (thn (ho.run pins s σ H _ I h) fun v s1 ⟨x, H1, I1, r1, tt, q1⟩ => ?_)⟩
  obtain ⟨k1, k2⟩ := tyG_is I1 r1 tt
  refine ⟨ty, id, pa, slot, hty, k1, k2, ?_⟩
  have run := ha.run cpos pins s1 σ H1 _ I1 q1
  rw [hs] at run ⊢
  refine Calls.callWith_builtin (by show (false || (backTo cpos (starEach es X.env)).any (·.1)) = false; rw [hplain] <;> rfl) (Calls.evalArgs_plain (thn run fun us s2 ⟨vs, H2, I2, r2, q2⟩ => ?_))
  exact hm pins s2 σ H2 x vs v us Q I2 r1 r2 q2

/-! #### methods that change a list -/
def DoesM (K : PySem.W.Frag) (r : V → List V → Hp → VK → Prop) (g : List D → List D → Option (D × List D)) : Prop := ∀ (F : Fr) (Z : List Addr) (γ : List Sl) (σ : L2.St) (H : Hp) (i : Nat) (b : Bool) (a : Addr) (xs : List V) (cs ds : List D) (vs : List V) (e : D) (cs' : List D) (Q : VK),
  H a = some (.lst xs) → xs.length ≤ sizeLine → Reps K (av F Z) H xs cs → Reps K (av F Z) H vs ds → g cs ds = some (e, cs') →
  (∀ u ys, ys.length ≤ sizeLine → Reps K (av F Z) H ys cs' → Rep K (av F Z) H u e → Q u (upd H a (.lst ys))) → r (.ref a) vs H Q
def stepM (g : List D → List D → Option (D × List D)) (i : Nat) (γ : List Sl) (hs : List Hd) : R Hd := match γ[i]?, pvs hs with
  | some (.ce b (.list cs)), some ds => (match g cs ds with
    | some (e, cs') => .ok (.pv e) (γ.set i (.ce b (.list cs')))
    | none => .no)
  | some (.ow gh (.lst its)), some ds => (match (plainI its).bind fun cs => g cs ds with
    | some (e, cs') => .ok (.pv e) (γ.set i (.ow gh (.lst (cs'.map .inl))))
    | none => .no)
  | _, _ => .no
def isL : Sl → Bool
  | .ce _ (.list _) => true
  | .ow _ (.lst _) => true
  | _ => false
def vMt (g : List D → List D → Option (D × List D)) (fo : SE) (fa : SA) : SE := fun γ => (fo γ).bind fun h γ1 => match h with
  | .cl i => if (γ1[i]?).any isL = true then (fa γ1).bind fun hs γ2 => stepM g i γ2 hs else .no
  | _ => .no
/-- the list of a slot is changed -/
theorem SR.chg {i : Nat} {a : Addr} {b : Bool} {cs cs' : List D} {ys : List V} (s : SR K F Z γ σ H) (e : γ[i]? = some (.ce b (.list cs))) (es : σ[i]? = some (some (.ref a))) (hz : ys.length ≤ sizeLine) (r : Reps K (av F Z) H ys cs') :
    SR K F Z (γ.set i (.ce b (.list cs'))) σ (upd H a (.lst ys)) ∧ Kp Z H (upd H a (.lst ys)) := by
  obtain ⟨a1, e1, m, m1, m2, o⟩ := s.ce e
  rw [es] at e1
  cases e1
  obtain ⟨ob, eo, mo⟩ := o.some
  have k : Kp Z H (upd H a (.lst ys)) := Kp.mut m eo mo
  exact ⟨s.write e es k (fun b hb => upd_ne hb) (.lst hz upd_same (r.keep k avZ)), k⟩
/-- an owned list is changed -/
theorem SR.writeO {H' : Hp} {i : Nat} {a : Addr} {gh : Bool} {c c' : OC} (h : SR K F Z γ σ H) (e : γ[i]? = some (.ow gh c)) (es : σ[i]? = some (some (.ref a))) (k : Kp Z H H') (ka : ∀ b, b ≠ a → H' b = H b) (new : OcOk K (av F Z) H' σ a c')
    (hr : ∀ j ∈ c'.refs, ∃ c2, γ[j]? = some (.ow true c2)) : SR K F Z (γ.set i (.ow gh c')) σ H' := by
  obtain ⟨a1, e1, ma, m0, oa⟩ := h.nst.ok i gh c e
  rw [es] at e1
  cases e1
  have at_ : ∀ (j : Nat) (t : Sl), (γ.set i (.ow gh c'))[j]? = some t → (i = j ∧ t = .ow gh c') ∨ (i ≠ j ∧ γ[j]? = some t) := fun j t e => by
    by_cases q : i = j
    · subst q
      rw [List.getElem?_set, if_pos rfl] at e
      split at e
      · exact .inl ⟨rfl, (Option.some.inj e).symm⟩
      · cases e
    · rw [List.getElem?_set_ne q] at e
      exact .inr ⟨q, e⟩
  have gh_ : ∀ (j : Nat) (c2 : OC), γ[j]? = some (.ow true c2) → ∃ c3, (γ.set i (.ow gh c'))[j]? = some (.ow true c3) := fun j c2 ej => by
    by_cases q : i = j
    · subst q
      rw [e] at ej
      cases ej
      exact ⟨c', by rw [List.getElem?_set, if_pos rfl, if_pos (List.getElem?_eq_some_iff.mp e).1]⟩
    · exact ⟨c2, by rw [List.getElem?_set_ne q]; exact ej⟩
  refine { kp := fun b u eb cc => ?_, zn := h.zn, wz := h.wz, dm := fun b hb => ?_, len := by rw [List.length_set, h.len], at_ := fun j t ej => ?_, ap := fun j k2 x b1 c1 d1 e1 h1 h2 h3 h4 => ?_, nst := ⟨fun j g2 c2 ej => ?_, fun j g2 c2 ej x mx => ?_, fun j j2 g2 c2 x ej ej2 h3 h4 => ?_⟩ }
  · have q := h.kp b u eb cc
    by_cases hb : b = a
    · subst hb
      rw [m0] at eb
      cases eb
    · rw [ka b hb]
      exact q
  · by_cases hba : b = a
    · subst hba
      obtain ⟨o2, e2, _⟩ := new.some
      rw [e2]
      exact fun z => nomatch z
    · rw [ka b hba]
      exact h.dm b hb
  · rcases at_ j t ej with ⟨_, q⟩ | ⟨q, ej⟩
    · subst q
      trivial
    · have r := h.at_ j t ej
      cases t with
      | un => trivial
      | ow _ _ => trivial
      | va d =>
        obtain ⟨v, e2, r2⟩ := r
        exact ⟨v, e2, r2.keep k avZ⟩
      | ce b2 d2 =>
        obtain ⟨b, e2, m2, m3, m4, r2⟩ := r
        refine ⟨b, e2, m2, m3, m4, r2.keep k avZ (ka b fun z => ?_)⟩
        subst z
        exact q (h.nst.ap i j gh c b e (.inr ⟨b2, d2, ej⟩) es e2)
  · rcases at_ j _ h1 with ⟨_, q⟩ | ⟨_, q1⟩
    · cases q
    · rcases at_ k2 _ h2 with ⟨_, q⟩ | ⟨_, q2⟩
      · cases q
      · exact h.ap j k2 x b1 c1 d1 e1 q1 q2 h3 h4
  · rcases at_ j _ ej with ⟨q1, q2⟩ | ⟨q, ej⟩
    · subst q1
      cases q2
      exact ⟨a, es, ma, m0, new⟩
    · obtain ⟨b, e2, m2, m3, o2⟩ := h.nst.ok j g2 c2 ej
      exact ⟨b, e2, m2, m3, o2.imp (fun v d r => Rep.keep k avZ d v r) (fun _ _ => rfl) (ka b fun z => by
        subst z
        exact q (h.nst.ap i j gh c b e (.inl ⟨g2, c2, ej⟩) es e2))⟩
  · rcases at_ j _ ej with ⟨q1, q2⟩ | ⟨q, ej⟩
    · cases q2
      obtain ⟨c3, hc⟩ := hr x mx
      exact gh_ x c3 hc
    · obtain ⟨c3, hc⟩ := h.nst.gr j g2 c2 ej x mx
      exact gh_ x c3 hc
  · have own : ∃ g4 c4, γ[j]? = some (.ow g4 c4) := by
      rcases at_ j _ ej with ⟨q1, q2⟩ | ⟨q, ej⟩
      · subst q1
        exact ⟨gh, c, e⟩
      · exact ⟨g2, c2, ej⟩
    have own2 : (∃ g' c', γ[j2]? = some (.ow g' c')) ∨ ∃ b d, γ[j2]? = some (.ce b d) := by
      rcases ej2 with ⟨g', c'', q⟩ | ⟨b, d, q⟩
      · rcases at_ j2 _ q with ⟨q1, q2⟩ | ⟨_, q⟩
        · subst q1
          exact .inl ⟨gh, c, e⟩
        · exact .inl ⟨g', c'', q⟩
      · rcases at_ j2 _ q with ⟨_, q2⟩ | ⟨_, q⟩
        · cases q2
        · exact .inr ⟨b, d, q⟩
    obtain ⟨g4, c4, q4⟩ := own
    exact h.nst.ap j j2 g4 c4 x q4 own2 h3 h4
theorem inl_refs : ∀ cs : List D, refsI (cs.map .inl) = []
  | [] => rfl
  | _ :: cs => inl_refs cs
theorem inl_rep {A : Addr → Prop} : ∀ {cs : List D} {xs : List V}, Reps K A H xs cs → ItRep K A H σ xs (cs.map .inl)
  | [], _, h => by
    cases h
    exact .nil
  | _ :: cs, _, h => by
    cases h with
    | cons r t => exact .val r (inl_rep t)
theorem SR.chgO {i : Nat} {a : Addr} {gh : Bool} {c : OC} {cs' : List D} {ys : List V} (s : SR K F Z γ σ H) (e : γ[i]? = some (.ow gh c)) (es : σ[i]? = some (some (.ref a))) (hz : ys.length ≤ sizeLine) (r : Reps K (av F Z) H ys cs') :
    SR K F Z (γ.set i (.ow gh (.lst (cs'.map .inl)))) σ (upd H a (.lst ys)) ∧ Kp Z H (upd H a (.lst ys)) := by
  obtain ⟨a1, e1, m, m0, o⟩ := s.nst.ok i gh c e
  rw [es] at e1
  cases e1
  obtain ⟨ob, eo, mo⟩ := o.some
  have k : Kp Z H (upd H a (.lst ys)) := Kp.mut m eo mo
  exact ⟨s.writeO e es k (fun b hb => upd_ne hb) ⟨ys, upd_same, hz, inl_rep (r.keep k avZ)⟩ (fun j mj => by
    have mj : j ∈ refsI (cs'.map .inl) := mj
    rw [inl_refs] at mj
    cases mj), k⟩
theorem cell_lst {i : Nat} {a : Addr} {b : Bool} {cs : List D} (s : SR K F Z γ σ H) (e : γ[i]? = some (.ce b (.list cs))) (es : σ[i]? = some (some (.ref a))) : ∃ xs, H a = some (.lst xs) ∧ xs.length ≤ sizeLine ∧ Reps K (av F Z) H xs cs := by
  obtain ⟨a1, e1, m, m1, m2, o⟩ := s.ce e
  rw [es] at e1
  cases e1
  cases o with
  | lst hz h1 h2 => exact ⟨_, h1, hz, h2⟩
theorem own_lst {i : Nat} {a : Addr} {gh : Bool} {its : List (D ⊕ Nat)} (s : SR K F Z γ σ H) (e : γ[i]? = some (.ow gh (.lst its))) (es : σ[i]? = some (some (.ref a))) : ∃ xs, H a = some (.lst xs) ∧ xs.length ≤ sizeLine ∧ ItRep K (av F Z) H σ xs its := by
  obtain ⟨a1, e1, m, m0, o⟩ := s.nst.ok i gh _ e
  rw [es] at e1
  cases e1
  exact o
theorem cl_ref {i : Nat} {v : V} {b : Bool} {d : D} (s : SR K F Z γ σ H) (e : γ[i]? = some (.ce b d)) (r : HdOk K F Z H σ v (.cl i)) : ∃ a, v = .ref a ∧ σ[i]? = some (some (.ref a)) := by
  obtain ⟨a, e1, _⟩ := s.ce e
  have e2 : σ[i]? = some (some v) := r
  rw [e2] at e1
  cases e1
  exact ⟨a, rfl, e2⟩
theorem cl_own {i : Nat} {v : V} {gh : Bool} {c : OC} (s : SR K F Z γ σ H) (e : γ[i]? = some (.ow gh c)) (r : HdOk K F Z H σ v (.cl i)) : ∃ a, v = .ref a ∧ σ[i]? = some (some (.ref a)) := by
  obtain ⟨a, e1, _⟩ := s.nst.ok i gh c e
  have e2 : σ[i]? = some (some v) := r
  rw [e2] at e1
  cases e1
  exact ⟨a, rfl, e2⟩
/-- a list stands in the slot -/
theorem lst_at {i : Nat} {v : V} (s : SR K F Z γ σ H) (h : (γ[i]?).any isL = true) (r : HdOk K F Z H σ v (.cl i)) : ∃ a xs, v = .ref a ∧ σ[i]? = some (some (.ref a)) ∧ H a = some (.lst xs) := by
  cases q : γ[i]? with
  | none => rw [q] at h; cases h
  | some sl =>
    rw [q] at h
    cases sl with
    | un => cases h
    | va d => cases h
    | ce b d =>
      cases d with
      | list cs =>
        obtain ⟨a, e1, e2⟩ := cl_ref s q r
        obtain ⟨xs, h1, _⟩ := cell_lst s q e2
        exact ⟨a, xs, e1, e2, h1⟩
      | _ => cases h
    | ow gh c =>
      cases c with
      | dct _ => cases h
      | lst its =>
        obtain ⟨a, e1, e2⟩ := cl_own s q r
        obtain ⟨xs, h1, _⟩ := own_lst s q e2
        exact ⟨a, xs, e1, e2, h1⟩
theorem stepM_run {r : V → List V → Hp → VK → Prop} {g : List D → List D → Option (D × List D)} {i : Nat} {a : Addr} {hs : List Hd} {vs : List V} (dz : DoesM K r g) (s : SR K F Z γ σ H) (es : σ[i]? = some (some (.ref a))) (hv : HdsOk K F Z H σ vs hs) (p : Post K F W Z σ H (stepM g i γ hs) Q) : r (.ref a) vs H Q := by
  unfold stepM at p
  split at p
  · rename_i b cs ds e1 e2
    split at p
    · rename_i e cs' e3
      obtain ⟨xs, h1, h2, h3⟩ := cell_lst s e1 es
      refine dz F Z γ σ H i b a xs cs ds vs e cs' Q h1 h2 h3 (pvs_ok hv e2) e3 fun u ys hz ry ru => ?_
      obtain ⟨s2, k2⟩ := s.chg e1 es hz ry
      exact p u _ s2 k2 (Rep.keep k2 avZ _ _ ru) newIn_pv
    · exact p.elim
  · rename_i gh its ds e1 e2
    split at p
    · rename_i e cs' e3
      obtain ⟨cs, e4, e3⟩ := Option.bind_eq_some_iff.mp e3
      obtain ⟨xs, h1, h2, h3⟩ := own_lst s e1 es
      refine dz F Z γ σ H i gh a xs cs ds vs e cs' Q h1 h2 (plainI_ok h3 e4) (pvs_ok hv e2) e3 fun u ys hz ry ru => ?_
      obtain ⟨s2, k2⟩ := s.chgO e1 es hz ry
      exact p u _ s2 k2 (Rep.keep k2 avZ _ _ ru) newIn_pv
    · exact p.elim
  · exact p.elim
theorem ge_mt {o e : Expr} {es : List Expr} {fo : SE} {fa : SA} {name : Str} {apos cpos : Pos} {id : String} {r : V → List V → Hp → VK → Prop} {g : List D → List D → Option (D × List D)} (slot : Slot "list" name id) (hty : typeOf (.builtin id) = pure (.type "method_descriptor")) (hm : MtR X id r) (dz : DoesM X.K r g) (ho : GE X o fo) (ha : GA X (e :: es) fa)
    (hbase : attributeBase o name X.env (eval o X.env) = eval o X.env := by rfl)
    (hfew : ((backTo cpos (starEach (e :: es) X.env)).all (fun x => !x.1) && (backToKw cpos (keywordEach [] X.env)).all (fun x => x.1.isSome) && decide ((e :: es).length + ([] : List Keyword).length + (if ([] : List Keyword).isEmpty then 0 else 1) < 30)) = true := by rfl)
    (hline : (apos.endLine == cpos.line) = true := by rfl) (hs : starEach (e :: es) X.env = (false, eval e X.env) :: starEach es X.env := by rfl) (hplain : (backTo cpos (starEach es X.env)).any (·.1) = false := by rfl) :
    GE X (.Call (.Attribute o name apos) (e :: es) [] cpos) (vMt g fo fa) :=
  ⟨fun F W tk => (pe_bm PySem.F.plainAttrs_list slot hty hm (ho.run F W tk) (ha.run F W tk) hbase hfew hline hs hplain).weak fun σ H Q ⟨Z, γ, s, p⟩ => by
    refine ⟨Z, γ, s, p.bind.mono fun v H1 ⟨h1, γ1, _, s1, k1, r1, p1⟩ => ?_⟩
    cases h1 with
    | pv d => exact p1.elim
    | nw d => exact p1.elim
    | cl i =>
      have p1 : Post X.K F W Z σ H1 (if (γ1[i]?).any isL = true then (fa γ1).bind fun hs γ2 => stepM g i γ2 hs else .no) Q := p1
      by_cases hl : (γ1[i]?).any isL = true
      · rw [if_pos hl] at p1
        obtain ⟨a, xs, rfl, ea, h1⟩ := lst_at s1 hl r1
        exact ⟨.inl ⟨rfl, xs, SqL.of h1⟩, Z, γ1, s1, p1.bindA.mono fun vs H2 ⟨hs, γ2, _, s2, k2, r2, p2⟩ => stepM_run dz s2 ea r2 p2⟩
      · rw [if_neg hl] at p1
        exact p1.elim⟩
def vMt0 (g : List D → List D → Option (D × List D)) (fo : SE) : SE := fun γ => (fo γ).bind fun h γ1 => match h with
  | .cl i => stepM g i γ1 []
  | _ => .no
theorem ge_mt0 {o : Expr} {fo : SE} {name : Str} {apos cpos : Pos} {id : String} {r : V → List V → Hp → VK → Prop} {g : List D → List D → Option (D × List D)} (slot : Slot "list" name id) (hty : typeOf (.builtin id) = pure (.type "method_descriptor")) (hm : MtR X id r) (dz : DoesM X.K r g) (ho : GE X o fo)
    (hbase : attributeBase o name X.env (eval o X.env) = eval o X.env := by rfl) (hline : (apos.endLine == cpos.line) = true := by rfl) : GE X (.Call (.Attribute o name apos) [] [] cpos) (vMt0 g fo) :=
  ⟨fun F W tk => (pe_bm0 PySem.F.plainAttrs_list slot hty hm (ho.run F W tk) hbase hline).weak fun σ H Q ⟨Z, γ, s, p⟩ => by
    refine ⟨Z, γ, s, p.bind.mono fun v H1 ⟨h1, γ1, _, s1, k1, r1, p1⟩ => ?_⟩
    cases h1 with
    | pv d => exact p1.elim
    | nw d => exact p1.elim
    | cl i =>
      have p1 : Post X.K F W Z σ H1 (stepM g i γ1 []) Q := p1
      cases e0 : γ1[i]? with
      | none =>
        unfold stepM at p1
        rw [e0] at p1
        exact p1.elim
      | some sl =>
        have hl : (γ1[i]?).any isL = true := by
          cases hq : (γ1[i]?).any isL with
          | true => rfl
          | false =>
            unfold stepM at p1
            rw [e0] at p1 hq
            cases sl with
            | un => exact p1.elim
            | va d => exact p1.elim
            | ow gh c =>
              cases c with
              | dct _ => exact p1.elim
              | lst its => cases hq
            | ce b d =>
              cases d with
              | list cs => cases hq
              | _ => exact p1.elim
        obtain ⟨a, xs, rfl, ea, h1⟩ := lst_at s1 hl r1
        exact ⟨.inl ⟨rfl, xs, SqL.of h1⟩, stepM_run dz s1 ea .nil p1⟩⟩
def mAppend : List D → List D → Option (D × List D)
  | cs, [d] => if cs.length < big then some (.none, cs ++ [d]) else none
  | _, _ => none
def mPop : List D → List D → Option (D × List D)
  | cs, [] => (cs[cs.length - 1]?).map fun d => (d, cs.dropLast)
  | _, _ => none
def mPopAt : List D → List D → Option (D × List D)
  | cs, [.int i] => (ixN cs.length i).bind fun j => (cs[j]?).map fun d => (d, cs.eraseIdx j)
  | _, _ => none
theorem does_append : DoesM K rAppend mAppend := by
  intro F Z γ σ H i b a xs cs ds vs e cs' Q h1 h2 h3 h4 hg k
  match ds, h4, hg with
  | [d], .cons r .nil, hg =>
    simp only [mAppend] at hg
    split at hg
    · rename_i hl
      cases hg
      have l1 := h3.length
      have hb : big < sizeLine := by decide
      exact ⟨a, xs, _, rfl, rfl, h1, by omega, k _ _ (by rw [List.length_append, List.length_singleton]; omega) (h3.append (.cons r .nil)) .non⟩
    · cases hg
theorem does_pop : DoesM K rPop mPop := by
  intro F Z γ σ H i b a xs cs ds vs e cs' Q h1 h2 h3 h4 hg k
  match ds, h4, hg with
  | [], .nil, hg =>
    obtain ⟨d, e1, e2⟩ := Option.map_eq_some_iff.mp (show (cs[cs.length - 1]?).map _ = some (e, cs') from hg)
    cases e2
    obtain ⟨v, ev, rv⟩ := h3.get e1
    rw [← h3.length] at ev
    exact ⟨a, xs, v, rfl, rfl, h1, ev, k _ _ (by rw [List.length_dropLast]; omega) h3.dropLast rv⟩
theorem does_popAt : DoesM K rPopAt mPopAt := by
  intro F Z γ σ H i b a xs cs ds vs e cs' Q h1 h2 h3 h4 hg k
  match ds, h4, hg with
  | [.int n], .cons r .nil, hg =>
    cases r
    obtain ⟨j, e1, e2⟩ := Option.bind_eq_some_iff.mp (show (ixN cs.length n).bind _ = some (e, cs') from hg)
    obtain ⟨d, e3, e4⟩ := Option.map_eq_some_iff.mp e2
    cases e4
    obtain ⟨v, ev, rv⟩ := h3.get e3
    rw [← h3.length] at e1
    obtain ⟨q1, q2, q3, q4⟩ := ixN_seq e1
    have l1 := len_erase xs j
    have hn := sizeLine_eq
    exact ⟨a, xs, n, j, v, rfl, rfl, h1, by omega, by omega, q1, ev, k _ _ (by omega) (h3.erase j) rv⟩

/-! #### methods that only read -/
def DoesR (K : PySem.W.Frag) (r : V → List V → Hp → VK → Prop) (g : D → List D → Option Hd) : Prop := ∀ (F : Fr) (Z : List Addr) (γ : List Sl) (σ : L2.St) (H : Hp) (v : V) (d : D) (vs : List V) (ds : List D) (h : Hd) (Q : VK), SR K F Z γ σ H → RepI K F Z H v d → RepIs K F Z H vs ds → g d ds = some h →
  (∀ u H', Same H H' → HdOk K F Z H' σ u h → NewIn H u h → Q u H') → r v vs H Q
def kindD : D → String
  | .list _ => "list"
  | .tuple _ => "tuple"
  | .str _ => "str"
  | .int _ => "int"
  | _ => ""
def vMr (ty : String) (g : D → List D → Option Hd) (fo : SE) (fa : SA) : SE := fun γ => (fo γ).bind fun h γ1 => match rs γ1 h with
  | some d => if kindD d = ty then (fa γ1).bind fun hs γ2 => fin1 γ2 ((rs γ2 h).bind fun d => (GL.rsAll γ2 hs).bind (g d)) else .no
  | none => .no
theorem tyG_of {v : V} {d : D} {ty : String} (h : RepI K F Z H v d) (hk : kindD d = ty) (hn : ty ≠ "") : tyG K ty v H := by
  subst hk
  cases d with
  | list ds =>
    obtain ⟨a, xs, rfl, hz, r, q⟩ := h.lst
    exact .inl (.inl ⟨rfl, xs, r⟩)
  | tuple ds =>
    obtain ⟨a, xs, rfl, hz, r, q⟩ := h.tup
    exact .inr ⟨rfl, a, xs, rfl, r⟩
  | str z =>
    have e := h.str
    subst e
    exact .inl rfl
  | int z =>
    have e := h.int
    subst e
    exact .inl rfl
  | none => exact absurd rfl hn
  | bool b => exact absurd rfl hn
  | dict b => exact absurd rfl hn
theorem ge_mr {o e : Expr} {es : List Expr} {fo : SE} {fa : SA} {name : Str} {apos cpos : Pos} {ty id : String} {r : V → List V → Hp → VK → Prop} {g : D → List D → Option Hd} (hn : ty ≠ "") (pa : PlainAttrs ty) (slot : Slot ty name id) (hty : typeOf (.builtin id) = pure (.type "method_descriptor")) (hm : MtR X id r) (dz : DoesR X.K r g) (ho : GE X o fo) (ha : GA X (e :: es) fa)
    (hbase : attributeBase o name X.env (eval o X.env) = eval o X.env := by rfl)
    (hfew : ((backTo cpos (starEach (e :: es) X.env)).all (fun x => !x.1) && (backToKw cpos (keywordEach [] X.env)).all (fun x => x.1.isSome) && decide ((e :: es).length + ([] : List Keyword).length + (if ([] : List Keyword).isEmpty then 0 else 1) < 30)) = true := by rfl)
    (hline : (apos.endLine == cpos.line) = true := by rfl) (hs : starEach (e :: es) X.env = (false, eval e X.env) :: starEach es X.env := by rfl) (hplain : (backTo cpos (starEach es X.env)).any (·.1) = false := by rfl) :
    GE X (.Call (.Attribute o name apos) (e :: es) [] cpos) (vMr ty g fo fa) :=
  ⟨fun F W tk => (pe_bmG pa slot hty hm (ho.run F W tk) (ha.run F W tk) hbase hfew hline hs hplain).weak fun σ H Q ⟨Z, γ, s, p⟩ => by
    refine ⟨Z, γ, s, p.bind.mono fun v H1 ⟨h1, γ1, _, s1, k1, r1, p1⟩ => ?_⟩
    cases e1 : rs γ1 h1 with
    | none => rw [e1] at p1; exact p1.elim
    | some d =>
      rw [e1] at p1
      have p1 : Post X.K F W Z σ H1 (if kindD d = ty then (fa γ1).bind fun hs γ2 => fin1 γ2 ((rs γ2 h1).bind fun d => (GL.rsAll γ2 hs).bind (g d)) else .no) Q := p1
      by_cases hk : kindD d = ty
      · rw [if_pos hk] at p1
        refine ⟨tyG_of (r1.rs s1 e1) hk hn, Z, γ1, s1, p1.bindA.mono fun vs H2 ⟨hs, γ2, _, s2, k2, r2, p2⟩ => ?_⟩
        cases e2 : rs γ2 h1 with
        | none => rw [e2] at p2; exact p2.elim
        | some d2 =>
          rw [e2] at p2
          have p2 : Post X.K F W Z σ H2 (fin1 γ2 ((GL.rsAll γ2 hs).bind (g d2))) Q := p2
          cases e3 : GL.rsAll γ2 hs with
          | none => rw [e3] at p2; exact p2.elim
          | some ds =>
            rw [e3] at p2
            have p2 : Post X.K F W Z σ H2 (fin1 γ2 (g d2 ds)) Q := p2
            cases e4 : g d2 ds with
            | none => rw [e4] at p2; exact p2.elim
            | some h =>
              rw [e4] at p2
              exact dz F Z γ2 σ H2 v d2 vs ds h Q s2 ((r1.keep k2).rs s2 e2) (r2.rsAll s2 e3) e4 fun u H' k r n => p2.end_ s2 k r n
      · rw [if_neg hk] at p1
        exact p1.elim⟩
/-- the first place of an equal one -/
def findD (ds : List D) (d : D) : Option Nat := ds.findIdx? fun z => PyData.eqv z d
theorem findD_at {ds : List D} {d : D} {j : Nat} (h : findD ds d = some j) : ∃ z, ds[j]? = some z ∧ PyData.eqv z d = true ∧ ∀ (m : Nat) (z' : D), m < j → ds[m]? = some z' → PyData.eqv z' d = false := by
  unfold findD at h
  obtain ⟨hl, h1, h2⟩ := List.findIdx?_eq_some_iff_getElem.mp h
  refine ⟨ds[j], List.getElem?_eq_getElem hl, h1, fun m z hm e => ?_⟩
  obtain ⟨hl2, e2⟩ := List.getElem?_eq_some_iff.mp e
  have := h2 m hm
  rw [e2] at this
  simpa using this
def nIndex : D → List D → Option Hd
  | .list ds, [d] => if (okD (.list ds) && okD d) = true then (findD ds d).map fun j => .pv (.int (j : Nat)) else none
  | _, _ => none
def nIndexT : D → List D → Option Hd
  | .tuple ds, [d] => if (okD (.tuple ds) && okD d) = true then (findD ds d).map fun j => .pv (.int (j : Nat)) else none
  | _, _ => none
theorem does_index : DoesR K (rIndexD K) nIndex := by
  intro F Z γ σ H v c vs ds h Q s hv hvs hg k
  match c, hv, ds, hvs, hg with
  | .list cs, hv, [d], .cons hd .nil, hg =>
    simp only [nIndex] at hg
    split at hg
    · rename_i hl
      obtain ⟨h1, h2⟩ := Bool.and_eq_true_iff.mp hl
      obtain ⟨j, hj, rfl⟩ := Option.map_eq_some_iff.mp hg
      obtain ⟨z, q1, q2, q3⟩ := findD_at hj
      have e1 := hv.dp (okD_nd h1)
      obtain ⟨a, xs, rfl, _⟩ := hv.lst
      exact ⟨a, _, d, cs, j, z, rfl, rfl, e1, hd.dp (okD_nd h2), h1, h2, q1, q2, q3, k _ H (Same.refl H) (.int _) newIn_pv⟩
    · cases hg
def rIndexT (K : PySem.W.Frag) : V → List V → Hp → VK → Prop := fun x xs H Q => ∃ (a : Addr) (y : V) (d : PyData) (ds : List PyData) (j : Nat) (z : PyData), x = V.ref a ∧ xs = [y] ∧ Dp K H (V.ref a) (.tuple ds) ∧ Dp K H y d ∧
  SeqAt.shaped (.tuple ds) = true ∧ SeqAt.shaped d = true ∧ ds[j]? = some z ∧ PyData.eqv z d = true ∧ (∀ (m : Nat) (z' : PyData), m < j → ds[m]? = some z' → PyData.eqv z' d = false) ∧ Q (.int (j : Nat)) H
theorem mt_indexT (hu : X.A.units + 65 < cLine) : MtR X "tuple.index" (rIndexT X.K) := by
  rintro pins s σ H _ _ v us Q I rx rxs ⟨a, y, d, ds, j, z, rfl, rfl, hl, hy, sl, sd, hz, hzj, hno, q⟩
  cases rx
  obtain ⟨u, rfl, ru⟩ := rxs.one
  obtain ⟨bs, r1⟩ := Dp.reads I d y u hy ru
  have lay : PyData.canLayAll0 ds = true := SeqAt.canLay_of_shaped sl
  have room : X.A.units + 1 + min (PyData.depthAll ds) d.depth < cLine := room_in_shaped sd hu
  cases hl with
  | tup hs ha =>
    obtain ⟨its, rv, ⟨⟨c0, dd, data, sls⟩, ho, hc, n, hdt⟩, hlen⟩ := I.tuple hs
    simp only at hc hdt
    subst hc hdt
    obtain ⟨as, rd⟩ := Dp.readsAll I ds _ its ha rv
    have hn : its.length = ds.length := SeqAt.ReadsAll.length ds its as rd
    have hmap : its.map (SeqAt.readOf s.heap) = ds := SeqAt.readsAll_map ds its as lay rd
    have hj : j < its.toArray.size := by
      have := (List.getElem?_eq_some_iff.mp hz).1
      rw [List.size_toArray]
      omega
    have at_ : ∀ (m : Nat) (hm : m < its.toArray.size), ds[m]? = some (SeqAt.readOf s.heap its.toArray[m]) := fun m hm => by
      have hm2 : m < its.length := by simpa using hm
      rw [← hmap, List.getElem?_map, List.getElem?_eq_getElem hm2]
      simp
    refine call_meets PySem.F.slot_tuple_index ⟨_, ho, rfl⟩ PySem.F.entry_tuple_index (PySem.F.args_tuple_index_2 _ _) (TI.tuple_indexAt a its.toArray n dd sls u (fun w => PyData.eqv (SeqAt.readOf s.heap w) d) j hj ?_ ?_)
      ⟨ho, SeqAt.items_eqAt (vs := its.toArray) (show ReadsAll s.heap its.toArray.toList ds as from rd) r1 lay (SeqAt.canLay_of_shaped sd) room, ⟨.int (j : Nat), H, I.tok _, ⟨_, rfl⟩, q⟩⟩
    · have e := at_ j hj
      rw [hz] at e
      rw [← Option.some.inj e]
      exact hzj
    · exact fun m hm hmj => hno m _ hmj (at_ m hm)
theorem does_indexT : DoesR K (rIndexT K) nIndexT := by
  intro F Z γ σ H v c vs ds h Q s hv hvs hg k
  match c, hv, ds, hvs, hg with
  | .tuple cs, hv, [d], .cons hd .nil, hg =>
    simp only [nIndexT] at hg
    split at hg
    · rename_i hl
      obtain ⟨h1, h2⟩ := Bool.and_eq_true_iff.mp hl
      obtain ⟨j, hj, rfl⟩ := Option.map_eq_some_iff.mp hg
      obtain ⟨z, q1, q2, q3⟩ := findD_at hj
      have e1 := hv.dp (okD_nd h1)
      obtain ⟨a, xs, rfl, _⟩ := hv.tup
      exact ⟨a, _, d, cs, j, z, rfl, rfl, e1, hd.dp (okD_nd h2), h1, h2, q1, q2, q3, k _ H (Same.refl H) (.int _) newIn_pv⟩
    · cases hg
end
end GL

set_option Elab.async false
set_option linter.all false
set_option autoImplicit false
set_option maxRecDepth 100000
set_option maxHeartbeats 2000000
/-! sorted of a tuple -/
namespace PySem.W
open PySem PySem.Calls PyProof.Rows
section
variable {prog : Program} {w : World} {A : Around} {E : Value → Shared → Prop} {s : Shared}
theorem collect_tup {l : Addr} {vs : List Value} {Q : List Value → Shared → Prop} (hl : IsTup s.heap l vs.toArray) (hz : vs.length ≤ sizeLine)
    (q : Q vs { s with heap := (s.heap.push (seqObj "list" #[] 0)).update s.heap.objs.size (Obj.mapSeq (· ++ vs.toArray)) }) : wpAny (model prog w) A (collect (.ref l)) Q E s := by
  obtain ⟨o, ho, hc, n, hd⟩ := id hl
  have ho1 : (s.heap.push (seqObj "list" #[] 0)).get? l = some o := Heap.get?_push_of_some _ ho
  unfold collect
  refine wpAny_bind (wpAny_runValue (codeAny_builtin entry_proto_collect' ?_))
  show wpAny _ _ (do again (.builtin "list.__iadd__" ⟨[← newList [], .ref l], []⟩)) _ _ s
  refine wpAny_bind (wpAny_newList (wpAny_pure ⟨Code.quiet_builtin _ (by decide +kernel), codeAny_builtin entry_list_iadd' ?_⟩))
  show wpAny _ _ (Builtin.List.listExtendWith (.ref s.heap.objs.size) (.ref l) (.ref s.heap.objs.size)) _ _ { s with heap := s.heap.push (seqObj "list" #[] 0) }
  unfold Builtin.List.listExtendWith
  refine wpAny_bind (wpAny_typeOf (T := "tuple") ⟨o, ho1, hc⟩ ?_)
  have tt : (Value.type "tuple" == Value.type "tuple") = true := by rfl
  rw [if_pos (by rw [tt]; simp)]
  refine wpAny_bind (listItems_at ho1 hd (wpAny_bind (listItems_at (xs := #[]) (n := 0) (Heap.get?_push_size _ rfl) rfl ?_)))
  rw [if_neg (by simp)]
  refine wpAny_bind (listUpdate_at (xs := #[]) (n := 0) (Heap.get?_push_size _ rfl) rfl (wpAny_pure ?_) (Nat.zero_le _) (by show (#[] ++ vs.toArray).size ≤ sizeLine + 1; simp only [Array.size_append, List.size_toArray, List.length_nil]; omega))
  refine wpAny_bind (wpAny_load (get?_update_seq (Heap.get?_push_size _ rfl) _) ?_)
  show wpAny _ _ (pure ((#[] : Array Value) ++ vs.toArray).toList) Q E _
  have e0 : ((#[] : Array Value) ++ vs.toArray).toList = vs := by simp
  rw [e0]
  exact wpAny_pure q
theorem sorted_tup_sort {l : Addr} {vs : List Value} {Q : Value → Shared → Prop} (hl : IsTup s.heap l vs.toArray) (hL : vs.length ≤ sizeLine)
    (body : ∀ E' : Value → Shared → Prop, wpAny (model prog w) A.in1.in1 (Builtin.«list.sort» ⟨[.ref (s.heap.objs.size + 1)], []⟩) (fun f s' => f = .done (.ret .none) ∧ Q (.ref (s.heap.objs.size + 1)) s') E' { s with heap := copyHeap s.heap vs }) :
    wpAny (model prog w) A (call (.builtin "sorted") [.ref l]) Q E s := by
  refine call_function_entry_kw kind_sorted plain_sorted entry_sorted (args_sorted1 _) ?_
  unfold Builtin.«sorted»
  refine wpAny_bind (m := checkCount "sorted" 1 1 _) (wpAny_pure (wpAny_bind (collect_tup hl hL (wpAny_bind (wpAny_newList ?_ hL)))))
  have sz : ((s.heap.push (seqObj "list" #[] 0)).update s.heap.objs.size (Obj.mapSeq (· ++ vs.toArray))).objs.size = s.heap.objs.size + 1 := by rw [Heap.size_update, size_push']
  show wpAny _ _ _ _ _ { s with heap := copyHeap s.heap vs }
  rw [sz]
  refine wpAny_bind (wpAny_holding (wpAny_call_entry_kw slot_list_sort ⟨_, copyHeap_at s.heap vs, rfl⟩ entry_list_sort ?body (args_list_sort _)))
  case body =>
    show wpAny (model prog w) A.in1.in1 (Builtin.«list.sort» ⟨[.ref (s.heap.objs.size + 1)], []⟩) _ _ _
    exact wpAny_mono (body _) (fun f s' ⟨e, hq⟩ => by subst e; exact ⟨_, rfl, wpAny_pure ⟨_, rfl, hq⟩⟩) fun _ _ e => e
theorem sorted_tup_data {β : Type} {R : Value → β → Prop} {bs : List β} {enc : β → PyData} {vs : List Value} {l : Addr} {Q : Value → Shared → Prop} (hl : IsTup s.heap l vs.toArray) (e : EachIs R vs bs) (er : EachIs (fun v b => ∃ as, Reads s.heap v (enc b) as) vs bs) (hal : AllAlike (bs.map enc)) (hk : Sortable (bs.map enc)) (hL : bs.length ≤ sizeLine)
    (hu : ∀ b, b ∈ bs → A.units + 2 + (enc b).depth < cLine) (h : ∀ out, out.length = bs.length → EachIs R out (bs.mergeSort (dataLe false enc)) → Q (.ref (s.heap.objs.size + 1)) { s with heap := sortedAll s.heap vs (List.toArray out) }) :
    wpAny (model prog w) A (call (.builtin "sorted") [.ref l]) Q E s := by
  have er2 : EachIs (fun v b => ∃ as, Reads (sortingHeap (copyHeap s.heap vs) (s.heap.objs.size + 1) vs) v (enc b) as) vs bs := er.mono fun _ _ ⟨as, r⟩ => ⟨as, PyProof.Rows.Reads.keeps (fun _ _ => sorting_copy_old) r⟩
  have hz : vs.length ≤ sizeLine := by rw [e.length]; exact hL
  have S := SortsAt.data (prog := prog) (w := w) (A := A.in1.in1) (s := { s with heap := sortingHeap (copyHeap s.heap vs) (s.heap.objs.size + 1) vs }) (each_map (R := fun v d => ∃ as, Reads (sortingHeap (copyHeap s.heap vs) (s.heap.objs.size + 1) vs) v d as) enc er2) hal hk (bound_map hu)
  exact sorted_tup_sort hl hz fun _ => list_sort_vals (s := { s with heap := copyHeap s.heap vs }) (copyHeap_at s.heap vs) S hz ⟨rfl, h _ (by rw [sortVals_length false rfl]; exact e.length) (sortVals_data false e er2 hal)⟩
end
end PySem.W
namespace GL
open PySem PySem.Spec PyProof.Rows L2
section
variable {X : Cx} {pos : Pos} {K : PySem.W.Frag} {F : Fr} {W : WX} {Z : List Addr} {γ : List Sl} {σ : L2.St} {H : Hp} {Q : VK}

/-! ### sorted -/
def isTp : D → Bool
  | .tuple (_ :: _) => true
  | _ => false
def notTp : D → Bool
  | .none => false
  | .tuple _ => false
  | _ => true
def okSort (ds : List D) : Bool := okD (.list ds) && (ds.all fun x => ds.all fun y => PySem.W.alike x y) && (ds.all isTp || ds.all notTp)
theorem okSort_al {ds : List D} (h : okSort ds = true) : PySem.W.AllAlike ds := fun x hx y hy => by
  unfold okSort at h
  simp only [Bool.and_eq_true, List.all_eq_true] at h
  exact h.1.2 x hx y hy
theorem okSort_so {ds : List D} (h : okSort ds = true) : PySem.W.Sortable ds := by
  unfold okSort at h
  simp only [Bool.and_eq_true, Bool.or_eq_true, List.all_eq_true] at h
  rcases h.2 with q | q
  · refine .inl fun d hd => ?_
    have := q d hd
    cases d with
    | tuple xs =>
      cases xs with
      | nil => cases this
      | cons x r => exact ⟨x, r, rfl⟩
    | _ => cases this
  · refine .inr fun d hd => ?_
    have := q d hd
    cases d with
    | none => cases this
    | tuple xs => cases this
    | _ => exact ⟨(fun z => nomatch z), (fun _ z => nomatch z)⟩
theorem depth_le : ∀ {ds : List D} {d : D}, d ∈ ds → d.depth ≤ PyData.depthAll ds
  | x :: ds, d, h => by
    rw [PyData.depthAll]
    rcases List.mem_cons.mp h with e | e
    · subst e
      exact Nat.le_max_left _ _
    · exact Nat.le_trans (depth_le e) (Nat.le_max_right _ _)
theorem okSort_dep {ds : List D} (h : okSort ds = true) : ∀ d ∈ ds, d.depth ≤ 63 := fun d hd => by
  unfold okSort at h
  simp only [Bool.and_eq_true] at h
  have h1 := SeqAt.depth_of_shaped h.1.1
  have h2 := depth_le hd
  rw [PyData.depth] at h1
  omega
def sortD (ds : List D) : List D := ds.mergeSort (PySem.W.dataLe false id)
def nSorted : List D → Option Hd
  | [.list ds] => if okSort ds = true then some (.nw (.list (sortD ds))) else none
  | [.tuple ds] => if okSort ds = true then some (.nw (.list (sortD ds))) else none
  | _ => none
def rSortD (K : PySem.W.Frag) : List V → Hp → VK → Prop := fun vs H Q => ∃ (a : Addr) (xs : List V) (ds : List D) (A : V → D → Prop), vs = [V.ref a] ∧ (SqL K H a xs ∨ SqT K H a xs) ∧ DpAll K H xs ds ∧ okSort ds = true ∧ Paired A xs ds ∧
  ∀ (ys : List V) (p : Addr), Paired A ys (sortD ds) → ys.length ≤ sizeLine → H p = none → Q (.ref p) (upd H p (.lst ys))
theorem paired_len {α β : Type} {A : α → β → Prop} : ∀ {xs : List α} {ds : List β}, Paired A xs ds → xs.length = ds.length
  | _, _, .nil => rfl
  | _, _, .cons _ t => by rw [List.length_cons, List.length_cons, paired_len t]
theorem dpAll_paired {A : V → D → Prop} : ∀ {xs : List V} {ds : List D}, DpAll K H xs ds → xs.length = ds.length
  | _, _, .nil => rfl
  | _, _, .cons _ t => by rw [List.length_cons, List.length_cons, dpAll_paired (A := A) t]
theorem reps_paired {av : Addr → Prop} : ∀ {xs : List V} {ds : List D}, Reps K av H xs ds → Paired (fun v d => Rep K av H v d) xs ds
  | _, _, .nil => .nil
  | _, _, .cons r t => .cons r (reps_paired t)
theorem paired_reps {av : Addr → Prop} : ∀ {xs : List V} {ds : List D}, Paired (fun v d => Rep K av H v d) xs ds → Reps K av H xs ds
  | _, _, .nil => .nil
  | _, _, .cons r t => .cons r (paired_reps t)
/-- the values, by what they stand for -/
theorem each_of {A : V → D → Prop} : ∀ {xs : List V} {us : List Value} {ds : List D}, Vals xs us → Paired A xs ds → PySem.W.EachIs (fun u d => ∃ v, RelV v u ∧ A v d) us ds
  | [], _, _, r, q => by
    cases r
    cases q
    exact .nil
  | x :: xs, _, _, r, q => by
    cases r with
    | cons r t =>
      cases q with
      | cons a b => exact .cons ⟨_, r, a⟩ (each_of t b)
theorem of_each {A : V → D → Prop} : ∀ {us : List Value} {ds : List D}, PySem.W.EachIs (fun u d => ∃ v, RelV v u ∧ A v d) us ds → ∃ xs, Vals xs us ∧ Paired A xs ds
  | _, _, .nil => ⟨[], .nil, .nil⟩
  | _, _, .cons ⟨v, r, a⟩ t => by
    obtain ⟨xs, h1, h2⟩ := of_each t
    exact ⟨v :: xs, .cons r h1, .cons a h2⟩
theorem each_reads {pins : List (Addr × Obj)} {s : Shared} (I : Inv X pins σ H s) : ∀ {xs : List V} {us : List Value} {ds : List D}, Vals xs us → DpAll X.K H xs ds → PySem.W.EachIs (fun u d => ∃ as, Reads s.heap u (id d) as) us ds
  | [], _, _, r, q => by
    cases r
    cases q
    exact .nil
  | x :: xs, _, _, r, q => by
    cases r with
    | cons r t =>
      cases q with
      | cons a b => exact .cons (Dp.reads I _ _ _ a r) (each_reads I t b)
theorem sortD_len {ds : List D} : (sortD ds).length = ds.length := by
  unfold sortD
  exact List.length_mergeSort _
theorem cr_sortD (hu : X.A.units + 65 < cLine) : CallR X (.builtin "sorted") (rSortD X.K) := by
  rintro pins s σ H _ us Q I r ⟨a, xs, ds, A, rfl, hq, hd, ok, hp, q⟩
  obtain ⟨u, rfl, ru⟩ := r.one
  cases ru
  have dep : ∀ d ∈ ds, X.A.units + 2 + (id d).depth < cLine := fun d m => by
    have := okSort_dep ok d m
    show X.A.units + 2 + d.depth < cLine
    omega
  have al : PySem.W.AllAlike (ds.map id) := by rw [List.map_id]; exact okSort_al ok
  have so : PySem.W.Sortable (ds.map id) := by rw [List.map_id]; exact okSort_so ok
  have hlen := paired_len hp
  have fin : ∀ its : List Value, xs.length ≤ sizeLine → ∀ out : List Value, out.length = ds.length → PySem.W.EachIs (fun u d => ∃ v, RelV v u ∧ A v d) out (ds.mergeSort (PySem.W.dataLe false id)) →
      EP X pins σ Q (.ref (s.heap.objs.size + 1)) { s with heap := PyProof.Rows.sortedAll s.heap its (List.toArray out) } := fun its hz out hl e => by
    obtain ⟨ys, r1, r2⟩ := of_each e
    have hy : ys.length ≤ sizeLine := by rw [r1.length, hl, ← hlen]; exact hz
    obtain ⟨ep, he⟩ := PyProof.Rows.sortedAll_at s.heap its out.toArray
    exact ⟨.ref (s.heap.objs.size + 1), upd H (s.heap.objs.size + 1) (.lst ys), I.laid (t' := s.toks) (fun _ _ => PyProof.Rows.sortedAll_old) (Nat.le_succ _) ⟨hy, out, ep, r1, he⟩, rfl, q ys _ r2 hy (I.hok.fresh (Nat.le_succ _))⟩
  rcases hq with hq | hq
  · obtain ⟨its, rv, pl, hz⟩ := I.list hq
    exact PySem.W.sorted_data pl.isList (each_of rv hp) (each_reads I rv hd) al so (by rw [← hlen]; exact hz) dep (fin its hz)
  · obtain ⟨its, rv, pl, hz⟩ := I.tuple hq
    exact PySem.W.sorted_tup_data pl (each_of rv hp) (each_reads I rv hd) al so (by rw [← hlen]; exact hz) dep (fin its hz)
theorem dp_all {v : V} {ds : List D} {xs : List V} (r : Reps K (av F Z) H xs ds) : DpAll K H xs ds := Reps.dp ds xs r
theorem does_sorted : DoesN K (rSortD K) nSorted := by
  intro F Z γ σ H vs ds h Q s hv hg k
  match ds, hv, hg with
  | [.list ds], .cons hv .nil, hg =>
    simp only [nSorted] at hg
    split at hg
    · rename_i ok
      cases hg
      obtain ⟨a, xs, rfl, hz, r, q⟩ := hv.lst
      exact ⟨a, xs, ds, _, rfl, .inl r, q.dp, ok, reps_paired q, fun ys p hp hy hn => k _ _ (same_new hn) (SR.newL hy s hn (paired_reps hp)) (newIn_ref hn)⟩
    · cases hg
  | [.tuple ds], .cons hv .nil, hg =>
    simp only [nSorted] at hg
    split at hg
    · rename_i ok
      cases hg
      obtain ⟨a, xs, rfl, hz, r, q⟩ := hv.tup
      exact ⟨a, xs, ds, _, rfl, .inr r.t, q.dp, ok, reps_paired q, fun ys p hp hy hn => k _ _ (same_new hn) (SR.newL hy s hn (paired_reps hp)) (newIn_ref hn)⟩
    · cases hg

/-! ### isinstance -/
def tyD : D → String
  | .none => "NoneType"
  | .bool _ => "bool"
  | .int _ => "int"
  | .str _ => "str"
  | .list _ => "list"
  | .tuple _ => "tuple"
  | .dict _ => "dict"
theorem tyX_of {v : V} {d : D} (h : RepI K F Z H v d) : TyX K H v (.type (tyD d)) := by
  cases d with
  | none => have e := h.none; subst e; exact .base .non
  | bool b => have e := h.bool; subst e; exact .base (.bl b)
  | int i => have e := h.int; subst e; exact .base (.int i)
  | str x => have e := h.str; subst e; exact .base (.str x)
  | list ds =>
    obtain ⟨a, xs, rfl, hz, r, q⟩ := h.lst
    rcases r with (r | ⟨o, r⟩) | ⟨o, us, m, h1, h2, _⟩
    · exact .base (.lst r)
    · exact .base (.frz r)
    · exact .kList h1 h2
  | tuple ds =>
    obtain ⟨a, xs, rfl, hz, ⟨o, ho, r⟩ | ⟨o, us, n, h1, h2, h3, h4⟩, q⟩ := h.tup
    · exact .fTuple r
    · exact .kTuple h1 h3
  | dict kvs =>
    rcases h with h | ⟨a, rfl, h⟩
    · cases h
    · cases h with
      | dk h1 h2 => exact .base (.dK h1)
      | dt h1 h2 => exact .base (.dT h1)
/-- one class -/
def isK (cs : List String) (d : D) : Option Bool := match cs with
  | [] => some false
  | c :: r => match kitB (tyD d) c with
    | some true => some true
    | some false => isK r d
    | none => none
theorem isK_any : ∀ {cs : List String} {d : D} {b : Bool}, isK cs d = some b → PySem.W.kitAny K (.type (tyD d)) (cs.map Value.type) = some b
  | [], d, b, e => by
    cases e
    rfl
  | c :: cs, d, b, e => by
    unfold isK at e
    rw [List.map_cons]
    cases q : kitB (tyD d) c with
    | none => rw [q] at e; cases e
    | some t =>
      rw [q] at e
      cases t with
      | true =>
        cases e
        exact kitAny_cons (kit_ty q) (fun z => nomatch z) fun _ => rfl
      | false => exact kitAny_cons (kit_ty q) (fun _ => isK_any e) fun z => nomatch z
def vIs (cs : List String) (f : SE) : SE := fun γ => (f γ).bind fun h γ1 => fin1 γ1 ((rs γ1 h).bind fun d => (isK cs d).map fun b => .pv (.bool b))
/-- the classes, as values -/
inductive TyNames (X : Cx) : List Expr → List String → Prop
  | nil : TyNames X [] []
  | cons {x : Str} {p : Pos} {t : String} {es : List Expr} {cs : List String} : PE X (.Name x p) (tC (.ty t)) → starEach (.Name x p :: es) X.env = (false, eval (.Name x p) X.env) :: starEach es X.env → TyNames X es cs → TyNames X (.Name x p :: es) (t :: cs)
def tTys (cs : List String) : TA := fun σ H Q => Q (cs.map V.ty) H
theorem tyNames_pa : ∀ {es : List Expr} {cs : List String}, TyNames X es cs → PA X es (tTys cs)
  | _, _, .nil => pa_nil
  | _, _, .cons h hs t => pa_cons h (tyNames_pa t) hs
theorem tyPairs : ∀ cs : List String, Paired ClsV (cs.map V.ty) (cs.map Value.type)
  | [] => .nil
  | c :: cs => .cons (.ty c) (tyPairs cs)
theorem is_run {cs : List String} {h : Hd} {v : V} (s : SR K F Z γ σ H) (hv : HdOk K F Z H σ v h) (p : Post K F W Z σ H (fin1 γ ((rs γ h).bind fun d => (isK cs d).map fun b => .pv (.bool b))) Q) : ∃ t b, TyX K H v t ∧ PySem.W.kitAny K t (cs.map Value.type) = some b ∧ ∀ H', Same H H' → Q (.bl b) H' := by
  cases e : rs γ h with
  | none => rw [e] at p; exact p.elim
  | some d =>
    rw [e] at p
    have p : Post K F W Z σ H (fin1 γ ((isK cs d).map fun b => .pv (.bool b))) Q := p
    cases e2 : isK cs d with
    | none => rw [e2] at p; exact p.elim
    | some b =>
      rw [e2] at p
      exact ⟨_, b, tyX_of (hv.rs s e), isK_any e2, fun H' k => p.end_ s k (.bl b) newIn_pv⟩
theorem ge_is1 {a c : Expr} {t : String} {f : SE} {p : Pos} (hg : Gl X "isinstance") (hm : X.mg "isinstance" = none) (ha : GE X a f) (hc : PE X c (tC (.ty t)))
    (n1 : starEach [a, c] X.env = (false, eval a X.env) :: starEach [c] X.env := by rfl) (n2 : starEach [c] X.env = (false, eval c X.env) :: starEach [] X.env := by rfl) (hpl : (backTo pos (starEach [c] X.env)).any (·.1) = false := by rfl) :
    GE X (.Call (.Name "isinstance" p) [a, c] [] pos) (vIs [t] f) := ⟨fun F W tk => (pe_callB call_isi hg hm rfl (pa_cons (ha.run F W tk) (pa_cons hc pa_nil n2) n1) (he := n1) (hpl := hpl)).weak fun σ H Q ⟨Z, γ, s, p⟩ =>
  ⟨Z, γ, s, p.bind.mono fun v H1 ⟨h1, γ1, _, s1, k1, r1, p1⟩ => by
    obtain ⟨u, b, ty, kk, q⟩ := is_run s1 r1 p1
    have k2 : PySem.W.kitOne X.K u (.type t) = some b := by
      have e := kk
      unfold PySem.W.kitAny at e
      simp only [List.map_cons, List.map_nil] at e
      cases z : PySem.W.kitOne X.K u (.type t) with
      | none => rw [z] at e; cases e
      | some y =>
        rw [z] at e
        cases y with
        | true => exact e
        | false => exact e
    exact ⟨v, .ty t, u, .type t, b, rfl, .ty t, ty, k2, q H1 (Same.refl _)⟩⟩⟩
theorem ge_isT {a : Expr} {es : List Expr} {cs : List String} {f : SE} {k : Nat} {p p2 : Pos} (hg : Gl X "isinstance") (hm : X.mg "isinstance" = none) (ha : GE X a f) (hc : TyNames X es cs)
    (n1 : starEach [a, .Tuple es k p2] X.env = (false, eval a X.env) :: starEach [.Tuple es k p2] X.env := by rfl) (n2 : starEach [.Tuple es k p2] X.env = (false, eval (.Tuple es k p2) X.env) :: starEach [] X.env := by rfl) (hpl : (backTo pos (starEach [.Tuple es k p2] X.env)).any (·.1) = false := by rfl) (hl : cs.length ≤ 1000 := by decide) :
    GE X (.Call (.Name "isinstance" p) [a, .Tuple es k p2] [] pos) (vIs cs f) := ⟨fun F W tk => (pe_callB call_isiT hg hm rfl (pa_cons (ha.run F W tk) (pa_cons (pe_tup (tyNames_pa hc)) pa_nil n2) n1) (he := n1) (hpl := hpl)).weak fun σ H Q ⟨Z, γ, s, p⟩ =>
  ⟨Z, γ, s, p.bind.mono fun v H1 ⟨h1, γ1, _, s1, k1, r1, p1⟩ => by
    obtain ⟨u, b, ty, kk, q⟩ := is_run s1 r1 p1
    refine ⟨by rw [List.length_map]; exact le1000 hl, fun tp ht => ?_⟩
    have ty2 : TyX X.K (upd H1 tp (.tup (cs.map V.ty))) v u := by
      have kp : ∀ {b : Addr} {o : HO}, H1 b = some o → upd H1 tp (.tup (cs.map V.ty)) b = some o := fun e => by rw [upd_ne (ne_of_none e ht)]; exact e
      cases ty with
      | base b =>
        cases b with
        | non => exact .base .non
        | bl x => exact .base (.bl x)
        | int x => exact .base (.int x)
        | str x => exact .base (.str x)
        | flt x => exact .base (.flt x)
        | lst e => exact .base (.lst (kp e))
        | frz e => exact .base (.frz (kp e))
        | tup e => exact .base (.tup (kp e))
        | dK e => exact .base (.dK (kp e))
        | dT e => exact .base (.dT (kp e))
        | ins e a1 a2 a3 a4 a5 => exact .base (.ins (kp e) a1 a2 a3 a4 a5)
      | byt b => exact .byt b
      | set e => exact .set (kp e)
      | kList e c => exact .kList e c
      | kTuple e c => exact .kTuple e c
      | kDict e c => exact .kDict e c
      | fTuple e => exact .fTuple (kp e)
      | fDict e => exact .fDict (kp e)
    exact ⟨v, tp, cs.map V.ty, u, cs.map Value.type, b, rfl, upd_same, tyPairs cs, ty2, kk, q _ (same_new ht)⟩⟩⟩
end
end GL

set_option Elab.async false
set_option linter.all false
set_option autoImplicit false
set_option maxRecDepth 100000
set_option maxHeartbeats 2000000
namespace GL
open PySem PySem.Spec PyProof.Rows L2
section
variable {X : Cx} {pos : Pos} {K : PySem.W.Frag} {F : Fr} {W : WX} {Z Z' : List Addr} {γ γ1 : List Sl} {σ : L2.St} {H H1 H' : Hp} {D : Ends}

/-! ### x[i] = e -/
def putIx (h hi : Hd) (j : Nat) (γ : List Sl) : R Fl := match hi, pv1 h, γ[j]? with
  | .pv (.int k), some d, some (.ce b (.list cs)) => (match ixN cs.length k with
    | some m => .ok .nx (γ.set j (.ce b (.list (cs.set m d))))
    | none => .no)
  | _, _, _ => .no
def sSub (fe fo fi : SE) : SS := fun γ => (fe γ).bind fun h γ1 => (fo γ1).bind fun ho γ2 => match ho with
  | .cl j => (fi γ2).bind fun hi γ3 => putIx h hi j γ3
  | _ => .no
theorem Ext.upd {a : Addr} {o u : HO} {Z : List Addr} (m : a ∈ Z) (e : H a = some u) (mu : Mut (some u)) : Ext K F Z H Z (L2.upd H a o) := Ext.of_kp (Kp.mut m e mu)
/-- an item of a slot's list is written -/
theorem SR.put {j m : Nat} {k : Int} {v w : V} {b : Bool} {d : PyData} {cs : List PyData} (s : SR K F Z γ σ H) (e : γ[j]? = some (.ce b (.list cs))) (ev : σ[j]? = some (some v)) (hm : ixN cs.length k = some m) (r : Rep K (av F Z) H w d) {Q : Hp → Prop}
    (q : ∀ H', SR K F Z (γ.set j (.ce b (.list (cs.set m d)))) σ H' → Kp Z H H' → Q H') : rSetL v (.int k) w H Q := by
  obtain ⟨a, rfl, ea⟩ := cl_ref s e ev
  obtain ⟨xs, h1, h2, h3⟩ := cell_lst s e ea
  obtain ⟨s2, k2⟩ := s.chg e ea (ys := xs.set m w) (by rw [List.length_set]; exact h2) (h3.set m r)
  exact ⟨a, xs, k, m, rfl, rfl, h1, by rw [h3.length]; exact hm, q _ s2 k2⟩
theorem putIx_ok {j : Nat} {h hi : Hd} {v w u : V} (s : SR K F Z γ σ H1) (ev : σ[j]? = some (some v)) (rh : ∀ d, pv1 h = some d → Rep K (av F Z) H1 w d) (ri : HdOk K F Z H1 σ u hi) (k1 : Kp Z H H1) (p : PostS K F W Z H (putIx h hi j γ) D) : rSetL v u w H1 fun H' => D.nx σ H' := by
  unfold putIx at p
  split at p
  · rename_i k d b cs e1 e2
    split at p
    · rename_i m e3
      have r2 : Rep K (av F Z) H1 u (.int k) := ri
      cases r2
      exact s.put e2 ev e3 (rh d e1) fun H2 s2 k2 => p Z σ H2 s2 (Ext.of_kp (k1.trans k2))
    · exact p.elim
  · exact p.elim
theorem gs_sub {o i e : Expr} {fo fi fe : SE} {p2 : Pos} (ho : GE X o fo) (hi : GE X i fi) (he : GE X e fe) (hs : swapsWithSole [.Subscript o i p2] e pos.line X.env = pure false := by rfl) (hw : swappedStores [.Subscript o i p2] e X.env = pure none := by rfl)
    (h1 : (assignEach [.Subscript o i p2] X.env).map (·.2) = [assign (.Subscript o i p2) X.env] := by rfl)
    (ha : ∀ v, assign (.Subscript o i p2) X.env v = (do
      let ov ← holding [v] (eval o X.env)
      let iv ← holding [v, ov] (eval i X.env)
      standAt p2
      holding [v, ov, iv] (setItem ov iv v)
      release [v, ov, iv] []) := by intro _; rfl) : GS X (.Assign [.Subscript o i p2] e pos) (sSub fe fo fi) := ⟨fun F W tk => (ps_asg (he.run F W tk) (pg_sub (ho.run F W tk) (hi.run F W tk) set_list ha) hs hw h1).weak fun D σ H ⟨Z, γ, s, p⟩ => by
  refine ⟨Z, γ, s, p.bindE.mono fun w H1 ⟨h1, γ1, _, s1, k1, r1, n1, p1⟩ => ?_⟩
  have s1 := s1.unpl
  have p1 : PostS X.K F W Z H ((fo γ1).bind fun ho γ2 => match ho with
    | .cl j => (fi γ2).bind fun hi γ3 => putIx h1 hi j γ3
    | _ => .no) D := p1
  refine ⟨Z, γ1, s1, (PostS.bindE (σ := σ) (PostS.later p1 (Ext.of_kp k1))).mono fun v H2 ⟨h2, γ2, q2, s2, k2, r2, n2, p2⟩ => ?_⟩
  have s2 := s2.unpl
  cases h2 with
  | pv d => exact p2.elim
  | nw d => exact p2.elim
  | cl j =>
    have p2 : PostS X.K F W Z H1 ((fi γ2).bind fun hi γ3 => putIx h1 hi j γ3) D := p2
    have p3 : PostS X.K F W Z H2 ((fi γ2).bind fun hi γ3 => putIx h1 hi j γ3) D := PostS.later p2 (Ext.of_kp k2)
    refine ⟨Z, γ2, s2, p3.bindE.mono fun u H3 ⟨h3, γ3, _, s3, k3, r3, n3, p4⟩ => ?_⟩
    exact putIx_ok s3.unpl r2 (fun d e => Rep.keep (k2.trans k3) avZ _ _ (pv1_rep e r1)) r3 k3 p4⟩
/-! ### x[i] += e, ints -/
def rGetL (K : PySem.W.Frag) : V → V → Hp → VK → Prop := fun o i H Q => ∃ p xs k v, o = .ref p ∧ i = .int k ∧ SqL K H p xs ∧ atI xs k = some v ∧ Q v H
theorem get_list : PGet X (rGetL X.K) := by
  rintro pins s σ H _ _ ov iv Q I ro ri ⟨p, xs, k, v, rfl, rfl, hq, he, q⟩
  cases ro
  obtain ⟨t, rfl⟩ := ri
  obtain ⟨its, r, pl, hz⟩ := I.list hq
  obtain ⟨j, h1, h2, h3, h4, h5⟩ := atI_get he
  obtain ⟨u, eu, ru⟩ := r.get h2
  have hl := r.length
  have hn := line63
  have fin : EP X pins σ Q u s := ⟨v, H, I, ru, q⟩
  by_cases h0 : 0 ≤ k
  · have hj : k.toNat = j := by
      rw [seqIndex_of h0 h5] at h1
      exact Option.some.inj h1
    exact wpAny_getItem_list pl.isList h0 (by omega) (by rw [hj]; simpa using eu) fin
  · have hj : (k + (its.toArray.size : Int)).toNat = j := by
      rw [seqIndex_neg (by omega) h4] at h1
      rw [List.size_toArray, ← hl]
      exact Option.some.inj h1
    exact wpAny_getItem_list_neg pl.isList (by omega) (by rw [List.size_toArray, ← hl]; omega) (by omega) (by rw [hj]; simpa using eu) fin
def getIx (j : Nat) (hi : Hd) (γ : List Sl) : Option (Int × Int) := match hi, γ[j]? with
  | .pv (.int k), some (.ce _ (.list cs)) => (match atD cs k with
    | some (.int a) => some (k, a)
    | _ => none)
  | _, _ => none
def addIx (h : Hd) (j : Nat) (k a : Int) (γ : List Sl) : R Fl := match h with
  | .pv (.int c) => putIx (.pv (.int (a + c))) (.pv (.int k)) j γ
  | _ => .no
def sAugS (fo fi fe : SE) : SS := fun γ => (fo γ).bind fun ho γ1 => match ho with
  | .cl j => (fi γ1).bind fun hi γ2 => match getIx j hi γ2 with
    | some (k, a) => (fe γ2).bind fun h γ3 => addIx h j k a γ3
    | none => .no
  | _ => .no
theorem gs_augS {o i e : Expr} {fo fi fe : SE} {p2 : Pos} (ho : GE X o fo) (hi : GE X i fi) (he : GE X e fe)
    (ha : ∀ ov iv new, augStore i ov iv new = (do holding [new, ov, iv] (setItem ov iv new); release [new, ov, iv] []; pure .next) := by intros; rfl) : GS X (.AugAssign (.Subscript o i p2) .Add e pos) (sAugS fo fi fe) :=
  ⟨fun F W tk => (ps_augS (ho.run F W tk) (hi.run F W tk) get_list (he.run F W tk) ip_add set_list ha).weak fun D σ H ⟨Z, γ, s, p⟩ => by
    refine ⟨Z, γ, s, p.bindE.mono fun v H1 ⟨h1, γ1, _, s1, k1, r1, n1, p1⟩ => ?_⟩
    have s1 := s1.unpl
    cases h1 with
    | pv d => exact p1.elim
    | nw d => exact p1.elim
    | cl j =>
      have p1 : PostS X.K F W Z H ((fi γ1).bind fun hi γ2 => match getIx j hi γ2 with
        | some (k, a) => (fe γ2).bind fun h γ3 => addIx h j k a γ3
        | none => .no) D := p1
      refine ⟨Z, γ1, s1, (PostS.later p1 (Ext.of_kp k1)).bindE.mono fun u H2 ⟨h2, γ2, q2, s2, k2, r2, n2, p2⟩ => ?_⟩
      clear q2
      have s2 := s2.unpl
      cases e1 : getIx j h2 γ2 with
      | none => rw [e1] at p2; exact p2.elim
      | some ka =>
        obtain ⟨k, a⟩ := ka
        rw [e1] at p2
        have p2 : PostS X.K F W Z H1 ((fe γ2).bind fun h γ3 => addIx h j k a γ3) D := p2
        unfold getIx at e1
        split at e1
        · rename_i k0 b cs e2
          split at e1
          · rename_i a0 e3
            have e1 := Option.some.inj e1
            injection e1 with e4 e5
            subst e4 e5
            obtain ⟨ad, rfl, ea⟩ := cl_ref s2 e2 r1
            obtain ⟨xs, g1, g2, g3⟩ := cell_lst s2 e2 ea
            obtain ⟨x, ex, rx⟩ := atI_reps g3 e3
            cases rx
            have ru : Rep X.K (av F Z) H2 u (.int k0) := r2
            cases ru
            refine ⟨ad, xs, k0, _, rfl, rfl, SqL.of g1, ex, Z, γ2, s2, (PostS.later p2 (Ext.of_kp k2)).bindE.mono fun y H3 ⟨h3, γ3, _, s3, k3, r3, n3, p3⟩ => ?_⟩
            have s3 := s3.unpl
            match h3, r3, p3 with
            | .pv (.int c), r3, p3 =>
              have ry : Rep X.K (av F Z) H3 y (.int c) := r3
              cases ry
              refine ⟨_, _, rfl, rfl, ?_⟩
              exact putIx_ok (h := .pv (.int (a0 + c))) (hi := .pv (.int k0)) s3 ea (fun d e => by cases e; exact .int _) (.int k0) k3 p3
          · cases e1
        · cases e1⟩
end
end GL

set_option Elab.async false
set_option linter.all false
set_option autoImplicit false
set_option maxRecDepth 100000
set_option maxHeartbeats 2000000
namespace GL
open PySem PySem.Spec PyProof.Rows L2

/-! ### slots that no name of the scope sees -/
/-- the visible slots are alike -/
def Agree (X : Cx) (σ σ' : L2.St) : Prop := σ'.length = σ.length ∧ ∀ (j : Nat) (x : Str), X.N[j]? = some x → Vis X.env.scope x → σ'[j]? = σ[j]?
theorem inv_agree {X : Cx} {pins : List (Addr × Obj)} {σ σ' : L2.St} {H : Hp} {s : Shared} (I : Inv X pins σ H s) (a : Agree X σ σ') : Inv X pins σ' H s :=
  ⟨I.ok, I.os, I.bare, I.base, (let ⟨m, hn, hl⟩ := I.loc; ⟨m, hn, fun i x v e1 e2 e3 => hl i x v e1 ((a.2 i x e1 e3).symm.trans e2) e3⟩), I.cell, I.free, I.freeC, I.pin, I.hok, a.1.trans I.len⟩
theorem ps_agree {X : Cx} {st : Stmt} {t : L2.TS} (h : PS X st t) : PS X st (fun D σ H => t { D with nx := fun σ1 H1 => ∃ σ2, Agree X σ1 σ2 ∧ D.nx σ2 H1 } σ H) := ⟨fun pins s σ H D I q => thn (h.run pins s σ H _ I q) fun f s' z => by
  cases f with
  | next =>
    obtain ⟨σ1, H1, I1, σ2, a, n⟩ := z
    exact ⟨σ2, H1, inv_agree I1 a, n⟩
  | brk => exact z
  | cont => exact z
  | ret u => exact z⟩
/-- slots that no name sees -/
def unseen (X : Cx) (gs : List Nat) : Prop := ∀ g ∈ gs, ∀ x, X.N[g]? = some x → ¬ Vis X.env.scope x
def unseenB (N : List Str) (sc : Scope) (gs : List Nat) : Bool := gs.all fun g => match N[g]? with
  | some x => match sc.names.lookup x with
    | none => true
    | some _ => false
  | none => true
theorem unseen_of {X : Cx} {gs : List Nat} (h : unseenB X.N X.env.scope gs = true) : unseen X gs := fun g m x e v => by
  have q := List.all_eq_true.mp h g m
  rw [e] at q
  cases z : X.env.scope.names.lookup x with
  | some k =>
    have q : (match X.env.scope.names.lookup x with
      | none => true
      | some _ => false) = true := q
    rw [z] at q
    cases q
  | none => rcases v with v | v | v <;> (rw [z] at v; cases v)

section
variable {X : Cx} {pos : Pos} {K : PySem.W.Frag} {F : Fr} {W : WX} {Z : List Addr} {γ γ1 γ2 : List Sl} {σ : L2.St} {H H1 H' : Hp}
/-- a new list with references is put into a slot -/
theorem SR.setO {g : Nat} {q : Addr} {gh : Bool} {c : OC} (h : SR K (F.plus (.ref q)) Z γ σ H) (hg : ∀ c, γ[g]? ≠ some (.ow true c)) (np : ¬ av F Z q) (n0 : F.H0 q = none) (oc : OcOk K (fun a => a = q ∨ av F Z a) H σ q c)
    (hr : ∀ j ∈ c.refs, ∃ c2, γ[j]? = some (.ow true c2)) : SR K F (q :: Z) (γ.set g (.ow gh c)) (σ.set g (some (.ref q))) H := by
  have hw : ∀ a, av F (q :: Z) a → av (F.plus (.ref q)) Z a := fun a z => by
    rcases z with z | z
    · rcases List.mem_cons.mp z with z | z
      · subst z
        exact .inr (.inl rfl)
      · exact .inl z
    · exact .inr (.inr z)
  have hv : ∀ a, av F (q :: Z) a → a = q ∨ av F Z a := fun a z => by
    rcases z with z | z
    · rcases List.mem_cons.mp z with z | z
      · exact .inl z
      · exact .inr (.inl z)
    · exact .inr (.inr z)
  have at_ : ∀ (j : Nat) (t : Sl), (γ.set g (.ow gh c))[j]? = some t → (g = j ∧ t = .ow gh c) ∨ (g ≠ j ∧ γ[j]? = some t) := fun j t e => by
    by_cases z : g = j
    · subst z
      rw [List.getElem?_set, if_pos rfl] at e
      split at e
      · exact .inl ⟨rfl, (Option.some.inj e).symm⟩
      · cases e
    · rw [List.getElem?_set_ne z] at e
      exact .inr ⟨z, e⟩
  have gh_ : ∀ (j : Nat) (c2 : OC), γ[j]? = some (.ow true c2) → g ≠ j ∧ (γ.set g (.ow gh c))[j]? = some (.ow true c2) := fun j c2 ej => by
    have z : g ≠ j := fun z => by
      subst z
      exact hg c2 ej
    exact ⟨z, by rw [List.getElem?_set_ne z]; exact ej⟩
  have self : ∀ t, (γ.set g (.ow gh c))[g]? = some t → (σ.set g (some (.ref q)))[g]? = some (some (.ref q)) := fun t e => by
    have hl : g < γ.length := by
      have := (List.getElem?_eq_some_iff.mp e).1
      rwa [List.length_set] at this
    rw [List.getElem?_set, if_pos rfl, if_pos (h.len ▸ hl)]
  have refs_ : ∀ (c2 : OC), (∀ j ∈ c2.refs, ∃ c3, γ[j]? = some (.ow true c3)) → ∀ j ∈ c2.refs, (σ.set g (some (.ref q)))[j]? = σ[j]? := fun c2 hz j m => by
    obtain ⟨c3, e3⟩ := hz j m
    exact List.getElem?_set_ne (gh_ j c3 e3).1
  refine { kp := h.kp, zn := fun a ha => ?_, wz := fun a ha => List.mem_cons_of_mem _ (h.wz a ha), dm := fun a ha => h.dm a (hw a ha), len := by rw [List.length_set, List.length_set, h.len], at_ := fun j t ej => ?_, ap := fun j k x b1 c1 d1 e1 h1 h2 h3 h4 => ?_, nst := ⟨fun j g2 c2 ej => ?_, fun j g2 c2 ej x mx => ?_, fun j j2 g2 c2 x ej ej2 h3 h4 => ?_⟩ }
  · rcases List.mem_cons.mp ha with z | z
    · subst z
      exact .inr n0
    · exact h.zn a z
  · rcases at_ j t ej with ⟨_, z⟩ | ⟨z, ej⟩
    · subst z
      trivial
    · rw [List.getElem?_set_ne z]
      exact SlOk.imp (F := F.plus (.ref q)) (F' := F) rfl rfl (fun _ m => List.mem_cons_of_mem _ m) (fun v d z => z.weak hw) (fun a d z => z.weak hw) (h.at_ j t ej)
  · rcases at_ j _ h1 with ⟨_, z⟩ | ⟨z1, q1⟩
    · cases z
    · rcases at_ k _ h2 with ⟨_, z⟩ | ⟨z2, q2⟩
      · cases z
      · rw [List.getElem?_set_ne z1] at h3
        rw [List.getElem?_set_ne z2] at h4
        exact h.ap j k x b1 c1 d1 e1 q1 q2 h3 h4
  · rcases at_ j _ ej with ⟨z1, z2⟩ | ⟨z, ej2⟩
    · subst z1
      cases z2
      exact ⟨q, self _ ej, List.mem_cons_self, n0, oc.imp (fun v d r => r.weak hv) (refs_ c hr) rfl⟩
    · obtain ⟨a, e1, m, m0, o⟩ := h.nst.ok j g2 c2 ej2
      exact ⟨a, by rw [List.getElem?_set_ne z]; exact e1, List.mem_cons_of_mem _ m, m0, o.imp (fun v d r => r.weak hw) (refs_ c2 (h.nst.gr j g2 c2 ej2)) rfl⟩
  · rcases at_ j _ ej with ⟨z1, z2⟩ | ⟨z, ej2⟩
    · cases z2
      obtain ⟨c3, e3⟩ := hr x mx
      exact ⟨c3, (gh_ x c3 e3).2⟩
    · obtain ⟨c3, e3⟩ := h.nst.gr j g2 c2 ej2 x mx
      exact ⟨c3, (gh_ x c3 e3).2⟩
  · have own : ∀ (m : Nat), g = m → (σ.set g (some (.ref q)))[m]? = some (some (.ref x)) → x = q := fun m z u => by
      subst z
      rw [List.getElem?_set, if_pos rfl] at u
      split at u
      · cases u
        rfl
      · cases u
    have oldO : ∀ (m : Nat), g ≠ m → (∃ g' c', γ[m]? = some (.ow g' c')) ∨ (∃ b d, γ[m]? = some (.ce b d)) → (σ.set g (some (.ref q)))[m]? = some (some (.ref x)) → x ∈ Z ∧ σ[m]? = some (some (.ref x)) := fun m z u w => by
      rw [List.getElem?_set_ne z] at w
      rcases u with ⟨g', c', u⟩ | ⟨b, d, u⟩
      · obtain ⟨a, e1, m1, _⟩ := h.nst.ok m g' c' u
        rw [w] at e1
        cases e1
        exact ⟨m1, w⟩
      · obtain ⟨a, e1, m1, _⟩ := h.ce u
        rw [w] at e1
        cases e1
        exact ⟨m1, w⟩
    have k2 : g ≠ j2 → (∃ g' c', γ[j2]? = some (.ow g' c')) ∨ (∃ b d, γ[j2]? = some (.ce b d)) := fun z => by
      rcases ej2 with ⟨g', c', u⟩ | ⟨b, d, u⟩
      · rcases at_ j2 _ u with ⟨z1, _⟩ | ⟨_, u⟩
        · exact absurd z1 z
        · exact .inl ⟨g', c', u⟩
      · rcases at_ j2 _ u with ⟨z1, _⟩ | ⟨_, u⟩
        · exact absurd z1 z
        · exact .inr ⟨b, d, u⟩
    by_cases z1 : g = j
    · by_cases z2 : g = j2
      · exact z1.symm.trans z2
      · have xq := own j z1 h3
        obtain ⟨m, _⟩ := oldO j2 z2 (k2 z2) h4
        exact absurd (.inl (xq ▸ m)) np
    · rcases at_ j _ ej with ⟨z, _⟩ | ⟨_, ej⟩
      · exact absurd z z1
      · by_cases z2 : g = j2
        · have xq := own j2 z2 h4
          obtain ⟨m, _⟩ := oldO j z1 (.inl ⟨g2, c2, ej⟩) h3
          exact absurd (.inl (xq ▸ m)) np
        · obtain ⟨_, u1⟩ := oldO j z1 (.inl ⟨g2, c2, ej⟩) h3
          obtain ⟨_, u2⟩ := oldO j2 z2 (k2 z2) h4
          exact h.nst.ap j j2 g2 c2 x ej (k2 z2) u1 u2
end
end GL

set_option Elab.async false
set_option linter.all false
set_option autoImplicit false
set_option maxRecDepth 100000
set_option maxHeartbeats 2000000
namespace GL
open PySem PySem.Spec PyProof.Rows L2

/-! ### x = [a new list for ..]: each of these lists gets a slot of its own -/
def nwL : Hd → Option (List D)
  | .nw (.list d) => some d
  | _ => none
def lcN (g : SG) (c : SB) (f : SE) (vs : List Nat) : List D → List (List D) → List Sl → R (List (List D))
  | [], acc, γ => .ok acc γ
  | d :: ds, acc, γ => match g d (forget vs γ) with
    | none => .no
    | some γ1 => (c γ1).bx fun t γ2 => match t with
      | false => chk vs γ2 (lcN g c f vs ds acc γ2)
      | true => (f γ2).bx fun h γ3 => match nwL h with
        | some e => chk vs γ3 (lcN g c f vs ds (acc ++ [e]) γ3)
        | none => .no
/-- the lists get the slots gs -/
def putG : List Nat → List (List D) → List Sl → Option (List Sl)
  | _, [], γ => some γ
  | [], _ :: _, _ => none
  | g :: gs, d :: ds, γ => (putG gs ds γ).bind fun γ1 => match γ1[g]? with
    | some .un => some (γ1.set g (.ow true (.lst (d.map .inl))))
    | _ => none
theorem putG_un {g : Nat} {d : List D} {γ1 γ' : List Sl} (e : (match γ1[g]? with
    | some .un => some (γ1.set g (.ow true (.lst (d.map .inl))))
    | _ => none) = some γ') : γ1[g]? = some .un ∧ γ' = γ1.set g (.ow true (.lst (d.map .inl))) := by
  split at e
  · rename_i q
    exact ⟨q, (Option.some.inj e).symm⟩
  · cases e
def putN (i : Nat) (gs : List Nat) (acc : List (List D)) (γ : List Sl) : R Fl := match putG gs acc γ with
  | some γ1 => (match notGh γ1 i with
    | true => .ok .nx (γ1.set i (.ow false (.lst ((gs.take acc.length).map .inr))))
    | false => .no)
  | none => .no
def sAsgN (i : Nat) (gs : List Nat) (fi : SI) (g : SG) (c : SB) (f : SE) (vs : List Nat) : SS := fun γ => (fi γ).bind fun ds γ1 => match noCe vs γ1 with
  | true => (lcN g c f vs ds [] γ1).bind fun acc γ2 => putN i gs acc (restore vs γ1 γ2)
  | false => .no
/-- all of these are avoided -/
def FN (F : Fr) (ps : List Addr) : Fr := ps.foldl (fun F q => F.plus (.ref q)) F
theorem FN_same : ∀ (ps : List Addr) (F : Fr), (FN F ps).P = F.P ∧ (FN F ps).W = F.W ∧ (FN F ps).H0 = F.H0
  | [], F => ⟨rfl, rfl, rfl⟩
  | q :: ps, F => FN_same ps (F.plus (.ref q))
theorem FN_snoc (F : Fr) (ps : List Addr) (q : Addr) : FN F (ps ++ [q]) = (FN F ps).plus (.ref q) := by
  unfold FN
  rw [List.foldl_append]
  rfl
theorem FN_A : ∀ (ps : List Addr) (F : Fr) (a : Addr), (FN F ps).A a ↔ a ∈ ps ∨ F.A a
  | [], F, a => ⟨.inr, fun h => h.resolve_left (fun z => nomatch z)⟩
  | q :: ps, F, a => by
    refine (FN_A ps (F.plus (.ref q)) a).trans ⟨fun h => ?_, fun h => ?_⟩
    · rcases h with h | h | h
      · exact .inl (List.mem_cons_of_mem _ h)
      · cases h
        exact .inl List.mem_cons_self
      · exact .inr h
    · rcases h with h | h
      · rcases List.mem_cons.mp h with h | h
        · subst h
          exact .inr (.inl rfl)
        · exact .inl h
      · exact .inr (.inr h)
section
variable {X : Cx} {pos : Pos} {K : PySem.W.Frag} {F : Fr} {W : WX} {Z : List Addr} {γ γ1 γ2 : List Sl} {σ : L2.St} {H H1 H' : Hp}
theorem av_FN {ps : List Addr} {p a : Addr} (h : av (FN (F.plus (.ref p)) ps) Z a) : a ∈ ps ∨ a = p ∨ av F Z a := by
  rcases h with h | h
  · exact .inr (.inr (.inl h))
  · rcases (FN_A ps _ a).mp h with h | h | h
    · exact .inl h
    · cases h
      exact .inr (.inl rfl)
    · exact .inr (.inr (.inr h))
/-- a new list's content -/
structure InN (K : PySem.W.Frag) (A : Addr → Prop) (H : Hp) (q : Addr) (d : List D) : Prop where
  ex : ∃ ys, H q = some (.lst ys) ∧ ys.length ≤ sizeLine ∧ Reps K A H ys d
structure LcN (K : PySem.W.Frag) (F : Fr) (Z : List Addr) (σ : L2.St) (vs : List Nat) (H1 : Hp) (p : Addr) (ps : List Addr) (γ' : List Sl) (acc : List (List D)) (H' : Hp) : Prop where
  gh : noGhs vs γ' = true
  sr : SR K (FN (F.plus (.ref p)) ps) Z (GL.forget vs γ') (wipe σ vs) H'
  kp : Kp Z H1 H'
  at_ : H' p = some (.lst (ps.map V.ref))
  nd : ps.Nodup
  fr : ∀ q ∈ ps, H1 q = none ∧ q ≠ p
  inn : Paired (fun q d => InN K (av (FN (F.plus (.ref p)) ps) Z) H' q d) ps acc
theorem LcN.len {vs : List Nat} {p : Addr} {ps : List Addr} {acc : List (List D)} (x : LcN K F Z σ vs H1 p ps γ2 acc H') : ps.length = acc.length := paired_len x.inn
theorem fresh_nz {p : Addr} (s1 : SR K F Z γ1 σ H1) (hp : H1 p = none) : p ∉ Z ∧ ¬ av F Z p ∧ F.H0 p = none := by
  have np : ¬ av F Z p := fun z => s1.dm p z hp
  exact ⟨fun z => np (.inl z), np, (s1.h0 hp).1⟩
theorem post_okP {f : SE} {h : Hd} {γ' : List Sl} (e : f γ = .ok h γ') : Post K F W Z σ H (f γ) (fun v H' => SR K (F.pl v h) Z γ' σ H' ∧ Kp Z H H' ∧ HdOk K F Z H' σ v h ∧ NewIn H v h) := by
  rw [e]
  exact fun v H' s k r n => ⟨s, k, r, n⟩
theorem paired_snoc {α β : Type} {A : α → β → Prop} : ∀ {xs : List α} {ys : List β} {x : α} {y : β}, Paired A xs ys → A x y → Paired A (xs ++ [x]) (ys ++ [y])
  | _, _, _, _, .nil, a => .cons a .nil
  | _, _, _, _, .cons b t, a => .cons b (paired_snoc t a)
theorem paired_mem {α β : Type} {A B : α → β → Prop} : ∀ {xs : List α} {ys : List β}, Paired A xs ys → (∀ x ∈ xs, ∀ y, A x y → B x y) → Paired B xs ys
  | _, _, .nil, _ => .nil
  | _, _, .cons b t, k => .cons (k _ List.mem_cons_self _ b) (paired_mem t fun x m => k x (List.mem_cons_of_mem _ m))
/-- one list more -/
theorem LcN.step {vs : List Nat} {p q : Addr} {ps : List Addr} {acc : List (List D)} {d : List D} {γ' γ5 : List Sl} {σ3 : L2.St} {H3 H4 : Hp} (s1 : SR K F Z γ1 σ H1) (hp : H1 p = none) (x : LcN K F Z σ vs H1 p ps γ' acc H') (k3 : Kp Z H' H3) (k5 : Kp Z H3 H4) (hg : noGhs vs γ5 = true) (ew : wipe σ3 vs = wipe σ vs)
    (s5 : SR K ((FN (F.plus (.ref p)) ps).plus (.ref q)) Z γ5 σ3 H4) (r5 : HdOk K (FN (F.plus (.ref p)) ps) Z H4 σ3 (.ref q) (.nw (.list d))) (n5 : H3 q = none) :
    H4 p = some (.lst (ps.map V.ref)) ∧ LcN K F Z σ vs H1 p (ps ++ [q]) γ5 (acc ++ [d]) (upd H4 p (.lst (ps.map V.ref ++ [V.ref q]))) := by
  obtain ⟨pz, np, p0⟩ := fresh_nz s1 hp
  obtain ⟨q', eq, nq, q0, o⟩ := r5
  cases eq
  have e3 : H3 p = some (.lst (ps.map V.ref)) := k3 p _ x.at_ (.inl pz)
  have e4 : H4 p = some (.lst (ps.map V.ref)) := k5 p _ e3 (.inl pz)
  have qp : q ≠ p := fun z => by
    subst z
    rw [n5] at e3
    cases e3
  have q1 : H1 q = none := by
    cases e : H1 q with
    | none => rfl
    | some u =>
      have qz : q ∉ Z := fun z => nq (.inl z)
      have := k3 q u (x.kp q u e (.inl qz)) (.inl qz)
      rw [n5] at this
      cases this
  have qps : q ∉ ps := fun m => nq (.inr ((FN_A ps _ q).mpr (.inl m)))
  have kd : Kp [p] H4 (upd H4 p (.lst (ps.map V.ref ++ [V.ref q]))) := Kp.mut (List.mem_singleton_self _) e4 trivial
  have pin : ∀ F2 : Fr, F2.A p → ∀ a ∈ [p], av F2 Z a := fun F2 h a m => by
    rw [List.mem_singleton.mp m]
    exact .inr h
  have hA : (FN (F.plus (.ref p)) (ps ++ [q])).A p := (FN_A _ _ p).mpr (.inr (.inl rfl))
  have wk : ∀ a, av (FN (F.plus (.ref p)) (ps ++ [q])) Z a → a = q ∨ av (FN (F.plus (.ref p)) ps) Z a := fun a z => by
    rw [FN_snoc] at z
    rcases z with z | z | z
    · exact .inr (.inl z)
    · cases z
      exact .inl rfl
    · exact .inr (.inr z)
  refine ⟨e4, hg, ?_, fun a o ea ca => ?_, ?_, ?_, fun a m => ?_, ?_⟩
  · rw [FN_snoc]
    have u := s5.updA (p := p) (o := .lst (ps.map V.ref ++ [V.ref q])) (by rw [← FN_snoc]; exact hA) pz (by
      show (FN (F.plus (.ref p)) ps).H0 p = none
      rw [(FN_same ps _).2.2]
      exact p0) e4 trivial
    have sw := u.wiped (vs := vs) hg
    rw [ew] at sw
    exact sw
  · have na : a ≠ p := fun z => by
      subst z
      rw [hp] at ea
      cases ea
    rw [upd_ne na]
    exact ((x.kp.trans k3).trans k5) a o ea ca
  · rw [upd_same, List.map_append]
    rfl
  · exact List.nodup_append.mpr ⟨x.nd, List.nodup_cons.mpr ⟨List.not_mem_nil, List.nodup_nil⟩, fun a m b mb e => by
      rw [List.mem_singleton.mp mb] at e
      subst e
      exact qps m⟩
  · rcases List.mem_append.mp m with m | m
    · exact x.fr a m
    · rw [List.mem_singleton.mp m]
      exact ⟨q1, qp⟩
  · refine paired_snoc (paired_mem x.inn fun a m dd ⟨ys, h1, h2, h3⟩ => ?_) ?_
    · have az : a ∉ Z := (fresh_nz s1 (x.fr a m).1).1
      have r3 := Reps.keep k3 avZ _ _ h3
      have r4 := (Reps.more n5 _ _ r3).weak wk
      have r5 := Reps.keep k5 (fun b mb => .inl mb) _ _ r4
      refine ⟨ys, ?_, h2, Reps.keep kd (pin _ hA) _ _ r5⟩
      rw [upd_ne (x.fr a m).2]
      exact k5 a _ (k3 a _ h1 (.inl az)) (.inl az)
    · cases o with
      | lst hz h1 h2 =>
        refine ⟨_, ?_, hz, Reps.keep kd (pin _ hA) _ _ (h2.weak wk)⟩
        rw [upd_ne qp]
        exact h1
/-- the number of slots is known -/
theorem ps_fix {st : Stmt} {t t' : L2.TS} (h : PS X st t) (w : ∀ D σ H, σ.length = X.N.length → t' D σ H → t D σ H) : PS X st t' := ⟨fun pins s σ H D I q => h.run pins s σ H D I (w D σ H I.len q)⟩
/-- the lists come into their slots -/
theorem putG_ok : ∀ {ps : List Addr} {acc : List (List D)} {gs : List Nat} {F : Fr} {Z : List Addr} {γ γ' : List Sl} {σ : L2.St} (_ : SR K (FN F ps) Z γ σ H), ps.Nodup → gs.Nodup → (∀ q ∈ ps, ¬ av F Z q ∧ F.H0 q = none) → Paired (fun q d => InN K (av (FN F ps) Z) H q d) ps acc → putG gs acc γ = some γ' →
    ∃ Z' σ', SR K F Z' γ' σ' H ∧ σ'.length = σ.length ∧ (∀ j, j ∉ gs → σ'[j]? = σ[j]? ∧ γ'[j]? = γ[j]?) ∧ ItRep K (fun _ => False) H σ' (ps.map V.ref) ((gs.take acc.length).map .inr) ∧ (∀ j ∈ gs.take acc.length, ∃ c, γ'[j]? = some (.ow true c)) ∧ (∀ a ∈ Z', a ∈ ps ∨ a ∈ Z) ∧ (∀ a ∈ Z, a ∈ Z') ∧ (∀ a ∈ ps, a ∈ Z')
  | [], _, gs, F, Z, γ, γ', σ, s, _, _, _, .nil, e => by
    have e : some γ = some γ' := by
      cases gs <;> exact e
    cases e
    exact ⟨Z, σ, s, rfl, fun j _ => ⟨rfl, rfl⟩, by rw [List.length_nil, List.take_zero]; exact .nil, (fun j m => by rw [List.length_nil, List.take_zero] at m; cases m), fun a h => .inr h, fun a h => h, fun a h => nomatch h⟩
  | q :: ps, d :: acc, [], F, Z, γ, γ', σ, s, _, _, _, .cons _ _, e => by cases e
  | q :: ps, d :: acc, g :: gs, F, Z, γ, γ', σ, s, nd, ng, hn, .cons i1 i2, e => by
    obtain ⟨γ1, e1, e2⟩ := Option.bind_eq_some_iff.mp (show (putG gs acc γ).bind _ = some γ' from e)
    obtain ⟨nq, nps⟩ := List.nodup_cons.mp nd
    obtain ⟨ngg, ngs⟩ := List.nodup_cons.mp ng
    have hq0 := hn q List.mem_cons_self
    have hn2 : ∀ r ∈ ps, ¬ av (F.plus (.ref q)) Z r ∧ (F.plus (.ref q)).H0 r = none := fun r m => ⟨fun z => by
      rcases z with z | z | z
      · exact (hn r (List.mem_cons_of_mem _ m)).1 (.inl z)
      · cases z
        exact nq m
      · exact (hn r (List.mem_cons_of_mem _ m)).1 (.inr z), (hn r (List.mem_cons_of_mem _ m)).2⟩
    obtain ⟨Z1, σ1, s1, l1, k1, it1, gh1, w1, z1, p1⟩ := putG_ok (F := F.plus (.ref q)) s nps ngs hn2 i2 e1
    obtain ⟨hu, rfl⟩ := putG_un e2
    have hq : ∀ c, γ1[g]? ≠ some (.ow true c) := fun c z => by
      rw [hu] at z
      cases z
    obtain ⟨ys, o1, o2, o3⟩ := i1
    have nqz : ¬ av F Z1 q := fun z => by
      rcases z with z | z
      · rcases w1 q z with y | y
        · exact nq y
        · exact hq0.1 (.inl y)
      · exact hq0.1 (.inr z)
    have wk : ∀ a, (a = q ∨ av F Z1 a) → av (FN F (q :: ps)) Z a := fun a z => by
      rcases z with z | z | z
      · exact .inr ((FN_A _ _ a).mpr (.inl (by rw [z]; exact List.mem_cons_self)))
      · rcases w1 a z with y | y
        · exact .inr ((FN_A _ _ a).mpr (.inl (List.mem_cons_of_mem _ y)))
        · exact .inl y
      · exact .inr ((FN_A _ _ a).mpr (.inr z))
    have s2 := s1.setO (g := g) (gh := true) (c := .lst (d.map .inl)) hq nqz hq0.2 ⟨ys, o1, o2, inl_rep (o3.weak wk)⟩ fun j mj => by
      have mj : j ∈ refsI (d.map .inl) := mj
      rw [inl_refs] at mj
      cases mj
    have hl : g < γ1.length := (List.getElem?_eq_some_iff.mp hu).1
    have hs : g < σ1.length := s1.len ▸ hl
    refine ⟨q :: Z1, _, s2, by rw [List.length_set, l1], fun j nj => ?_, ?_, fun j mj => ?_, fun a m => ?_, fun a m => List.mem_cons_of_mem _ (z1 a m), fun a m => ?_⟩
    · have n1 : g ≠ j := fun z => nj (by rw [z]; exact List.mem_cons_self)
      have := k1 j fun z => nj (List.mem_cons_of_mem _ z)
      rw [List.getElem?_set_ne n1, List.getElem?_set_ne n1]
      exact this
    · rw [List.length_cons, List.take_succ_cons]
      refine .ref (by rw [List.getElem?_set, if_pos rfl, if_pos hs]) (it1.imp (fun v d r => r) fun j m => List.getElem?_set_ne fun z => ?_)
      subst z
      have : g ∈ gs.take acc.length := by
        have go : ∀ l : List Nat, g ∈ refsI (l.map (Sum.inr (α := D))) → g ∈ l := by
          intro l
          induction l with
          | nil => exact fun z => nomatch z
          | cons a l ih =>
            intro z
            rcases List.mem_cons.mp (show g ∈ a :: refsI (l.map (Sum.inr (α := D))) from z) with z | z
            · rw [z]
              exact List.mem_cons_self
            · exact List.mem_cons_of_mem _ (ih z)
        exact go _ m
      exact ngg (List.mem_of_mem_take this)
    · rw [List.length_cons, List.take_succ_cons] at mj
      rcases List.mem_cons.mp mj with z | z
      · subst z
        exact ⟨_, by rw [List.getElem?_set, if_pos rfl, if_pos hl]⟩
      · obtain ⟨c, hc⟩ := gh1 j z
        have n1 : g ≠ j := fun y => ngg (by rw [y]; exact List.mem_of_mem_take z)
        exact ⟨c, by rw [List.getElem?_set_ne n1]; exact hc⟩
    · rcases List.mem_cons.mp m with z | z
      · rw [z]
        exact .inl List.mem_cons_self
      · exact (w1 a z).imp (fun y => List.mem_cons_of_mem _ y) id
    · rcases List.mem_cons.mp m with z | z
      · rw [z]
        exact List.mem_cons_self
      · exact List.mem_cons_of_mem _ (p1 a z)
theorem refs_inr : ∀ l : List Nat, refsI (l.map (Sum.inr (α := D))) = l
  | [] => rfl
  | a :: l => by
    show a :: refsI (l.map (Sum.inr (α := D))) = a :: l
    rw [refs_inr l]
theorem itRep_refs {A A' : Addr → Prop} : ∀ {l : List Nat} {xs : List V}, ItRep K A H σ xs (l.map .inr) → ItRep K A' H' σ xs (l.map .inr)
  | [], _, h => by
    cases h
    exact .nil
  | _ :: l, _, h => by
    cases h with
    | ref e t => exact .ref e (itRep_refs t)
theorem lcN_ext {vs : List Nat} {p : Addr} {ps : List Addr} {acc : List (List D)} (hp : H1 p = none) (x : LcN K F Z σ vs H1 p ps γ2 acc H') : ∀ v d, Rep K (av F Z) H1 v d → Rep K (av (FN (F.plus (.ref p)) ps) Z) H' v d := fun v d r => by
  -- the new addresses are not reached
  have go : ∀ (qs : List Addr) (A : Addr → Prop) (u : V) (e : D), (∀ a ∈ qs, H1 a = none) → Rep K A H1 u e → Rep K (fun a => a ∈ qs ∨ A a) H1 u e := by
    intro qs
    induction qs with
    | nil => exact fun A u e _ r => r.weak fun a z => z.resolve_left (fun y => nomatch y)
    | cons b qs ih =>
      intro A u e hq r
      exact (Rep.more (hq b List.mem_cons_self) _ _ (ih A u e (fun a m => hq a (List.mem_cons_of_mem _ m)) r)).weak fun a z => by
        rcases z with z | z
        · rcases List.mem_cons.mp z with z | z
          · exact .inl z
          · exact .inr (.inl z)
        · exact .inr (.inr z)
  refine Rep.keep x.kp (fun a m => .inl m) d v ((go (p :: ps) _ v d (fun a m => ?_) r).weak fun a z => ?_)
  · rcases List.mem_cons.mp m with m | m
    · rw [m]
      exact hp
    · exact (x.fr a m).1
  · rcases av_FN z with y | y | y
    · exact .inl (List.mem_cons_of_mem _ y)
    · rw [y]
      exact .inl List.mem_cons_self
    · exact .inr y
theorem PostS.bindI2 {D : Ends} {r : R (List PyData)} {k : List PyData → List Sl → R Fl} (p : PostS K F W Z H (r.bind k) D) :
    PostI K F W Z σ H r (fun J H1 => ∃ ds S γ1, r = .ok ds γ1 ∧ SR K F Z γ1 σ H1 ∧ Kp Z H H1 ∧ ItOk K J S ds ∧ S (av F Z) H1 ∧ ds.length ≤ sizeLine ∧ PostS K F W Z H (k ds γ1) D) := by
  cases r with
  | no => exact p
  | ex c γ' => exact p
  | ok ds γ1 => exact fun J S H1 s1 k1 io st hl => ⟨ds, S, γ1, rfl, s1, k1, io, st, hl, p⟩
/-- the whole list comes into its slot -/
theorem putN_ok {i : Nat} {gs : List Nat} {vs : List Nat} {p : Addr} {ps : List Addr} {acc : List (List D)} {D0 : Ends} (ng : gs.Nodup) (hi : i ∉ gs) (hu : unseen X gs) (hlen : σ.length = X.N.length) (s1 : SR K F Z γ1 σ H1) (hp : H1 p = none) (hn : noCe vs γ1 = true) (k0 : Kp Z H H1) (x : LcN K F Z σ vs H1 p ps γ2 acc H') (hz : acc.length ≤ sizeLine)
    (q : PostS K F W Z H (putN i gs acc (restore vs γ1 γ2)) D0) : ∃ σ2, Agree X (σ.set i (some (.ref p))) σ2 ∧ D0.nx σ2 H' := by
  obtain ⟨pz, np, p0⟩ := fresh_nz s1 hp
  have hx := lcN_ext hp x
  have s2 := restore_sr s1 hn x.gh hx x.sr
  unfold putN at q
  cases e1 : putG gs acc (restore vs γ1 γ2) with
  | none => rw [e1] at q; exact q.elim
  | some γ3 =>
    rw [e1] at q
    have q : PostS K F W Z H (match notGh γ3 i with
      | true => .ok .nx (γ3.set i (.ow false (.lst ((gs.take acc.length).map .inr))))
      | false => .no) D0 := q
    cases e2 : notGh γ3 i with
    | false => rw [e2] at q; exact q.elim
    | true =>
      rw [e2] at q
      have hps : ∀ a ∈ ps, ¬ av (F.plus (.ref p)) Z a ∧ (F.plus (.ref p)).H0 a = none := fun a m => by
        obtain ⟨a1, a2⟩ := x.fr a m
        obtain ⟨az, an, a0⟩ := fresh_nz s1 a1
        refine ⟨fun z => ?_, a0⟩
        rcases av_plus z with y | y
        · exact a2 y
        · exact an y
      obtain ⟨Z3, σ3, s3, l3, k3, it3, g3, w3, z3, p3⟩ := putG_ok (F := F.plus (.ref p)) s2 x.nd ng hps x.inn e1
      have npz : ¬ av F Z3 p := fun z => by
        rcases z with z | z
        · rcases w3 p z with y | y
          · exact (x.fr p y).2 rfl
          · exact pz y
        · exact np (.inr z)
      have s4 := s3.setO (g := i) (gh := false) (c := .lst ((gs.take acc.length).map .inr)) (notGh_ne e2) npz p0 ⟨ps.map V.ref, x.at_, by rw [List.length_map, x.len]; exact hz, itRep_refs it3⟩ fun j mj => g3 j (by rw [← refs_inr (gs.take acc.length)]; exact mj)
      refine ⟨_, ⟨by rw [List.length_set, List.length_set, l3], fun j y ej vj => ?_⟩, q (p :: Z3) _ H' s4 fun v d r => ?_⟩
      · by_cases z : i = j
        · subst z
          rw [List.getElem?_set, List.getElem?_set, if_pos rfl, if_pos rfl, l3]
        · rw [List.getElem?_set_ne z, List.getElem?_set_ne z]
          exact (k3 j fun m => hu j m y ej vj).1
      · have r1 : Rep K (av F Z) H1 v d := Rep.keep k0 avZ d v r
        refine (hx v d r1).weak fun a z => ?_
        rcases z with z | z
        · rcases List.mem_cons.mp z with z | z
          · exact .inr ((FN_A _ _ a).mpr (.inr (.inl (by rw [z]))))
          · rcases w3 a z with y | y
            · exact .inr ((FN_A _ _ a).mpr (.inl y))
            · exact .inl y
        · exact .inr ((FN_A _ _ a).mpr (.inr (.inr z)))
theorem asgN_run {i : Nat} {gs ts vs : List Nat} {fi : SI} {g : SG} {c : SB} {f : SE} (ng : gs.Nodup) (hgi : i ∉ gs) (hu : unseen X gs) (hts : ∀ i ∈ ts, i ∈ vs) (D0 : Ends) (σ : L2.St) (H : Hp) (hlen : σ.length = X.N.length) (h : TS X.K F W (sAsgN i gs fi g c f vs) D0 σ H) :
    tAsg (tLc (TI X.K F W fi) (fun v σ H Q => ∃ F, TG X.K F ts g v σ H Q) (fun σ H Q => ∃ F, TB X.K F W0 c σ H Q) (fun σ H Q => ∃ F, T X.K F W0 f σ H Q) vs) (L2.gName i) { D0 with nx := fun σ1 H1 => ∃ σ2, Agree X σ1 σ2 ∧ D0.nx σ2 H1 } σ H := by
  obtain ⟨Z, γ, s, p⟩ := h
  refine ⟨Z, γ, s, (PostS.bindI2 p).mono fun J H1 ⟨ds, S, γ1, _, s1, k1, io, st, hl, p1⟩ => ?_⟩
  intro Dl hD
  cases hn : noCe vs γ1 with
  | false =>
    rw [hn] at p1
    exact p1.elim
  | true =>
    rw [hn] at p1
    obtain ⟨nz, np, n0⟩ := fresh_nz s1 hD
    have s2 : SR X.K (F.plus (.ref Dl)) Z γ1 σ (upd H1 Dl (.lst [])) := s1.plus hD (same_new hD) (by rw [upd_same]; exact fun z => nomatch z)
    refine ⟨fun j m H' => m = ds.length - j ∧ j ≤ ds.length ∧ ∃ γ' ps acc, LcN X.K F Z σ vs H1 Dl ps γ' acc H' ∧ acc.length ≤ j ∧ PostS X.K F W Z H ((lcN g c f vs (ds.drop j) acc γ').bind fun acc γ2 => putN i gs acc (restore vs γ1 γ2)) D0,
      ⟨ds.length, by rw [Nat.sub_zero], Nat.zero_le _, γ1, [], [], ⟨noCe_gh hn, s2.wiped (noCe_gh hn), Kp.new hD, upd_same, List.nodup_nil, (fun _ z => nomatch z), .nil⟩, Nat.zero_le _, p1⟩, ?_⟩
    rintro j m H' ⟨rfl, hj, γ', ps, acc, x, ha, p'⟩
    have hext : ∀ v d, Rep X.K (av F Z) H1 v d → Rep X.K (av (FN (F.plus (.ref Dl)) ps) Z) H' v d := lcN_ext hD x
    have st' : S (av (FN (F.plus (.ref Dl)) ps) Z) H' := io.st _ _ _ _ hext st
    by_cases hlt : j < ds.length
    · obtain ⟨d, ed, edr⟩ := drop_some hlt
      rw [edr] at p'
      obtain ⟨hgo, hy⟩ := io.go _ _ j d st' ed
      refine .inr ⟨hgo, fun H2 => ∃ γ' ps acc, LcN X.K F Z σ vs H1 Dl ps γ' acc H2 ∧ acc.length ≤ j + 1 ∧ PostS X.K F W Z H ((lcN g c f vs (ds.drop (j + 1)) acc γ').bind fun acc γ2 => putN i gs acc (restore vs γ1 γ2)) D0,
        fun H2 ⟨γ2, ps2, acc2, a1, a2, a3⟩ => ⟨ds.length - (j + 1), by omega, rfl, hlt, γ2, ps2, acc2, a1, a2, a3⟩, fun v H2 yl => ?_⟩
      obtain ⟨sm, rx⟩ := hy v H2 yl
      refine ⟨FN (F.plus (.ref Dl)) ps, Z, GL.forget vs γ', d, x.sr.same sm, rx, ?_⟩
      have p' : PostS X.K F W Z H ((match g d (GL.forget vs γ') with
        | none => .no
        | some γ1 => (c γ1).bx fun t γ2 => match t with
          | false => chk vs γ2 (lcN g c f vs (ds.drop (j + 1)) acc γ2)
          | true => (f γ2).bx fun h γ3 => match nwL h with
            | some e => chk vs γ3 (lcN g c f vs (ds.drop (j + 1)) (acc ++ [e]) γ3)
            | none => .no : R (List (List PyData))).bind fun acc γ2 => putN i gs acc (restore vs γ1 γ2)) D0 := p'
      cases q : g d (GL.forget vs γ') with
      | none => rw [q] at p'; exact p'.elim
      | some γ3 =>
        rw [q] at p'
        have p' : PostS X.K F W Z H (((c γ3).bx fun t γ2 => match t with
          | false => chk vs γ2 (lcN g c f vs (ds.drop (j + 1)) acc γ2)
          | true => (f γ2).bx fun h γ3 => match nwL h with
            | some e => chk vs γ3 (lcN g c f vs (ds.drop (j + 1)) (acc ++ [e]) γ3)
            | none => .no : R (List (List PyData))).bind fun acc γ2 => putN i gs acc (restore vs γ1 γ2)) D0 := p'
        intro σ3 s3 sb
        have ew : wipe σ3 vs = wipe σ vs := wipe_eq sb hts
        refine ⟨ew, ?_⟩
        cases q2 : c γ3 with
        | no => rw [q2] at p'; exact p'.elim
        | ex z γ4 => rw [q2] at p'; exact p'.elim
        | ok t γ4 =>
          rw [q2] at p'
          refine ⟨FN (F.plus (.ref Dl)) ps, Z, γ3, s3, (postB_ok q2).mono fun t' H3 ⟨et, s4, k4⟩ => ?_⟩
          subst et
          have k3 : Kp Z H' H3 := (Kp.of_same sm).trans k4
          cases t' with
          | false =>
            have p' : PostS X.K F W Z H ((chk vs γ4 (lcN g c f vs (ds.drop (j + 1)) acc γ4)).bind fun acc γ2 => putN i gs acc (restore vs γ1 γ2)) D0 := p'
            cases hg4 : noGhs vs γ4 with
            | false =>
              unfold chk at p'
              rw [hg4] at p'
              exact p'.elim
            | true =>
              rw [chk_ok hg4] at p'
              have sw := s4.wiped (vs := vs) hg4
              rw [ew] at sw
              refine ⟨γ4, ps, acc, ⟨hg4, sw, x.kp.trans k3, k3 Dl _ x.at_ (.inl nz), x.nd, x.fr, paired_mem x.inn fun a m dd ⟨ys, h1, h2, h3⟩ => ⟨ys, ?_, h2, Reps.keep k3 avZ _ _ h3⟩⟩, by omega, p'⟩
              exact k3 a _ h1 (.inl (fresh_nz s1 (x.fr a m).1).1)
          | true =>
            have p' : PostS X.K F W Z H (((f γ4).bx fun h γ3 => match nwL h with
              | some e => chk vs γ3 (lcN g c f vs (ds.drop (j + 1)) (acc ++ [e]) γ3)
              | none => .no : R (List (List PyData))).bind fun acc γ2 => putN i gs acc (restore vs γ1 γ2)) D0 := p'
            rw [if_pos rfl]
            cases q3 : f γ4 with
            | no => rw [q3] at p'; exact p'.elim
            | ex z γ5 => rw [q3] at p'; exact p'.elim
            | ok h γ5 =>
              rw [q3] at p'
              have p' : PostS X.K F W Z H ((match nwL h with
                | some e => chk vs γ5 (lcN g c f vs (ds.drop (j + 1)) (acc ++ [e]) γ5)
                | none => .no : R (List (List PyData))).bind fun acc γ2 => putN i gs acc (restore vs γ1 γ2)) D0 := p'
              refine ⟨FN (F.plus (.ref Dl)) ps, Z, γ4, s4, (post_okP q3).mono fun y H4 ⟨s5, k5, r5, n5⟩ => ?_⟩
              match h, s5, r5, n5, p' with
              | .nw (.list e), s5, r5, n5, p' =>
                have p' : PostS X.K F W Z H ((chk vs γ5 (lcN g c f vs (ds.drop (j + 1)) (acc ++ [e]) γ5)).bind fun acc γ2 => putN i gs acc (restore vs γ1 γ2)) D0 := p'
                cases hg5 : noGhs vs γ5 with
                | false =>
                  unfold chk at p'
                  rw [hg5] at p'
                  exact p'.elim
                | true =>
                  rw [chk_ok hg5] at p'
                  obtain ⟨q0, rfl, _⟩ := id r5
                  obtain ⟨e4, x2⟩ := LcN.step s1 hD x k3 k5 hg5 ew s5 r5 (n5 _ rfl q0 rfl)
                  have hlen := x.len
                  exact ⟨_, e4, by rw [List.length_map]; omega, γ5, ps ++ [q0], acc ++ [e], x2, by rw [List.length_append, List.length_singleton]; omega, p'⟩
              | .pv _, _, _, _, p' => exact p'.elim
              | .cl _, _, _, _, p' => exact p'.elim
              | .nw .none, _, _, _, p' => exact p'.elim
              | .nw (.bool _), _, _, _, p' => exact p'.elim
              | .nw (.int _), _, _, _, p' => exact p'.elim
              | .nw (.str _), _, _, _, p' => exact p'.elim
              | .nw (.tuple _), _, _, _, p' => exact p'.elim
              | .nw (.dict _), _, _, _, p' => exact p'.elim
    · have e : j = ds.length := by omega
      subst e
      refine .inl ⟨io.stop _ _ st', ?_⟩
      rw [List.drop_length] at p'
      exact putN_ok (X := X) ng hgi hu hlen s1 hD hn k1 x (Nat.le_trans ha hl) p'
theorem gs_setN {i : Nat} {gs : List Nat} {y : Str} {py : Pos} {elt tg iter : Expr} {ifs : List Expr} {scope : Scope} {own : List (Str × Nat)} {spos : Pos} {ts : List Nat} {fi : SI} {g : SG} {c : SB} {f : SE} (hc : X.calm = true) (hN : X.N.Nodup) (hy : X.N[i]? = some y) (hyl : X.env.scope.names.lookup y = some .local)
    (ng : gs.Nodup) (hgi : i ∉ gs) (hu : unseen X gs) (hsw : swapsWith (.ListComp elt [⟨tg, iter, ifs, 0⟩] scope pos) (some (.Name y py)) spos.line X.env = pure true) (hi : GI X tg iter fi) (ok : BlkOk X.N X.env.scope scope own)
    (hg : ∀ (s : Shared) (H : Hp) (C : Addr) (cl : List (Str × Addr)) (fp : List Addr), GG (X.blk s H scope (compEnvC scope cl C X.env) fp) tg ts g)
    (ht : ∀ (s : Shared) (H : Hp) (C : Addr) (cl : List (Str × Addr)) (fp : List Addr), GTs (X.blk s H scope (compEnvC scope cl C X.env) fp) ifs c)
    (he : ∀ (s : Shared) (H : Hp) (C : Addr) (cl : List (Str × Addr)) (fp : List Addr), GE (X.blk s H scope (compEnvC scope cl C X.env) fp) elt f)
    (hts : ∀ i ∈ ts, i ∈ own.map (·.2)) (hs : ∀ x, foldedSetIterable iter X.env x = pure x := by intro _; rfl) :
    GS X (.Assign [.Name y py] (.ListComp elt [⟨tg, iter, ifs, 0⟩] scope pos) spos) (sAsgN i gs fi g c f (own.map (·.2))) := ⟨fun F W tk => ps_fix (ps_agree (ps_setLc (g := fun v σ H Q => ∃ F, TG X.K F ts g v σ H Q) (tt := fun σ H Q => ∃ F, TB X.K F W0 c σ H Q) (te := fun σ H Q => ∃ F, T X.K F W0 f σ H Q)
      hc hN hy hyl hsw (hi.run F W tk) ok (fun s H C cl fp => pg_ex fun F => (hg s H C cl fp).run F) (fun s H C cl fp => pts_ex fun F => (ht s H C cl fp).run F W0 takes0) (fun s H C cl fp => pe_ex fun F => (he s H C cl fp).run F W0 takes0) hs)) fun D0 σ H hlen h => asgN_run ng hgi hu hts D0 σ H hlen h⟩
theorem gs_setNC {i : Nat} {gs : List Nat} {y : Str} {py : Pos} {elt tg iter : Expr} {ifs : List Expr} {scope : Scope} {own : List (Str × Nat)} {spos : Pos} {ts : List Nat} {fi : SI} {g : SG} {c : SB} {f : SE} (hc : X.calm = true) (hN : X.N.Nodup) (hy : X.N[i]? = some y) (hyl : Loc X.env.scope y)
    (ng : gs.Nodup) (hgi : i ∉ gs) (hu : unseen X gs) (hsw : swapsWith (.ListComp elt [⟨tg, iter, ifs, 0⟩] scope pos) (some (.Name y py)) spos.line X.env = pure false) (hi : GI X tg iter fi) (ok : BlkOk X.N X.env.scope scope own)
    (hg : ∀ (s : Shared) (H : Hp) (C : Addr) (cl : List (Str × Addr)) (fp : List Addr), GG (X.blk s H scope (compEnvC scope cl C X.env) fp) tg ts g)
    (ht : ∀ (s : Shared) (H : Hp) (C : Addr) (cl : List (Str × Addr)) (fp : List Addr), GTs (X.blk s H scope (compEnvC scope cl C X.env) fp) ifs c)
    (he : ∀ (s : Shared) (H : Hp) (C : Addr) (cl : List (Str × Addr)) (fp : List Addr), GE (X.blk s H scope (compEnvC scope cl C X.env) fp) elt f)
    (hts : ∀ i ∈ ts, i ∈ own.map (·.2)) (hs : ∀ x, foldedSetIterable iter X.env x = pure x := by intro _; rfl) (hf : X.fn y = true ∨ X.env.scope.names.lookup y = some .local := by first | exact .inl rfl | exact .inr rfl | assumption) :
    GS X (.Assign [.Name y py] (.ListComp elt [⟨tg, iter, ifs, 0⟩] scope pos) spos) (sAsgN i gs fi g c f (own.map (·.2))) := ⟨fun F W tk => ps_fix (ps_agree (ps_set hN hy hyl (pe_lc (g := fun v σ H Q => ∃ F, TG X.K F ts g v σ H Q) (tt := fun σ H Q => ∃ F, TB X.K F W0 c σ H Q) (te := fun σ H Q => ∃ F, T X.K F W0 f σ H Q)
      hc hN (hi.run F W tk) ok (fun s H C cl fp => pg_ex fun F => (hg s H C cl fp).run F) (fun s H C cl fp => pts_ex fun F => (ht s H C cl fp).run F W0 takes0) (fun s H C cl fp => pe_ex fun F => (he s H C cl fp).run F W0 takes0) hs) hsw hf)) fun D0 σ H hlen h => asgN_run ng hgi hu hts D0 σ H hlen h⟩
end
end GL

set_option Elab.async false
set_option linter.all false
set_option autoImplicit false
set_option maxRecDepth 100000
set_option maxHeartbeats 2000000
namespace GL
open PySem PySem.Spec PyProof.Rows L2
section
variable {X : Cx} {pos : Pos} {K : PySem.W.Frag} {F : Fr} {W : WX} {Z : List Addr} {γ : List Sl} {σ : L2.St} {H : Hp} {Q : VK}

/-! ### x[i], x a list of references -/
def ixO (h h2 : Hd) (γ : List Sl) : R Hd := match h, h2 with
  | .cl i, .pv (.int k) => (match γ[i]? with
    | some (.ow _ (.lst its)) => (match atI its k with
      | some (.inl d) => .ok (.pv d) γ
      | some (.inr j) => .ok (.cl j) γ
      | none => .no)
    | _ => .no)
  | _, _ => .no
def vIxO (fa fb : SE) : SE := fun γ => (fa γ).bind fun h γ1 => (fb γ1).bind fun h2 γ2 => ixO h h2 γ2
theorem ItRep.length {A : Addr → Prop} : ∀ {xs : List V} {its : List (D ⊕ Nat)}, ItRep K A H σ xs its → xs.length = its.length
  | _, _, .nil => rfl
  | _, _, .val _ t => by rw [List.length_cons, List.length_cons, t.length]
  | _, _, .ref _ t => by rw [List.length_cons, List.length_cons, t.length]
theorem ItRep.get {A : Addr → Prop} : ∀ {xs : List V} {its : List (D ⊕ Nat)} {n : Nat} {it : D ⊕ Nat}, ItRep K A H σ xs its → its[n]? = some it → ∃ v, xs[n]? = some v ∧ (∀ d, it = .inl d → Rep K A H v d) ∧ ∀ j, it = .inr j → σ[j]? = some (some v)
  | _, _, _, _, .nil, e => by simp at e
  | _, _, 0, _, .val r t, e => by
    cases e
    exact ⟨_, rfl, (fun d e => by cases e; exact r), fun j e => by cases e⟩
  | _, _, 0, _, .ref r t, e => by
    cases e
    exact ⟨_, rfl, (fun d e => by cases e), fun j e => by cases e; exact r⟩
  | _, _, n + 1, _, .val r t, e => by
    obtain ⟨v, h1, h2⟩ := t.get (n := n) (by simpa using e)
    exact ⟨v, by simpa using h1, h2⟩
  | _, _, n + 1, _, .ref r t, e => by
    obtain ⟨v, h1, h2⟩ := t.get (n := n) (by simpa using e)
    exact ⟨v, by simpa using h1, h2⟩
theorem ge_ixO {a b : Expr} {fa fb : SE} (ha : GE X a fa) (hb : GE X b fb) (hs : PlainIx b) : GE X (.Subscript a b pos) (vIxO fa fb) :=
  ⟨fun F W tk => (pe_ix ix_seq (ha.run F W tk) (hb.run F W tk) hs).weak fun σ H Q ⟨Z, γ, s, p⟩ => by
    refine ⟨Z, γ, s, p.bind.mono fun v H1 ⟨h1, γ1, _, s1, k1, r1, p1⟩ => ?_⟩
    refine ⟨Z, γ1, s1, p1.bind.mono fun w H2 ⟨h2, γ2, _, s2, k2, r2, p2⟩ => ?_⟩
    match h1, h2, r1, r2, p2 with
    | .cl i, .pv (.int k), r1, r2, p2 =>
      have rw2 : Rep X.K (av F Z) H2 w (.int k) := r2
      cases rw2
      have p2 : Post X.K F W Z σ H2 (match γ2[i]? with
        | some (.ow _ (.lst its)) => (match atI its k with
          | some (.inl d) => .ok (.pv d) γ2
          | some (.inr j) => .ok (.cl j) γ2
          | none => .no)
        | _ => .no) Q := p2
      cases e : γ2[i]? with
      | none => rw [e] at p2; exact p2.elim
      | some sl =>
        rw [e] at p2
        match sl, e, p2 with
        | .ow gh (.lst its), e, p2 =>
          obtain ⟨ad, rfl, ea⟩ := cl_own s2 e r1
          obtain ⟨xs, g1, g2, g3⟩ := own_lst s2 e ea
          have p2 : Post X.K F W Z σ H2 (match atI its k with
            | some (.inl d) => .ok (.pv d) γ2
            | some (.inr j) => .ok (.cl j) γ2
            | none => .no) Q := p2
          cases e3 : atI its k with
          | none => rw [e3] at p2; exact p2.elim
          | some it =>
            rw [e3] at p2
            unfold atI at e3
            obtain ⟨n, e4, e5⟩ := Option.bind_eq_some_iff.mp e3
            obtain ⟨u, eu, u1, u2⟩ := g3.get e5
            have ea2 : atI xs k = some u := by
              unfold atI
              rw [g3.length, e4]
              exact eu
            refine .inl ⟨ad, xs, k, u, rfl, rfl, SqL.of g1, ea2, ?_⟩
            cases it with
            | inl d => exact p2.end_ s2 (Same.refl H2) (u1 d rfl) newIn_pv
            | inr j => exact p2.end_ s2 (Same.refl H2) (u2 j rfl) fun _ z => nomatch z⟩
end
section
variable {X : Cx} {pos : Pos}
theorem gb_cmp {a b : Expr} {fa fb : SE} {op : CmpOp} {r : R2} {g : D → D → Option Hd} (ho : OpR X (compareOp op) r) (dz : Does2 X.K r g) (ha : GE X a fa) (hb : GE X b fb) (hm : behindInMarks op b = false) : GB X (.Compare a [op] [b] pos) (cV (vBin g fa fb)) :=
  ⟨fun F W tk => (pt_cmpR ho (ha.run F W tk) (hb.run F W tk) hm).weak fun σ H Q ⟨Z, γ, s, p⟩ => T.bin dz ⟨Z, γ, s, p.bindE.mono fun v H1 ⟨h1, γ1, _, s1, k1, r1, p1⟩ => by
    match h1, r1, p1 with
    | .pv (.bool b), r1, p1 =>
      have r2 : Rep X.K (av F Z) H1 v (.bool b) := r1
      cases r2
      exact ⟨b, rfl, p1 H1 s1 (Kp.refl _ _)⟩⟩⟩
end
/-! ### help for the texts that are printed -/
theorem hu65 {k : Nat} {A : Around} (r : Room k A) : A.units + 65 < cLine := by
  have := r.un
  omega
theorem hu64 {k : Nat} {A : Around} (r : Room k A) : A.units + 64 < cLine := by
  have := r.un
  omega
section
variable {P : Program} {w : World} {K : PySem.W.Frag} {mg : Str → Option Value} {base : Heap}
theorem fnIs {x : Str} {params : Arguments} {body : List Stmt} {scope : Scope} {fd : FuncData} {ps : List Str} {io : List Bool} {m : Fn} {k : Nat} (F : FunD K x x params body scope [] [] (He.ga K x) fd)
    (ok : FunD K x x params body scope [] [] (He.ga K x) fd → FnOk P w K mg base (L2.CX P w) k (He.ga K x) fd ps (spF K io m)) (b : Binds K fd ps []) (g : mg x = some (.ref (He.ga K x))) : FnIs P w K mg base k x ps io m := ⟨⟨fd, ok F, b⟩, F.kp, g⟩
/-- a def that is not called so deep -/
def mNo : Fn := fun _ => .no
theorem fn_no {x : Str} {params : Arguments} {body : List Stmt} {scope : Scope} {f : Addr} {fd : FuncData} {N ps : List Str} {io : List Bool} {k : Nat} (F : FunD K x x params body scope [] [] f fd) (S : FnScope N ps scope) : FnOk P w K mg base (L2.CX P w) (k + 1) f fd ps (spF K io mNo) :=
  F.ok S (fun vs H Q E ⟨_, _, _, _, _, _, h⟩ => h.elim) fun cdv A outer s H vs Q E hr ⟨_, _, _, _, _, _, h⟩ => h.elim
/-- the law's promise -/
theorem sp_law {m : Fn} {n : Nat} (hm : ∀ ns : List Int, ns.length ≤ n → (ns.map PyData.int).length ≤ sizeLine → ∃ os, m [.list (ns.map PyData.int)] = .ok (.pv (.bool true)) os) {H : Hp} {a : Addr} {ns : List Int} (hl : ns.length ≤ n) (hn : n ≤ sizeLine) (hS : SqL K H a (ns.map V.int)) :
    spF K [false] m [.ref a] H (fun v _ => v = .bl true) fun _ _ _ => False := by
  have hz : (ns.map V.int).length ≤ sizeLine := by rw [List.length_map]; exact Nat.le_trans hl hn
  refine ⟨fun _ => False, [], [.list (ns.map PyData.int)], .pl (hS.elim (fun h => .lst hz (fun z => z.elim (fun y => nomatch y) id) h (reps_ints ns)) fun h => .kl hz h (reps_ints ns)) .nil, List.nodup_nil, (fun _ z => (z.elim (fun y => nomatch y) id).elim), ?_⟩
  obtain ⟨os, e⟩ := hm ns hl (by rw [List.length_map]; exact Nat.le_trans hl hn)
  rw [e]
  intro v H' _ _ r
  have r : Rep K _ H' v (.bool true) := r
  cases r
  rfl
end
end GL

set_option Elab.async false
set_option linter.all false
set_option autoImplicit false
set_option maxRecDepth 100000
set_option maxHeartbeats 2000000
/-! plain facts about data -/
namespace GL
open PySem PySem.Spec PyProof.Rows L2
abbrev IsD (xs : List Int) : List D := xs.map PyData.int
/-! ### which data compare -/
def okL (ds : List D) : Bool := PyData.canLayAll0 ds && decide (PyData.depthAll ds ≤ 60)
/-- data up to a depth -/
def okN (n : Nat) (d : D) : Bool := d.canLay0 && decide (d.depth ≤ n)
theorem okD_of {n : Nat} {d : D} (h : okN n d = true) (hn : n ≤ 64) : okD d = true := by
  unfold okN at h
  unfold okD SeqAt.shaped
  simp only [Bool.and_eq_true, decide_eq_true_eq] at h ⊢
  exact ⟨h.1, Nat.le_trans h.2 hn⟩
theorem okN_int {n : Nat} (i : Int) : okN n (.int i) = true := by simp [okN, PyData.canLay0, PyData.depth]
theorem okN_bool {n : Nat} (i : Bool) : okN n (.bool i) = true := by simp [okN, PyData.canLay0, PyData.depth]
theorem okN_none {n : Nat} : okN n .none = true := by simp [okN, PyData.canLay0, PyData.depth]
theorem okN_str {n : Nat} {x : Str} (h : PyData.strOk x = true) : okN n (.str x) = true := by simp [okN, PyData.canLay0, PyData.depth, h]
theorem okAll : ∀ {n : Nat} {ds : List D}, (∀ d ∈ ds, okN n d = true) → PyData.canLayAll0 ds = true ∧ PyData.depthAll ds ≤ n
  | _, [], _ => ⟨by simp [PyData.canLayAll0], by simp [PyData.depthAll]⟩
  | n, d :: ds, h => by
    obtain ⟨h1, h2⟩ := okAll fun d m => h d (List.mem_cons_of_mem _ m)
    have h3 := h d List.mem_cons_self
    unfold okN at h3
    simp only [Bool.and_eq_true, decide_eq_true_eq] at h3
    refine ⟨by simp [PyData.canLayAll0, h1, h3.1], ?_⟩
    rw [PyData.depthAll]
    exact Nat.max_le.mpr ⟨h3.2, h2⟩
theorem okN_tup {n : Nat} {ds : List D} (h : ∀ d ∈ ds, okN n d = true) : okN (n + 1) (.tuple ds) = true := by
  obtain ⟨h1, h2⟩ := okAll h
  simp only [okN, PyData.canLay0, PyData.depth, h1, Bool.true_and, decide_eq_true_eq]
  exact decide_eq_true (Nat.succ_le_succ h2)
theorem okN_lst {n : Nat} {ds : List D} (h : ∀ d ∈ ds, okN n d = true) : okN (n + 1) (.list ds) = true := by
  obtain ⟨h1, h2⟩ := okAll h
  simp only [okN, PyData.canLay0, PyData.depth, h1, Bool.true_and, decide_eq_true_eq]
  exact decide_eq_true (Nat.succ_le_succ h2)
theorem okN_mono {n m : Nat} {d : D} (h : okN n d = true) (l : n ≤ m) : okN m d = true := by
  unfold okN at *
  simp only [Bool.and_eq_true, decide_eq_true_eq] at *
  exact ⟨h.1, Nat.le_trans h.2 l⟩
theorem okD_int (i : Int) : okD (.int i) = true := okD_of (okN_int (n := 0) i) (by decide)
theorem okD_str {x : Str} (h : PyData.strOk x = true) : okD (.str x) = true := okD_of (okN_str (n := 0) h) (by decide)
theorem okN_ints {n : Nat} (xs : List Int) : ∀ d ∈ IsD xs, okN n d = true := fun d m => by
  obtain ⟨i, _, rfl⟩ := List.mem_map.mp m
  exact okN_int i
theorem okD_tupI (xs : List Int) : okD (.tuple (IsD xs)) = true := okD_of (okN_tup (n := 0) (okN_ints xs)) (by decide)
theorem okD_lstI (xs : List Int) : okD (.list (IsD xs)) = true := okD_of (okN_lst (n := 0) (okN_ints xs)) (by decide)
/-! ### == -/
theorem eqv_int (a b : Int) : PyData.eqv (.int a) (.int b) = decide (a = b) := by
  simp only [PyData.eqv]
  by_cases h : a = b
  · subst h; simp
  · rw [decide_eq_false h]
    exact beq_eq_false_iff_ne.mpr h
theorem dEq_int (a b : Int) : dEq (.int a) (.int b) = some (.pv (.bool (decide (a = b)))) := by
  unfold dEq
  rw [okD_int, okD_int, eqv_int]
  rfl
theorem dNeg_one : dNeg (.int 1) = some (.pv (.int (-1))) := rfl
theorem dNe_int (a b : Int) : dNe (.int a) (.int b) = some (.pv (.bool (!decide (a = b)))) := by
  unfold dNe
  rw [okD_int, okD_int, eqv_int]
  rfl
theorem eqv_str (a b : Str) : PyData.eqv (.str a) (.str b) = (a == b) := by simp only [PyData.eqv]
theorem dEq_self {d : D} (h : okD d = true) : dEq d d = some (.pv (.bool true)) := by
  unfold dEq
  rw [h, SeqAt.eqv_refl d (SeqAt.canLay_of_shaped h)]
  rfl
theorem dNe_self {d : D} (h : okD d = true) : dNe d d = some (.pv (.bool false)) := by
  unfold dNe
  rw [h, SeqAt.eqv_refl d (SeqAt.canLay_of_shaped h)]
  rfl
/-- a list or tuple and the empty one -/
theorem dNe_nilL {ds : List D} (h : okD (.list ds) = true) : dNe (.list ds) (.list []) = some (.pv (.bool (!ds.isEmpty))) := by
  unfold dNe
  rw [h]
  cases ds with
  | nil => rfl
  | cons d ds => rfl
/-! ### in, index, places -/
theorem memD_ints : ∀ (xs : List Int) (a : Int), memD (.int a) (IsD xs) = decide (a ∈ xs)
  | [], a => by simp [memD, IsD]
  | x :: xs, a => by
    have ih := memD_ints xs a
    unfold memD at ih ⊢
    rw [show IsD (x :: xs) = PyData.int x :: IsD xs from rfl, List.any_cons, ih, eqv_int]
    by_cases h : x = a
    · subst h; simp
    · have h2 : ¬ a = x := fun z => h z.symm
      simp [h, h2]
theorem dIn_tupI (a : Int) (xs : List Int) : dIn (.int a) (.tuple (IsD xs)) = some (.pv (.bool (decide (a ∈ xs)))) := by
  simp only [dIn, dInB, okD_int, okD_tupI, Bool.and_self, if_true, memD_ints, Option.map_some]
theorem dIn_lstI (a : Int) (xs : List Int) : dIn (.int a) (.list (IsD xs)) = some (.pv (.bool (decide (a ∈ xs)))) := by
  simp only [dIn, dInB, okD_int, okD_lstI, Bool.and_self, if_true, memD_ints, Option.map_some]
theorem dNotIn_tupI (a : Int) (xs : List Int) : dNotIn (.int a) (.tuple (IsD xs)) = some (.pv (.bool (!decide (a ∈ xs)))) := by
  simp only [dNotIn, dInB, okD_int, okD_tupI, Bool.and_self, if_true, memD_ints, Option.map_some]
theorem dNotIn_lstI (a : Int) (xs : List Int) : dNotIn (.int a) (.list (IsD xs)) = some (.pv (.bool (!decide (a ∈ xs)))) := by
  simp only [dNotIn, dInB, okD_int, okD_lstI, Bool.and_self, if_true, memD_ints, Option.map_some]
theorem findD_ints : ∀ (xs : List Int) (a : Int), a ∈ xs → findD (IsD xs) (.int a) = some (xs.idxOf a)
  | x :: xs, a, h => by
    unfold findD
    rw [show IsD (x :: xs) = PyData.int x :: IsD xs from rfl, List.findIdx?_cons, eqv_int]
    by_cases e : x = a
    · subst e; simp
    · have h2 : a ∈ xs := (List.mem_cons.mp h).resolve_left fun z => e z.symm
      have ih := findD_ints xs a h2
      unfold findD at ih
      rw [if_neg (by simpa using e), ih, List.idxOf_cons, beq_false_of_ne e]
      rfl
theorem nIndexT_ints {xs : List Int} {a : Int} (h : a ∈ xs) : nIndexT (.tuple (IsD xs)) [.int a] = some (.pv (.int ((xs.idxOf a : Nat) : Int))) := by
  simp only [nIndexT, okD_int, okD_tupI, Bool.and_self, if_true, findD_ints xs a h, Option.map_some]
theorem nIndex_ints {xs : List Int} {a : Int} (h : a ∈ xs) : nIndex (.list (IsD xs)) [.int a] = some (.pv (.int ((xs.idxOf a : Nat) : Int))) := by
  simp only [nIndex, okD_int, okD_lstI, Bool.and_self, if_true, findD_ints xs a h, Option.map_some]
theorem ixN_nat {n i : Nat} (h : i < n) : ixN n (i : Int) = some i := by
  unfold ixN
  rw [if_pos (Int.natCast_nonneg i), if_pos (by exact_mod_cast h)]
  rfl
theorem atI_nat {α : Type} {xs : List α} {i : Nat} : atI xs (i : Int) = xs[i]? := by
  unfold atI
  by_cases h : i < xs.length
  · rw [ixN_nat h]
    rfl
  · have : ixN xs.length (i : Int) = none := by
      unfold ixN
      rw [if_pos (Int.natCast_nonneg i), if_neg (by omega)]
    rw [this, List.getElem?_eq_none (by omega)]
    rfl
theorem atI_zero {α : Type} {xs : List α} : atI xs 0 = xs[0]? := atI_nat (i := 0)
theorem atI_one {α : Type} {xs : List α} : atI xs 1 = xs[1]? := atI_nat (i := 1)
theorem atI_two {α : Type} {xs : List α} : atI xs 2 = xs[2]? := atI_nat (i := 2)
theorem atI_three {α : Type} {xs : List α} : atI xs 3 = xs[3]? := atI_nat (i := 3)
theorem dIx_tup {xs : List D} {i : Nat} {d : D} (h : xs[i]? = some d) : dIx (.tuple xs) (.int (i : Nat)) = some (.pv d) := by
  simp only [dIx, atD, atI_nat, h, Option.map_some]
theorem dIx_lst {xs : List D} {i : Nat} {d : D} (h : xs[i]? = some d) : dIx (.list xs) (.int (i : Nat)) = some (.pv d) := by
  simp only [dIx, atD, atI_nat, h, Option.map_some]
/-! ### loops -/
theorem forL_nil {g : SG} {b : SS} {fg : List Nat} {γ : List Sl} : forL g b fg [] γ = .ok .nx (forget fg γ) := rfl
theorem forL_cons {g : SG} {b : SS} {fg : List Nat} {d : D} {ds : List D} {γ : List Sl} : forL g b fg (d :: ds) γ = match g d (forget fg γ) with
    | none => .no
    | some γ1 => (b γ1).bind fun fl γ2 => match fl with
      | .nx => forL g b fg ds γ2
      | .ct => forL g b fg ds γ2
      | .bk => .ok .nx (forget fg γ2)
      | .rt h => .ok (.rt h) γ2 := rfl
/-- one turn that goes on -/
theorem forL_go {g : SG} {b : SS} {fg : List Nat} {d : D} {ds : List D} {γ γ1 γ2 : List Sl} (h1 : g d (forget fg γ) = some γ1) (h2 : b γ1 = .ok .nx γ2) : forL g b fg (d :: ds) γ = forL g b fg ds γ2 := by
  rw [forL_cons, h1]
  show (b γ1).bind _ = _
  rw [h2]
  rfl
theorem forL_ret {g : SG} {b : SS} {fg : List Nat} {d : D} {ds : List D} {γ γ1 γ2 : List Sl} {h : Hd} (h1 : g d (forget fg γ) = some γ1) (h2 : b γ1 = .ok (.rt h) γ2) : forL g b fg (d :: ds) γ = .ok (.rt h) γ2 := by
  rw [forL_cons, h1]
  show (b γ1).bind _ = _
  rw [h2]
  rfl
/-- a loop that looks for something -/
theorem forL_find {g : SG} {b : SS} {fg : List Nat} {γ0 : List Sl} {n : Nat} (p : D → Option Hd) : ∀ (ds : List D) (γ : List Sl), forget fg γ = γ0 →
    (∀ d ∈ ds, ∃ γ1, g d γ0 = some γ1 ∧ ((∃ h γ2, p d = some h ∧ b γ1 = .ok (.rt h) γ2 ∧ γ2.length = n) ∨ (p d = none ∧ ∃ γ2, b γ1 = .ok .nx γ2 ∧ forget fg γ2 = γ0))) →
    (∃ h γ2, ds.findSome? p = some h ∧ forL g b fg ds γ = .ok (.rt h) γ2 ∧ γ2.length = n) ∨ (ds.findSome? p = none ∧ forL g b fg ds γ = .ok .nx γ0)
  | [], γ, h0, _ => .inr ⟨rfl, by rw [forL_nil, h0]⟩
  | d :: ds, γ, h0, hs => by
    obtain ⟨γ1, h1, h2⟩ := hs d List.mem_cons_self
    rcases h2 with ⟨h, γ2, e1, e2, e3⟩ | ⟨e1, γ2, e2, e3⟩
    · exact .inl ⟨h, γ2, by rw [List.findSome?_cons, e1], forL_ret (by rw [h0]; exact h1) e2, e3⟩
    · rcases forL_find p ds γ2 e3 fun d m => hs d (List.mem_cons_of_mem _ m) with ⟨h, γ3, k1, k2, k3⟩ | ⟨k1, k2⟩
      · exact .inl ⟨h, γ3, by rw [List.findSome?_cons, e1]; exact k1, by rw [forL_go (by rw [h0]; exact h1) e2]; exact k2, k3⟩
      · exact .inr ⟨by rw [List.findSome?_cons, e1]; exact k1, by rw [forL_go (by rw [h0]; exact h1) e2]; exact k2⟩
/-- a loop that goes through all -/
theorem forL_all {α : Type} {g : SG} {b : SS} {fg : List Nat} (enc : α → List Sl) (I : Nat → α → Prop) : ∀ (ds : List D) (k : Nat) (a : α) (γ : List Sl), I k a → forget fg γ = enc a →
    (∀ (i : Nat) (a : α) (d : D), ds[i]? = some d → I (k + i) a → ∃ γ1 γ2 a', g d (enc a) = some γ1 ∧ b γ1 = .ok .nx γ2 ∧ forget fg γ2 = enc a' ∧ I (k + i + 1) a') →
    ∃ a', I (k + ds.length) a' ∧ forL g b fg ds γ = .ok .nx (enc a')
  | [], k, a, γ, ia, h0, _ => ⟨a, ia, by rw [forL_nil, h0]⟩
  | d :: ds, k, a, γ, ia, h0, hs => by
    obtain ⟨γ1, γ2, a', h1, h2, h3, i1⟩ := hs 0 a d rfl ia
    obtain ⟨a2, i2, e2⟩ := forL_all enc I ds (k + 1) a' γ2 i1 h3 fun i a d e ia => by
      have q := hs (i + 1) a d (by rw [List.getElem?_cons_succ]; exact e) (by rw [show k + (i + 1) = k + 1 + i by omega]; exact ia)
      rw [show k + (i + 1) + 1 = k + 1 + i + 1 by omega] at q
      exact q
    refine ⟨a2, ?_, by rw [forL_go (by rw [h0]; exact h1) h2]; exact e2⟩
    rw [List.length_cons, show k + (ds.length + 1) = k + 1 + ds.length by omega]
    exact i2
/-- a while loop -/
theorem while_all {α : Type} {c : SB} {b : SS} {fg : List Nat} (enc : α → List Sl) (μ : α → Nat) (I : α → Prop)
    (hs : ∀ a, I a → c (enc a) = .ok false (enc a) ∨ (c (enc a) = .ok true (enc a) ∧ ∃ γ2 a', b (enc a) = .ok .nx γ2 ∧ forget fg γ2 = enc a' ∧ I a' ∧ μ a' < μ a)) :
    ∀ (n : Nat) (a : α) (γ : List Sl), μ a ≤ n → I a → forget fg γ = enc a → ∃ a', I a' ∧ c (enc a') = .ok false (enc a') ∧ sWhile c b fg γ = .ok .nx (enc a') := by
  have go : ∀ (n : Nat) (a : α) (γ : List Sl), μ a ≤ n → I a → forget fg γ = enc a → ∃ a', I a' ∧ c (enc a') = .ok false (enc a') ∧ ∃ m, whileN c b fg m γ = .ok .nx (enc a') := by
    intro n
    induction n with
    | zero =>
      intro a γ hn ia h0
      rcases hs a ia with h | ⟨_, _, _, _, _, _, h⟩
      · refine ⟨a, ia, h, 1, ?_⟩
        show (c (forget fg γ)).bind _ = _
        rw [h0, h]
        rfl
      · omega
    | succ n ih =>
      intro a γ hn ia h0
      rcases hs a ia with h | ⟨h, γ2, a', h2, h3, h4, h5⟩
      · refine ⟨a, ia, h, 1, ?_⟩
        show (c (forget fg γ)).bind _ = _
        rw [h0, h]
        rfl
      · obtain ⟨a2, i2, c2, m, e2⟩ := ih a' γ2 (by omega) h4 h3
        refine ⟨a2, i2, c2, m + 1, ?_⟩
        show (c (forget fg γ)).bind _ = _
        rw [h0, h]
        show (b (enc a)).bind _ = _
        rw [h2]
        exact e2
  intro n a γ hn ia h0
  obtain ⟨a', h1, h2, m, h3⟩ := go n a γ hn ia h0
  exact ⟨a', h1, h2, by rw [sWhile_eq (n := m) (by rw [h3]; exact fun z => nomatch z)]; exact h3⟩
/-! ### a def's result -/
theorem runB_rt {n : Nat} {io : List Bool} {b : SS} {ds : List D} {h : Hd} {γ : List Sl} {os : List D} (e : b (mkG n io ds) = .ok (.rt h) γ) (ho : outs io γ = some os) : runB n io b ds = .ok h os := by
  unfold runB
  rw [e]
  simp only [finB, ho]
theorem runB_nx {n : Nat} {io : List Bool} {b : SS} {ds : List D} {γ : List Sl} {os : List D} (e : b (mkG n io ds) = .ok .nx γ) (ho : outs io γ = some os) : runB n io b ds = .ok (.pv .none) os := by
  unfold runB
  rw [e]
  simp only [finB, ho]
theorem outs_no : ∀ (k : Nat) (γ : List Sl), k ≤ γ.length → outs (List.replicate k false) γ = some []
  | 0, γ, _ => by cases γ <;> rfl
  | k + 1, [], h => by simp at h
  | k + 1, s :: γ, h => by
    rw [List.replicate_succ]
    show outs (List.replicate k false) γ = some []
    exact outs_no k γ (by simpa using h)
theorem seq_nx {a b : SS} {γ γ1 : List Sl} (h : a γ = .ok .nx γ1) : sSeq a b γ = b γ1 := by
  unfold sSeq
  rw [h]
  rfl
theorem seq_rt {a b : SS} {γ γ1 : List Sl} {x : Hd} (h : a γ = .ok (.rt x) γ1) : sSeq a b γ = .ok (.rt x) γ1 := by
  unfold sSeq
  rw [h]
  rfl
theorem for_at {fi : SI} {g : SG} {b : SS} {fg : List Nat} {γ γ1 : List Sl} {ds : List D} (h : fi γ = .ok ds γ1) : sFor fi g b fg γ = forL g b fg ds γ1 := by
  unfold sFor
  rw [h]
  rfl
theorem asgF_pv {i : Nat} {f : SE} {γ γ1 : List Sl} {d : D} (h : f γ = .ok (.pv d) γ1) (hn : notGh γ1 i = true) : sAsgF i f γ = .ok .nx (γ1.set i (.va d)) := by
  unfold sAsgF
  rw [h]
  simp only [R.bind, GL.putF, hn]
theorem asgF_nw {i : Nat} {f : SE} {γ γ1 : List Sl} {ds : List D} (h : f γ = .ok (.nw (.list ds)) γ1) (hn : notGh γ1 i = true) : sAsgF i f γ = .ok .nx (γ1.set i (.va (.list ds))) := by
  unfold sAsgF
  rw [h]
  simp only [R.bind, GL.putF, hn]
theorem asg_pv {i : Nat} {f : SE} {γ γ1 : List Sl} {d : D} (h : f γ = .ok (.pv d) γ1) (hn : notGh γ1 i = true) : sAsg i f γ = .ok .nx (γ1.set i (.va d)) := by
  unfold sAsg
  rw [h]
  simp only [R.bind, putA, hn]
theorem asg_nw {i : Nat} {f : SE} {γ γ1 : List Sl} {d : D} (h : f γ = .ok (.nw d) γ1) (hn : notGh γ1 i = true) : sAsg i f γ = .ok .nx (γ1.set i (.ce false d)) := by
  unfold sAsg
  rw [h]
  simp only [R.bind, putA, hn]
theorem expr_at {f : SE} {γ γ1 : List Sl} {h : Hd} (e : f γ = .ok h γ1) : sExpr f γ = .ok .nx γ1 := by
  unfold sExpr
  rw [e]
  rfl
theorem if_tt {c : SB} {a b : SS} {γ γ1 : List Sl} (h : c γ = .ok true γ1) : sIf c a b γ = a γ1 := by
  unfold sIf
  rw [h]
  rfl
theorem if_ff {c : SB} {a b : SS} {γ γ1 : List Sl} (h : c γ = .ok false γ1) : sIf c a b γ = b γ1 := by
  unfold sIf
  rw [h]
  rfl
theorem cV_at {f : SE} {γ γ1 : List Sl} {b : Bool} (h : f γ = .ok (.pv (.bool b)) γ1) : cV f γ = .ok b γ1 := by
  unfold cV
  rw [h]
  rfl
theorem cNot_at {c : SB} {γ γ1 : List Sl} {b : Bool} (h : c γ = .ok b γ1) : cNot c γ = .ok (!b) γ1 := by
  unfold cNot
  rw [h]
  rfl
theorem ret_pv {f : SE} {γ γ1 : List Sl} {d : D} (h : f γ = .ok (.pv d) γ1) : sRet f γ = .ok (.rt (.pv d)) γ1 := by
  unfold sRet
  rw [h]
  rfl
/-- a store into a slot's list -/
theorem sub_at {fe fo fi : SE} {γ γ1 γ2 γ3 : List Sl} {h : Hd} {d : D} {b : Bool} {cs : List D} {j m : Nat} {k : Int} (e1 : fe γ = .ok h γ1) (ed : pv1 h = some d) (e2 : fo γ1 = .ok (.cl j) γ2) (e3 : fi γ2 = .ok (.pv (.int k)) γ3) (ec : γ3[j]? = some (.ce b (.list cs))) (em : ixN cs.length k = some m) :
    sSub fe fo fi γ = .ok .nx (γ3.set j (.ce b (.list (cs.set m d)))) := by
  unfold sSub
  rw [e1]
  simp only [R.bind, e2, e3, putIx, ed, ec, em]
/-- a call with plain arguments -/
theorem call_pv {io : List Bool} {m : Fn} {fa : SA} {γ : List Sl} {hs : List Hd} {ds : List D} {d : D} (h : fa γ = .ok hs γ) (ha : callArgs io hs γ = some ds) (h1 : ioS io hs = []) (hm : m ds = .ok (.pv d) []) (hn : roS io hs = [] ∨ noL d = true) : vCall io m fa γ = .ok (.pv d) γ := by
  unfold vCall
  rw [h]
  simp only [R.bind, ha, hm]
  have : callOk (ioS io hs) (roS io hs) (noLH (.pv d) && ([] : List D).all noLO) = true := by
    unfold callOk
    rw [h1]
    rcases hn with q | q
    · rw [q]; simp
    · simp [noLH, q]
  rw [if_pos this, h1]
  rfl
/-- a call whose first argument is a cell that may be changed, the others plain -/
theorem call_io {io : List Bool} {m : Fn} {fa : SA} {γ γ1 : List Sl} {i : Nat} {b : Bool} {d0 d1 d : D} {hs : List Hd} {ds : List D} (h : fa γ = .ok (.cl i :: hs) γ1) (ha : callArgs (true :: io) (.cl i :: hs) γ1 = some ds) (h1 : ioS io hs = []) (h2 : roS io hs = []) (e : γ1[i]? = some (.ce b d0)) (hm : m ds = .ok (.pv d) [d1]) :
    vCall (true :: io) m fa γ = .ok (.pv d) (γ1.set i (.ce b d1)) := by
  unfold vCall
  rw [h]
  simp only [R.bind, ha, hm]
  have e1 : ioS (true :: io) (.cl i :: hs) = [i] := by simp [ioS, h1]
  have e2 : roS (true :: io) (.cl i :: hs) = [] := by simp [roS, h2]
  have : callOk (ioS (true :: io) (.cl i :: hs)) (roS (true :: io) (.cl i :: hs)) (noLH (.pv d) && ([d1] : List D).all noLO) = true := by
    unfold callOk
    rw [e1, e2]
    simp
  rw [if_pos this, e1]
  simp only [putOuts]
  rw [setC_at e]
theorem call_any {io : List Bool} {m : Fn} {fa : SA} {γ γ1 : List Sl} {hs : List Hd} {ds : List D} {h : Hd} {os : List D} (e : fa γ = .ok hs γ1) (ha : callArgs io hs γ1 = some ds) (hm : m ds = .ok h os) (hk : callOk (ioS io hs) (roS io hs) (noLH h && os.all noLO) = true) :
    vCall io m fa γ = .ok h (putOuts (ioS io hs) os γ1) := by
  unfold vCall
  rw [e]
  simp only [R.bind, ha, hm]
  rw [if_pos hk]
theorem acons_at {fa : SE} {fr : SA} {γ γ1 γ2 : List Sl} {h : Hd} {hs : List Hd} (e1 : fa γ = .ok h γ1) (e2 : fr γ1 = .ok hs γ2) : aCons fa fr γ = .ok (h :: hs) γ2 := by
  unfold aCons
  rw [e1]
  simp only [R.bind, e2]
theorem tup_at {fa : SA} {γ γ1 : List Sl} {hs : List Hd} {ds : List D} (e : fa γ = .ok hs γ1) (ep : pvs hs = some ds) (hl : ds.length ≤ 1000) : vTup fa γ = .ok (.pv (.tuple ds)) γ1 := by
  unfold vTup
  rw [e]
  simp only [R.bind, ep]
  rw [if_pos hl]
theorem lst_at' {fa : SA} {γ γ1 : List Sl} {hs : List Hd} {ds : List D} (e : fa γ = .ok hs γ1) (ep : pvs hs = some ds) (hl : ds.length ≤ 1000) : vLst fa γ = .ok (.nw (.list ds)) γ1 := by
  unfold vLst
  rw [e]
  simp only [R.bind, ep]
  rw [if_pos hl]
theorem bin_at {g : D → D → Option Hd} {fa fb : SE} {γ γ1 γ2 : List Sl} {h h2 r : Hd} {x y : D} (e1 : fa γ = .ok h γ1) (e2 : fb γ1 = .ok h2 γ2) (x1 : rs γ2 h = some x) (x2 : rs γ2 h2 = some y) (eg : g x y = some r) : vBin g fa fb γ = .ok r γ2 := by
  unfold vBin
  rw [e1]
  simp only [R.bind, e2, x1, x2, Option.bind_some, eg, fin1]
theorem fn_at {g : List D → Option Hd} {fa : SA} {γ γ1 : List Sl} {hs : List Hd} {ds : List D} {r : Hd} (e : fa γ = .ok hs γ1) (x : GL.rsAll γ1 hs = some ds) (eg : g ds = some r) : vFn g fa γ = .ok r γ1 := by
  unfold vFn
  rw [e]
  simp only [R.bind, x, Option.bind_some, eg, fin1]
theorem mt_at {g : List D → List D → Option (D × List D)} {fo : SE} {fa : SA} {γ γ1 γ2 : List Sl} {i : Nat} {hs : List Hd} {ds cs cs' : List D} {b : Bool} {r : D} (e1 : fo γ = .ok (.cl i) γ1) (hl : (γ1[i]?).any isL = true) (e2 : fa γ1 = .ok hs γ2) (ec : γ2[i]? = some (.ce b (.list cs))) (ep : pvs hs = some ds) (eg : g cs ds = some (r, cs')) :
    vMt g fo fa γ = .ok (.pv r) (γ2.set i (.ce b (.list cs'))) := by
  unfold vMt
  rw [e1]
  simp only [R.bind]
  rw [if_pos hl, e2]
  simp only [stepM, ec, ep, eg]
theorem mt_own {g : List D → List D → Option (D × List D)} {fo : SE} {fa : SA} {γ γ1 γ2 : List Sl} {i : Nat} {hs : List Hd} {ds cs cs' : List D} {its : List (D ⊕ Nat)} {b : Bool} {r : D} (e1 : fo γ = .ok (.cl i) γ1) (hl : (γ1[i]?).any isL = true) (e2 : fa γ1 = .ok hs γ2) (ec : γ2[i]? = some (.ow b (.lst its))) (ei : plainI its = some cs) (ep : pvs hs = some ds) (eg : g cs ds = some (r, cs')) :
    vMt g fo fa γ = .ok (.pv r) (γ2.set i (.ow b (.lst (cs'.map .inl)))) := by
  unfold vMt
  rw [e1]
  simp only [R.bind]
  rw [if_pos hl, e2]
  simp only [stepM, ec, ep, ei, Option.bind_some, eg]
theorem augS_at {fo fi fe : SE} {γ γ1 γ2 γ3 : List Sl} {j m : Nat} {k a c : Int} {b b' : Bool} {cs cs' : List D} (e1 : fo γ = .ok (.cl j) γ1) (e2 : fi γ1 = .ok (.pv (.int k)) γ2) (ec : γ2[j]? = some (.ce b (.list cs))) (ea : atD cs k = some (.int a)) (e3 : fe γ2 = .ok (.pv (.int c)) γ3) (ec2 : γ3[j]? = some (.ce b' (.list cs'))) (em : L2.ixN cs'.length k = some m) :
    sAugS fo fi fe γ = .ok .nx (γ3.set j (.ce b' (.list (cs'.set m (.int (a + c)))))) := by
  unfold sAugS
  rw [e1]
  simp only [R.bind, e2, getIx, ec, ea, e3, addIx, putIx, pv1, ec2, em]
theorem plainI_map : ∀ cs : List D, plainI (cs.map .inl) = some cs
  | [] => rfl
  | d :: cs => by
    show (plainI (cs.map .inl)).map (d :: ·) = _
    rw [plainI_map cs]
    rfl
theorem rep_one {x : D} (n : Nat) : (List.replicate n [x]).flatten = List.replicate n x := by
  induction n with
  | zero => rfl
  | succ n ih => rw [List.replicate_succ, List.flatten_cons, ih]; rfl
theorem getD_set {α : Type} {xs : List α} {t j : Nat} {v d : α} : (xs.set t v).getD j d = if j = t ∧ t < xs.length then v else xs.getD j d := by
  rw [List.getD_eq_getElem?_getD, List.getD_eq_getElem?_getD, List.getElem?_set]
  by_cases h : t = j
  · subst h
    by_cases h2 : t < xs.length
    · simp [h2]
    · simp [h2, List.getElem?_eq_none (Nat.le_of_not_lt h2)]
  · have : ¬ j = t := fun z => h z.symm
    simp [h, this]
/-! ### comprehensions -/
theorem lcL_at {ζ : Type} {g : SG} {c : SB} {f : SE} {vs : List Nat} (S : ζ → List Sl) (S0 : List Sl) (T : D → ζ) (p : D → Bool) (q : D → D) (h0 : ∀ z, forget vs (S z) = S0) (hn : ∀ z, noGhs vs (S z) = true) :
    ∀ (ds acc : List D) (z : ζ), (∀ d ∈ ds, g d S0 = some (S (T d)) ∧ c (S (T d)) = .ok (p d) (S (T d)) ∧ (p d = true → ∃ h, f (S (T d)) = .ok h (S (T d)) ∧ pv1 h = some (q d))) →
    ∃ z', lcL g c f vs ds acc (S z) = .ok (acc ++ (ds.filter p).map q) (S z')
  | [], acc, z, _ => ⟨z, by rw [List.filter_nil, List.map_nil, List.append_nil]; rfl⟩
  | d :: ds, acc, z, h => by
    obtain ⟨h1, h2, h3⟩ := h d List.mem_cons_self
    have e : lcL g c f vs (d :: ds) acc (S z) = match g d (forget vs (S z)) with
      | none => .no
      | some γ1 => (c γ1).bx fun t γ2 => match t with
        | false => chk vs γ2 (lcL g c f vs ds acc γ2)
        | true => (f γ2).bx fun h γ3 => match pv1 h with
          | some e => chk vs γ3 (lcL g c f vs ds (acc ++ [e]) γ3)
          | none => .no := rfl
    rw [e, h0, h1]
    simp only [h2, R.bx]
    cases hp : p d with
    | false =>
      obtain ⟨z', e2⟩ := lcL_at S S0 T p q h0 hn ds acc (T d) fun x m => h x (List.mem_cons_of_mem _ m)
      refine ⟨z', ?_⟩
      simp only [chk_ok (hn (T d)), e2, List.filter_cons, hp]
      rfl
    | true =>
      obtain ⟨hd, e3, e4⟩ := h3 hp
      obtain ⟨z', e2⟩ := lcL_at S S0 T p q h0 hn ds (acc ++ [q d]) (T d) fun x m => h x (List.mem_cons_of_mem _ m)
      refine ⟨z', ?_⟩
      simp only [e3, e4, chk_ok (hn (T d)), e2, List.filter_cons, hp]
      simp
theorem vLc_at {ζ : Type} {fi : SI} {g : SG} {c : SB} {f : SE} {vs : List Nat} {ds : List D} (S : ζ → List Sl) (z0 : ζ) (S0 : List Sl) (T : D → ζ) (p : D → Bool) (q : D → D) (hi : fi (S z0) = .ok ds (S z0)) (h0 : ∀ z, forget vs (S z) = S0) (hn : ∀ z, noGhs vs (S z) = true) (hce : noCe vs (S z0) = true) (hr : ∀ z, restore vs (S z0) (S z) = S z0)
    (h : ∀ d ∈ ds, g d S0 = some (S (T d)) ∧ c (S (T d)) = .ok (p d) (S (T d)) ∧ (p d = true → ∃ h, f (S (T d)) = .ok h (S (T d)) ∧ pv1 h = some (q d))) : vLc fi g c f vs (S z0) = .ok (.nw (.list ((ds.filter p).map q))) (S z0) := by
  obtain ⟨z', e⟩ := lcL_at S S0 T p q h0 hn ds [] z0 h
  unfold vLc
  rw [hi]
  simp only [R.bind, hce, e, hr, List.nil_append]
theorem lcN_at {ζ : Type} {g : SG} {f : SE} {vs : List Nat} (S : ζ → List Sl) (S0 : List Sl) (T : D → ζ) (q : D → List D) (h0 : ∀ z, forget vs (S z) = S0) (hn : ∀ z, noGhs vs (S z) = true) :
    ∀ (ds : List D) (acc : List (List D)) (z : ζ), (∀ d ∈ ds, g d S0 = some (S (T d)) ∧ f (S (T d)) = .ok (.nw (.list (q d))) (S (T d))) →
    ∃ z', lcN g cYes f vs ds acc (S z) = .ok (acc ++ ds.map q) (S z')
  | [], acc, z, _ => ⟨z, by rw [List.map_nil, List.append_nil]; rfl⟩
  | d :: ds, acc, z, h => by
    obtain ⟨h1, h2⟩ := h d List.mem_cons_self
    obtain ⟨z', e2⟩ := lcN_at S S0 T q h0 hn ds (acc ++ [q d]) (T d) fun x m => h x (List.mem_cons_of_mem _ m)
    have e : lcN g cYes f vs (d :: ds) acc (S z) = match g d (forget vs (S z)) with
      | none => .no
      | some γ1 => (cYes γ1).bx fun t γ2 => match t with
        | false => chk vs γ2 (lcN g cYes f vs ds acc γ2)
        | true => (f γ2).bx fun h γ3 => match nwL h with
          | some e => chk vs γ3 (lcN g cYes f vs ds (acc ++ [e]) γ3)
          | none => .no := rfl
    refine ⟨z', ?_⟩
    rw [e, h0, h1]
    simp only [cYes, R.bx, h2, nwL, chk_ok (hn (T d)), e2]
    simp
theorem asgN_at {ζ : Type} {i : Nat} {gs : List Nat} {fi : SI} {g : SG} {f : SE} {vs : List Nat} {ds : List D} (S : ζ → List Sl) (z0 : ζ) (S0 : List Sl) (T : D → ζ) (q : D → List D) (hi : fi (S z0) = .ok ds (S z0)) (h0 : ∀ z, forget vs (S z) = S0) (hn : ∀ z, noGhs vs (S z) = true) (hce : noCe vs (S z0) = true) (hr : ∀ z, restore vs (S z0) (S z) = S z0)
    (h : ∀ d ∈ ds, g d S0 = some (S (T d)) ∧ f (S (T d)) = .ok (.nw (.list (q d))) (S (T d))) : sAsgN i gs fi g cYes f vs (S z0) = putN i gs (ds.map q) (S z0) := by
  obtain ⟨z', e⟩ := lcN_at S S0 T q h0 hn ds [] z0 h
  unfold sAsgN
  rw [hi]
  simp only [R.bind, hce, e, hr, List.nil_append]
/-! ### more steps -/
theorem mr_at {ty : String} {g : D → List D → Option Hd} {fo : SE} {fa : SA} {γ γ1 γ2 : List Sl} {h r : Hd} {hs : List Hd} {d d2 : D} {ds : List D} (e1 : fo γ = .ok h γ1) (x1 : rs γ1 h = some d) (k : kindD d = ty) (e2 : fa γ1 = .ok hs γ2) (x2 : rs γ2 h = some d2) (x3 : GL.rsAll γ2 hs = some ds) (eg : g d2 ds = some r) : vMr ty g fo fa γ = .ok r γ2 := by
  unfold vMr
  rw [e1]
  simp only [R.bind, x1]
  rw [if_pos k, e2]
  simp only [x2, x3, Option.bind_some, eg, fin1]
theorem sl_at {f : SE} {fl fh : SO} {γ γ1 γ2 γ3 : List Sl} {h r : Hd} {lo hi : Option Int} {d : D} (e1 : f γ = .ok h γ1) (e2 : fl γ1 = .ok lo γ2) (e3 : fh γ2 = .ok hi γ3) (x : rs γ3 h = some d) (eg : dSl d lo hi = some r) : vSl f fl fh γ = .ok r γ3 := by
  unfold vSl
  rw [e1]
  simp only [R.bind, e2, e3, x, Option.bind_some, eg, fin1]
theorem oSome_at {f : SE} {γ γ1 : List Sl} {i : Int} (e : f γ = .ok (.pv (.int i)) γ1) : oSome f γ = .ok (some i) γ1 := by
  unfold oSome
  rw [e]
  rfl
theorem cAnd_tt {c d : SB} {γ γ1 : List Sl} (h : c γ = .ok true γ1) : cAnd c d γ = d γ1 := by
  unfold cAnd
  rw [h]
  rfl
theorem cAnd_ff {c d : SB} {γ γ1 : List Sl} (h : c γ = .ok false γ1) : cAnd c d γ = .ok false γ1 := by
  unfold cAnd
  rw [h]
  rfl
theorem cAnd_at {c d : SB} {γ : List Sl} {a b : Bool} (h : c γ = .ok a γ) (k : a = true → d γ = .ok b γ) : cAnd c d γ = .ok (a && b) γ := by
  cases a with
  | true => rw [cAnd_tt h, k rfl]; rfl
  | false => rw [cAnd_ff h]; rfl
theorem ixO_at {fa fb : SE} {γ γ1 γ2 : List Sl} {i j : Nat} {k : Int} {b : Bool} {its : List (D ⊕ Nat)} (e1 : fa γ = .ok (.cl i) γ1) (e2 : fb γ1 = .ok (.pv (.int k)) γ2) (ec : γ2[i]? = some (.ow b (.lst its))) (ea : L2.atI its k = some (.inr j)) : vIxO fa fb γ = .ok (.cl j) γ2 := by
  unfold vIxO
  rw [e1]
  simp only [R.bind, e2, ixO, ec, ea]
theorem sIx_none {n k : Nat} : HT.sIx n k none = k := rfl
theorem cut_take {xs : List D} {k : Nat} (h : k ≤ xs.length) : cutD xs none (some ((k : Nat) : Int)) = xs.take k := by
  have e : HT.sIx xs.length xs.length (some ((k : Nat) : Int)) = k := by
    rw [HT.sIx_nat]
    exact Nat.min_eq_left h
  unfold cutD
  rw [e, sIx_none, List.drop_zero, Nat.sub_zero]
theorem mem_take_idx : ∀ (xs : List Int) (a : Int) (k : Nat), a ∈ xs.take k ↔ a ∈ xs ∧ xs.idxOf a < k
  | [], a, k => by simp
  | x :: xs, a, 0 => by simp
  | x :: xs, a, k + 1 => by
    rw [List.take_succ_cons, List.mem_cons, List.mem_cons, mem_take_idx xs a k, List.idxOf_cons]
    by_cases h : x = a
    · subst h
      simp
    · have h2 : ¬ a = x := fun z => h z.symm
      rw [beq_false_of_ne h]
      simp only [h2, false_or, cond_false]
      constructor
      · rintro ⟨a1, a2⟩; exact ⟨a1, by omega⟩
      · rintro ⟨a1, a2⟩; exact ⟨a1, by omega⟩
theorem dNe_str {a b : Str} {r : Bool} (ha : PyData.strOk a = true) (hb : PyData.strOk b = true) (h : (a == b) = r) : dNe (.str a) (.str b) = some (.pv (.bool (!r))) := by
  unfold dNe
  rw [okD_str ha, okD_str hb, eqv_str, h]
  rfl
theorem dEq_str {a b : Str} {r : Bool} (ha : PyData.strOk a = true) (hb : PyData.strOk b = true) (h : (a == b) = r) : dEq (.str a) (.str b) = some (.pv (.bool r)) := by
  unfold dEq
  rw [okD_str ha, okD_str hb, eqv_str, h]
  rfl
end GL

set_option Elab.async false
set_option linter.all false
set_option autoImplicit false
set_option maxRecDepth 100000
set_option maxHeartbeats 0
namespace WK
open PySem PySem.Spec PyProof.Rows L2 GL
def top (i : Nat) : Stmt := PySem.Challenge.pw_thronewalk_k72_thrones_ask.main.body.getD i (.Pass ⟨0, 0, 0, 0⟩)
def df (x : Str) (i : Nat) : He.DefD := ⟨(x, none), x, x, defArgs (top i), defBody (top i), defScope (top i), [], []⟩
def fn : List He.DefD := [df "wished_by" 1, df "throne_of" 2, df "would_take" 3, df "next_throne" 5, df "answer_of" 6, df "by_thrones" 7, df "_law_take" 9, df "_law_is_plain" 10, df "_law_drawn_order" 11, df "_law_thrones" 12, df "_law_wished" 13, df "_law_asked_by_thrones" 14, df "_law_right" 15, df "law" 16]
def fa : List He.Fa := [.glo "wished_by", .glo "throne_of", .glo "would_take", .glo "next_throne", .glo "answer_of", .glo "by_thrones", .glo "_law_take", .glo "_law_is_plain", .glo "_law_drawn_order", .glo "_law_thrones", .glo "_law_wished", .glo "_law_asked_by_thrones", .glo "_law_right", .glo "law", .free "all", .free "bool", .free "enumerate", .free "int", .free "isinstance", .free "len", .free "list", .free "min", .free "range", .free "sorted", .free "str", .free "tuple"]
section
variable {P : Program} {w : World} {K : PySem.W.Frag} {h : Heap} {mg : Str → Option Value} {base : Heap}
theorem mfree (i : Nat) (x : Str) (KX : K.In h) (G : h.Ns mainGlobals mg) (c : He.SaysD fa fn K) (e : fa[i]? = some (.free x) := by rfl) : mg x = none := He.free_ok KX G (c.fact i (f := .free x) e)
theorem mglo (i : Nat) (x : Str) (KX : K.In h) (G : h.Ns mainGlobals mg) (c : He.SaysD fa fn K) (e : fa[i]? = some (.glo x) := by rfl) : mg x = some (.ref (He.ga K x)) := He.glo_ok KX G (c.fact i (f := .glo x) e)

/-! ### wished_by -/
def N_wished_by : List Str := ["wishes", "who", "one", "thrones"]
theorem sc_wished_by : FnScope N_wished_by ["wishes", "who"] (defScope (top 1)) := ⟨rfl, rfl, rfl, by decide +kernel, rfl, by decide +kernel, by decide +kernel⟩
theorem nd_wished_by : N_wished_by.Nodup := sc_wished_by.nd
noncomputable def s_wished_by : SS := (sSeq (sFor (iSeq (vVar 0)) (GL.gTup 2 (gsCons (GL.gName 2) (gsCons (GL.gName 3) gsNil))) (sIf (cV (vBin dEq (vVar 2) (vVar 1))) (sRet (vVar 3)) sNx) [2, 3])
    (sRet (vTup aNil)))
noncomputable def m_wished_by : Fn := runB 4 [false, false] s_wished_by
theorem b_wished_by (KX : K.In h) (G : h.Ns mainGlobals mg) (c : He.SaysD fa fn K) (cdv : Value) (A : Around) (outer : List Env) (s : Shared) (H : Hp) (E : XK) (hr : Room 0 (A.deeper (envOfC "wished_by" (defScope (top 1)) s.heap.objs.size (He.ga K "wished_by") cdv))) :
    GSs (cxOf (L2.CX P w) P w K mg base N_wished_by "wished_by" (defScope (top 1)) (He.ga K "wished_by") cdv A outer s H E) (defBody (top 1)) s_wished_by :=
  (gss_cons (gs_for [2, 3] (passes_of rfl) rfl (gi_seq (ge_var (pv 0))) (gg_tup rfl (ggs_cons (gg_name (pg_name nd_wished_by (i := 2) rfl (by first | exact .inl rfl | exact .inr rfl))) (ggs_cons (gg_name (pg_name nd_wished_by (i := 3) rfl (by first | exact .inl rfl | exact .inr rfl))) ggs_nil))) (gss_one (gs_if (gb_cmp (op_eqD (hu64 hr)) does_eq (ge_var (pv 2)) (ge_var (pv 1)) (nomark _)) (gss_one (gs_ret (ge_var (pv 3)))) gss_nil)))
    (gss_one (gs_ret (ge_tup ga_nil))))
theorem ok_wished_by (KX : K.In h) (G : h.Ns mainGlobals mg) (c : He.SaysD fa fn K) : FnIs P w K mg base 1 "wished_by" ["wishes", "who"] [false, false] m_wished_by := by
  obtain ⟨fd, F⟩ := c.def_ 0 (d := df "wished_by" 1) rfl
  exact fnIs F (fun F => fn_ok F sc_wished_by rfl (b_wished_by KX G c)) (F.bindsN fun _ _ _ _ _ _ us hl => match us, hl with | [_, _], _ => rfl) (mglo 0 "wished_by" KX G c)
/-! ### throne_of -/
def N_throne_of : List Str := ["sharing", "who", "throne", "one"]
theorem sc_throne_of : FnScope N_throne_of ["sharing", "who"] (defScope (top 2)) := ⟨rfl, rfl, rfl, by decide +kernel, rfl, by decide +kernel, by decide +kernel⟩
theorem nd_throne_of : N_throne_of.Nodup := sc_throne_of.nd
noncomputable def s_throne_of : SS := (sSeq (sFor (iEnum (aCons (vVar 0) aNil)) (GL.gTup 2 (gsCons (GL.gName 2) (gsCons (GL.gName 3) gsNil))) (sIf (cV (vBin dEq (vVar 3) (vVar 1))) (sRet (vVar 2)) sNx) [2, 3])
    (sRet (vUn dNeg (vC (.int 1)))))
noncomputable def m_throne_of : Fn := runB 4 [false, false] s_throne_of
theorem b_throne_of (KX : K.In h) (G : h.Ns mainGlobals mg) (c : He.SaysD fa fn K) (cdv : Value) (A : Around) (outer : List Env) (s : Shared) (H : Hp) (E : XK) (hr : Room 0 (A.deeper (envOfC "throne_of" (defScope (top 2)) s.heap.objs.size (He.ga K "throne_of") cdv))) :
    GSs (cxOf (L2.CX P w) P w K mg base N_throne_of "throne_of" (defScope (top 2)) (He.ga K "throne_of") cdv A outer s H E) (defBody (top 2)) s_throne_of :=
  (gss_cons (gs_for [2, 3] (passes_of rfl) rfl (gi_enum rfl (mfree 16 "enumerate" KX G c) (ga_cons (ge_var (pv 0)) ga_nil)) (gg_tup rfl (ggs_cons (gg_name (pg_name nd_throne_of (i := 2) rfl (by first | exact .inl rfl | exact .inr rfl))) (ggs_cons (gg_name (pg_name nd_throne_of (i := 3) rfl (by first | exact .inl rfl | exact .inr rfl))) ggs_nil))) (gss_one (gs_if (gb_cmp (op_eqD (hu64 hr)) does_eq (ge_var (pv 3)) (ge_var (pv 1)) (nomark _)) (gss_one (gs_ret (ge_var (pv 2)))) gss_nil)))
    (gss_one (gs_ret (ge_un un_neg does_neg ge_int))))
theorem ok_throne_of (KX : K.In h) (G : h.Ns mainGlobals mg) (c : He.SaysD fa fn K) : FnIs P w K mg base 1 "throne_of" ["sharing", "who"] [false, false] m_throne_of := by
  obtain ⟨fd, F⟩ := c.def_ 1 (d := df "throne_of" 2) rfl
  exact fnIs F (fun F => fn_ok F sc_throne_of rfl (b_throne_of KX G c)) (F.bindsN fun _ _ _ _ _ _ us hl => match us, hl with | [_, _], _ => rfl) (mglo 1 "throne_of" KX G c)
/-! ### would_take -/
def N_would_take : List Str := ["wishes", "who", "throne", "held", "wished"]
theorem sc_would_take : FnScope N_would_take ["wishes", "who", "throne", "held"] (defScope (top 3)) := ⟨rfl, rfl, rfl, by decide +kernel, rfl, by decide +kernel, by decide +kernel⟩
theorem nd_would_take : N_would_take.Nodup := sc_would_take.nd
noncomputable def s_would_take : SS := (sSeq (sAsgF 4 (vCall [false, false] m_wished_by (aCons (vVar 0) (aCons (vVar 1) aNil))))
    (sRet (vAnd (vBin dIn (vVar 2) (vVar 4)) (vOr (vBin dEq (vVar 3) (vUn dNeg (vC (.int 1)))) (vBin dLt (vMr "tuple" nIndexT (vVar 4) (aCons (vVar 2) aNil)) (vMr "tuple" nIndexT (vVar 4) (aCons (vVar 3) aNil)))))))
noncomputable def m_would_take : Fn := runB 5 [false, false, false, false] s_would_take
theorem b_would_take (KX : K.In h) (G : h.Ns mainGlobals mg) (c : He.SaysD fa fn K) (cdv : Value) (A : Around) (outer : List Env) (s : Shared) (H : Hp) (E : XK) (hr : Room 1 (A.deeper (envOfC "would_take" (defScope (top 3)) s.heap.objs.size (He.ga K "would_take") cdv))) :
    GSs (cxOf (L2.CX P w) P w K mg base N_would_take "would_take" (defScope (top 3)) (He.ga K "would_take") cdv A outer s H E) (defBody (top 3)) s_would_take :=
  (gss_cons (gs_setF nd_would_take (i := 4) rfl (by first | exact .inl rfl | exact .inr rfl) (ge_call (ok_wished_by KX G c) (hr.mono (by decide)) rfl (ga_cons (ge_var (pv 0)) (ga_cons (ge_var (pv 1)) ga_nil))))
    (gss_one (gs_ret (ge_and (ge_cmp (op_inU (hu65 hr)) does_in (ge_var (pv 2)) (ge_var (pv 4)) (by rfl)) (ge_one (ge_or (ge_cmp (op_eqD (hu64 hr)) does_eq (ge_var (pv 3)) (ge_un un_neg does_neg ge_int) (nomark _)) (ge_one (ge_cmp op_lt does_cmp (ge_mr (by decide) PySem.F.plainAttrs_tuple PySem.F.slot_tuple_index rfl (mt_indexT (hu65 hr)) does_indexT (ge_var (pv 4)) (ga_cons (ge_var (pv 2)) ga_nil)) (ge_mr (by decide) PySem.F.plainAttrs_tuple PySem.F.slot_tuple_index rfl (mt_indexT (hu65 hr)) does_indexT (ge_var (pv 4)) (ga_cons (ge_var (pv 3)) ga_nil)) (nomark _)))))))))
theorem ok_would_take (KX : K.In h) (G : h.Ns mainGlobals mg) (c : He.SaysD fa fn K) : FnIs P w K mg base 2 "would_take" ["wishes", "who", "throne", "held"] [false, false, false, false] m_would_take := by
  obtain ⟨fd, F⟩ := c.def_ 2 (d := df "would_take" 3) rfl
  exact fnIs F (fun F => fn_ok F sc_would_take rfl (b_would_take KX G c)) (F.bindsN fun _ _ _ _ _ _ us hl => match us, hl with | [_, _, _, _], _ => rfl) (mglo 2 "would_take" KX G c)
/-! ### next_throne -/
def N_next_throne : List Str := ["orders", "turn", "sharing", "asked", "throne"]
theorem sc_next_throne : FnScope N_next_throne ["orders", "turn", "sharing", "asked"] (defScope (top 5)) := ⟨rfl, rfl, rfl, by decide +kernel, rfl, by decide +kernel, by decide +kernel⟩
theorem nd_next_throne : N_next_throne.Nodup := sc_next_throne.nd
noncomputable def s_next_throne : SS := (sSeq (sFor (iSeq (vVar 1)) (GL.gName 4) (sIf (cAnd (cV (vBin dEq (vBin dIx (vVar 2) (vVar 4)) (vUn dNeg (vC (.int 1))))) (cV (vBin dLt (vBin dIx (vVar 3) (vVar 4)) (vFn nLen (aCons (vBin dIx (vVar 0) (vVar 4)) aNil))))) (sRet (vVar 4)) sNx) [4])
    (sRet (vUn dNeg (vC (.int 1)))))
noncomputable def m_next_throne : Fn := runB 5 [false, false, false, false] s_next_throne
theorem b_next_throne (KX : K.In h) (G : h.Ns mainGlobals mg) (c : He.SaysD fa fn K) (cdv : Value) (A : Around) (outer : List Env) (s : Shared) (H : Hp) (E : XK) (hr : Room 0 (A.deeper (envOfC "next_throne" (defScope (top 5)) s.heap.objs.size (He.ga K "next_throne") cdv))) :
    GSs (cxOf (L2.CX P w) P w K mg base N_next_throne "next_throne" (defScope (top 5)) (He.ga K "next_throne") cdv A outer s H E) (defBody (top 5)) s_next_throne :=
  (gss_cons (gs_for [4] (passes_of rfl) rfl (gi_seq (ge_var (pv 1))) (gg_name (pg_name nd_next_throne (i := 4) rfl (by first | exact .inl rfl | exact .inr rfl))) (gss_one (gs_if (GW.gb (gw_and (gb_cmp (op_eqD (hu64 hr)) does_eq (ge_ixR ix_seq does_ix (ge_var (pv 2)) (ge_var (pv 4)) (by intro _ _; rfl)) (ge_un un_neg does_neg ge_int) (nomark _)) (gw_and1 (gb_cmp op_lt does_cmp (ge_ixR ix_seq does_ix (ge_var (pv 3)) (ge_var (pv 4)) (by intro _ _; rfl)) (ge_blt GL.cr_len does_len rfl (mfree 19 "len" KX G c) boot_len (ga_cons (ge_ixR ix_seq does_ix (ge_var (pv 0)) (ge_var (pv 4)) (by intro _ _; rfl)) ga_nil)) (nomark _))))) (gss_one (gs_ret (ge_var (pv 4)))) gss_nil)))
    (gss_one (gs_ret (ge_un un_neg does_neg ge_int))))
theorem ok_next_throne (KX : K.In h) (G : h.Ns mainGlobals mg) (c : He.SaysD fa fn K) : FnIs P w K mg base 1 "next_throne" ["orders", "turn", "sharing", "asked"] [false, false, false, false] m_next_throne := by
  obtain ⟨fd, F⟩ := c.def_ 3 (d := df "next_throne" 5) rfl
  exact fnIs F (fun F => fn_ok F sc_next_throne rfl (b_next_throne KX G c)) (F.bindsN fun _ _ _ _ _ _ us hl => match us, hl with | [_, _, _, _], _ => rfl) (mglo 3 "next_throne" KX G c)
/-! ### answer_of -/
def N_answer_of : List Str := ["wishes", "sharing", "throne", "who", "held"]
theorem sc_answer_of : FnScope N_answer_of ["wishes", "sharing", "throne", "who"] (defScope (top 6)) := ⟨rfl, rfl, rfl, by decide +kernel, rfl, by decide +kernel, by decide +kernel⟩
theorem nd_answer_of : N_answer_of.Nodup := sc_answer_of.nd
noncomputable def s_answer_of : SS := (sSeq (sAsgF 4 (vCall [false, false] m_throne_of (aCons (vVar 1) (aCons (vVar 3) aNil))))
    (sSeq (sIf (cNot (cV (vCall [false, false, false, false] m_would_take (aCons (vVar 0) (aCons (vVar 3) (aCons (vVar 2) (aCons (vVar 4) aNil))))))) (sRet (vC (.str "no"))) sNx)
    (sSeq (sSub (vVar 3) (vVar 1) (vVar 2))
    (sSeq (sIf (cV (vBin dEq (vVar 4) (vUn dNeg (vC (.int 1))))) (sRet (vC (.str "takes"))) sNx)
    (sSeq (sSub (vUn dNeg (vC (.int 1))) (vVar 1) (vVar 4))
    (sRet (vC (.str "turns"))))))))
noncomputable def m_answer_of : Fn := runB 5 [false, true, false, false] s_answer_of
theorem b_answer_of (KX : K.In h) (G : h.Ns mainGlobals mg) (c : He.SaysD fa fn K) (cdv : Value) (A : Around) (outer : List Env) (s : Shared) (H : Hp) (E : XK) (hr : Room 2 (A.deeper (envOfC "answer_of" (defScope (top 6)) s.heap.objs.size (He.ga K "answer_of") cdv))) :
    GSs (cxOf (L2.CX P w) P w K mg base N_answer_of "answer_of" (defScope (top 6)) (He.ga K "answer_of") cdv A outer s H E) (defBody (top 6)) s_answer_of :=
  (gss_cons (gs_setF nd_answer_of (i := 4) rfl (by first | exact .inl rfl | exact .inr rfl) (ge_call (ok_throne_of KX G c) (hr.mono (by decide)) rfl (ga_cons (ge_var (pv 1)) (ga_cons (ge_var (pv 3)) ga_nil))))
    (gss_cons (gs_if (gb_not (gb_val (ge_call (ok_would_take KX G c) (hr.mono (by decide)) rfl (ga_cons (ge_var (pv 0)) (ga_cons (ge_var (pv 3)) (ga_cons (ge_var (pv 2)) (ga_cons (ge_var (pv 4)) ga_nil))))))) (gss_one (gs_ret ge_str)) gss_nil)
    (gss_cons (gs_sub (ge_var (pv 1)) (ge_var (pv 2)) (ge_var (pv 3)))
    (gss_cons (gs_if (gb_cmp (op_eqD (hu64 hr)) does_eq (ge_var (pv 4)) (ge_un un_neg does_neg ge_int) (nomark _)) (gss_one (gs_ret ge_str)) gss_nil)
    (gss_cons (gs_sub (ge_var (pv 1)) (ge_var (pv 4)) (ge_un un_neg does_neg ge_int))
    (gss_one (gs_ret ge_str)))))))
theorem ok_answer_of (KX : K.In h) (G : h.Ns mainGlobals mg) (c : He.SaysD fa fn K) : FnIs P w K mg base 3 "answer_of" ["wishes", "sharing", "throne", "who"] [false, true, false, false] m_answer_of := by
  obtain ⟨fd, F⟩ := c.def_ 4 (d := df "answer_of" 6) rfl
  exact fnIs F (fun F => fn_ok F sc_answer_of rfl (b_answer_of KX G c)) (F.bindsN fun _ _ _ _ _ _ us hl => match us, hl with | [_, _, _, _], _ => rfl) (mglo 4 "answer_of" KX G c)
/-! ### by_thrones -/
def N_by_thrones : List Str := ["orders", "wishes", "turn", "sharing", "asked", "asks", "throne", "who"]
theorem sc_by_thrones : FnScope N_by_thrones ["orders", "wishes", "turn"] (defScope (top 7)) := ⟨rfl, rfl, rfl, by decide +kernel, rfl, by decide +kernel, by decide +kernel⟩
theorem nd_by_thrones : N_by_thrones.Nodup := sc_by_thrones.nd
noncomputable def s_by_thrones : SS := (sSeq (sAsg 3 (vBin dMul (vLst (aCons (vUn dNeg (vC (.int 1))) aNil)) (vFn nLen (aCons (vVar 0) aNil))))
    (sSeq (sAsg 4 (vBin dMul (vLst (aCons (vC (.int 0)) aNil)) (vFn nLen (aCons (vVar 0) aNil))))
    (sSeq (sAsg 5 (vLst aNil))
    (sSeq (sAsgF 6 (vCall [false, false, false, false] m_next_throne (aCons (vVar 0) (aCons (vVar 2) (aCons (vVar 3) (aCons (vVar 4) aNil))))))
    (sSeq (sWhile (cV (vBin dNe (vVar 6) (vUn dNeg (vC (.int 1))))) (sSeq (sAsgF 7 (vBin dIx (vBin dIx (vVar 0) (vVar 6)) (vBin dIx (vVar 4) (vVar 6))))
    (sSeq (sAugS (vVar 4) (vVar 6) (vC (.int 1)))
    (sSeq (sExpr (vMt mAppend (vVar 5) (aCons (vTup (aCons (vVar 6) (aCons (vVar 7) (aCons (vCall [false, true, false, false] m_answer_of (aCons (vVar 1) (aCons (vVar 3) (aCons (vVar 6) (aCons (vVar 7) aNil))))) aNil)))) aNil)))
    (sAsgF 6 (vCall [false, false, false, false] m_next_throne (aCons (vVar 0) (aCons (vVar 2) (aCons (vVar 3) (aCons (vVar 4) aNil))))))))) [7])
    (sRet (vTup (aCons (vFn nTup (aCons (vVar 3) aNil)) (aCons (vFn nTup (aCons (vVar 5) aNil)) aNil)))))))))
noncomputable def m_by_thrones : Fn := runB 8 [false, false, false] s_by_thrones
theorem b_by_thrones (KX : K.In h) (G : h.Ns mainGlobals mg) (c : He.SaysD fa fn K) (cdv : Value) (A : Around) (outer : List Env) (s : Shared) (H : Hp) (E : XK) (hr : Room 3 (A.deeper (envOfC "by_thrones" (defScope (top 7)) s.heap.objs.size (He.ga K "by_thrones") cdv))) :
    GSs (cxOf (L2.CX P w) P w K mg base N_by_thrones "by_thrones" (defScope (top 7)) (He.ga K "by_thrones") cdv A outer s H E) (defBody (top 7)) s_by_thrones :=
  (gss_cons (gs_set nd_by_thrones (i := 3) rfl (by first | exact .inl rfl | exact .inr rfl) (ge_bin op_mulU does_mul (ge_lst (ga_cons (ge_un un_neg does_neg ge_int) ga_nil)) (ge_blt GL.cr_len does_len rfl (mfree 19 "len" KX G c) boot_len (ga_cons (ge_var (pv 0)) ga_nil))))
    (gss_cons (gs_set nd_by_thrones (i := 4) rfl (by first | exact .inl rfl | exact .inr rfl) (ge_bin op_mulU does_mul (ge_lst (ga_cons ge_int ga_nil)) (ge_blt GL.cr_len does_len rfl (mfree 19 "len" KX G c) boot_len (ga_cons (ge_var (pv 0)) ga_nil))))
    (gss_cons (gs_set nd_by_thrones (i := 5) rfl (by first | exact .inl rfl | exact .inr rfl) (ge_lst ga_nil))
    (gss_cons (gs_setF nd_by_thrones (i := 6) rfl (by first | exact .inl rfl | exact .inr rfl) (ge_call (ok_next_throne KX G c) (hr.mono (by decide)) rfl (ga_cons (ge_var (pv 0)) (ga_cons (ge_var (pv 2)) (ga_cons (ge_var (pv 3)) (ga_cons (ge_var (pv 4)) ga_nil))))))
    (gss_cons (gs_while [7] (passes_of rfl) (gb_cmp (op_neD (hu64 hr)) does_ne (ge_var (pv 6)) (ge_un un_neg does_neg ge_int) (nomark _)) (gss_cons (gs_setF nd_by_thrones (i := 7) rfl (by first | exact .inl rfl | exact .inr rfl) (ge_ixR ix_seq does_ix (ge_ixR ix_seq does_ix (ge_var (pv 0)) (ge_var (pv 6)) (by intro _ _; rfl)) (ge_ixR ix_seq does_ix (ge_var (pv 4)) (ge_var (pv 6)) (by intro _ _; rfl)) (by intro _ _; rfl)))
    (gss_cons (gs_augS (ge_var (pv 4)) (ge_var (pv 6)) ge_int)
    (gss_cons (gs_expr (ge_mt PySem.F.slot_list_append rfl mt_append does_append (ge_var (pv 5)) (ga_cons (ge_tup (ga_cons (ge_var (pv 6)) (ga_cons (ge_var (pv 7)) (ga_cons (ge_call (ok_answer_of KX G c) (hr.mono (by decide)) rfl (ga_cons (ge_var (pv 1)) (ga_cons (ge_var (pv 3)) (ga_cons (ge_var (pv 6)) (ga_cons (ge_var (pv 7)) ga_nil))))) ga_nil)))) ga_nil)))
    (gss_one (gs_setF nd_by_thrones (i := 6) rfl (by first | exact .inl rfl | exact .inr rfl) (ge_call (ok_next_throne KX G c) (hr.mono (by decide)) rfl (ga_cons (ge_var (pv 0)) (ga_cons (ge_var (pv 2)) (ga_cons (ge_var (pv 3)) (ga_cons (ge_var (pv 4)) ga_nil)))))))))))
    (gss_one (gs_ret (ge_tup (ga_cons (ge_ty GL.cr_tup does_tup rfl (mfree 25 "tuple" KX G c) boot_tuple (ga_cons (ge_var (pv 3)) ga_nil)) (ga_cons (ge_ty GL.cr_tup does_tup rfl (mfree 25 "tuple" KX G c) boot_tuple (ga_cons (ge_var (pv 5)) ga_nil)) ga_nil))))))))))
theorem ok_by_thrones (KX : K.In h) (G : h.Ns mainGlobals mg) (c : He.SaysD fa fn K) : FnIs P w K mg base 4 "by_thrones" ["orders", "wishes", "turn"] [false, false, false] m_by_thrones := by
  obtain ⟨fd, F⟩ := c.def_ 5 (d := df "by_thrones" 7) rfl
  exact fnIs F (fun F => fn_ok F sc_by_thrones rfl (b_by_thrones KX G c)) (F.bindsN fun _ _ _ _ _ _ us hl => match us, hl with | [_, _, _], _ => rfl) (mglo 5 "by_thrones" KX G c)
/-! ### _law_take -/
def N__law_take : List Str := ["_law_state", "_law_below", "_law_found", "_law_cell"]
theorem sc__law_take : FnScope N__law_take ["_law_state", "_law_below"] (defScope (top 9)) := ⟨rfl, rfl, rfl, by decide +kernel, rfl, by decide +kernel, by decide +kernel⟩
theorem nd__law_take : N__law_take.Nodup := sc__law_take.nd
noncomputable def s__law_take : SS := (sSeq (sIf (cV (vBin dGt (vBin dIx (vVar 0) (vC (.int 2))) (vC (.int 0)))) (sSeq (sAsgF 2 (vBin dMod (vBin dIx (vVar 0) (vC (.int 2))) (vVar 1)))
    (sSeq (sSub (vBin dFdiv (vBin dIx (vVar 0) (vC (.int 2))) (vVar 1)) (vVar 0) (vC (.int 2)))
    (sRet (vVar 2)))) sNx)
    (sSeq (sAsgF 3 (vC (.int 0)))
    (sSeq (sIf (cV (vBin dLt (vBin dIx (vVar 0) (vC (.int 1))) (vFn nLen (aCons (vBin dIx (vVar 0) (vC (.int 0))) aNil)))) (sAsgF 3 (vBin dIx (vBin dIx (vVar 0) (vC (.int 0))) (vBin dIx (vVar 0) (vC (.int 1))))) sNx)
    (sSeq (sSub (vBin dAdd (vBin dIx (vVar 0) (vC (.int 1))) (vC (.int 1))) (vVar 0) (vC (.int 1)))
    (sSeq (sIf (cV (vBin dGe (vVar 3) (vBin dPow (vC (.int 10)) (vC (.int 18))))) (sSeq (sSub (vBin dFdiv (vVar 3) (vVar 1)) (vVar 0) (vC (.int 2)))
    (sRet (vBin dMod (vVar 3) (vVar 1)))) sNx)
    (sSeq (sSub (vBin dMod (vBin dAdd (vBin dAdd (vBin dMul (vBin dIx (vVar 0) (vC (.int 3))) (vC (.int 48271))) (vBin dMod (vVar 3) (vC (.int 2147483629)))) (vBin dMul (vC (.int 7)) (vBin dIx (vVar 0) (vC (.int 1))))) (vC (.int 2147483647))) (vVar 0) (vC (.int 3)))
    (sRet (vBin dMod (vBin dFdiv (vBin dMod (vBin dPow (vBin dIx (vVar 0) (vC (.int 3))) (vC (.int 3))) (vC (.int 2147483629))) (vC (.int 64))) (vVar 1)))))))))
noncomputable def m__law_take : Fn := runB 4 [true, false] s__law_take
theorem b__law_take (KX : K.In h) (G : h.Ns mainGlobals mg) (c : He.SaysD fa fn K) (cdv : Value) (A : Around) (outer : List Env) (s : Shared) (H : Hp) (E : XK) (hr : Room 0 (A.deeper (envOfC "_law_take" (defScope (top 9)) s.heap.objs.size (He.ga K "_law_take") cdv))) :
    GSs (cxOf (L2.CX P w) P w K mg base N__law_take "_law_take" (defScope (top 9)) (He.ga K "_law_take") cdv A outer s H E) (defBody (top 9)) s__law_take :=
  (gss_cons (gs_if (gb_cmp op_gt does_cmp (ge_ixR ix_seq does_ix (ge_var (pv 0)) ge_int (by intro _ _; rfl)) ge_int (nomark _)) (gss_cons (gs_setF nd__law_take (i := 2) rfl (by first | exact .inl rfl | exact .inr rfl) (ge_bin op_mod does_mod (ge_ixR ix_seq does_ix (ge_var (pv 0)) ge_int (by intro _ _; rfl)) (ge_var (pv 1))))
    (gss_cons (gs_sub (ge_var (pv 0)) ge_int (ge_bin op_fdiv does_fdiv (ge_ixR ix_seq does_ix (ge_var (pv 0)) ge_int (by intro _ _; rfl)) (ge_var (pv 1))))
    (gss_one (gs_ret (ge_var (pv 2)))))) gss_nil)
    (gss_cons (gs_setF nd__law_take (i := 3) rfl (by first | exact .inl rfl | exact .inr rfl) ge_int)
    (gss_cons (gs_if (gb_cmp op_lt does_cmp (ge_ixR ix_seq does_ix (ge_var (pv 0)) ge_int (by intro _ _; rfl)) (ge_blt GL.cr_len does_len rfl (mfree 19 "len" KX G c) boot_len (ga_cons (ge_ixR ix_seq does_ix (ge_var (pv 0)) ge_int (by intro _ _; rfl)) ga_nil)) (nomark _)) (gss_one (gs_setF nd__law_take (i := 3) rfl (by first | exact .inl rfl | exact .inr rfl) (ge_ixR ix_seq does_ix (ge_ixR ix_seq does_ix (ge_var (pv 0)) ge_int (by intro _ _; rfl)) (ge_ixR ix_seq does_ix (ge_var (pv 0)) ge_int (by intro _ _; rfl)) (by intro _ _; rfl)))) gss_nil)
    (gss_cons (gs_sub (ge_var (pv 0)) ge_int (ge_bin op_addU does_add (ge_ixR ix_seq does_ix (ge_var (pv 0)) ge_int (by intro _ _; rfl)) ge_int))
    (gss_cons (gs_if (gb_cmp op_ge does_cmp (ge_var (pv 3)) (ge_bin op_pow does_pow ge_int ge_int) (nomark _)) (gss_cons (gs_sub (ge_var (pv 0)) ge_int (ge_bin op_fdiv does_fdiv (ge_var (pv 3)) (ge_var (pv 1))))
    (gss_one (gs_ret (ge_bin op_mod does_mod (ge_var (pv 3)) (ge_var (pv 1)))))) gss_nil)
    (gss_cons (gs_sub (ge_var (pv 0)) ge_int (ge_bin op_mod does_mod (ge_bin op_addU does_add (ge_bin op_addU does_add (ge_bin op_mulU does_mul (ge_ixR ix_seq does_ix (ge_var (pv 0)) ge_int (by intro _ _; rfl)) ge_int) (ge_bin op_mod does_mod (ge_var (pv 3)) ge_int)) (ge_bin op_mulU does_mul ge_int (ge_ixR ix_seq does_ix (ge_var (pv 0)) ge_int (by intro _ _; rfl)))) ge_int))
    (gss_one (gs_ret (ge_bin op_mod does_mod (ge_bin op_fdiv does_fdiv (ge_bin op_mod does_mod (ge_bin op_pow does_pow (ge_ixR ix_seq does_ix (ge_var (pv 0)) ge_int (by intro _ _; rfl)) ge_int) ge_int) ge_int) (ge_var (pv 1)))))))))))
theorem ok__law_take (KX : K.In h) (G : h.Ns mainGlobals mg) (c : He.SaysD fa fn K) : FnIs P w K mg base 1 "_law_take" ["_law_state", "_law_below"] [true, false] m__law_take := by
  obtain ⟨fd, F⟩ := c.def_ 6 (d := df "_law_take" 9) rfl
  exact fnIs F (fun F => fn_ok F sc__law_take rfl (b__law_take KX G c)) (F.bindsN fun _ _ _ _ _ _ us hl => match us, hl with | [_, _], _ => rfl) (mglo 6 "_law_take" KX G c)
/-! ### _law_is_plain -/
def N__law_is_plain : List Str := ["_law_thing", "_law_part"]
theorem sc__law_is_plain : FnScope N__law_is_plain ["_law_thing"] (defScope (top 10)) := ⟨rfl, rfl, rfl, by decide +kernel, rfl, by decide +kernel, by decide +kernel⟩
theorem nd__law_is_plain : N__law_is_plain.Nodup := sc__law_is_plain.nd
noncomputable def m__law_is_plain_0 : Fn := mNo
theorem ok__law_is_plain_0 (KX : K.In h) (G : h.Ns mainGlobals mg) (c : He.SaysD fa fn K) : FnIs P w K mg base 1 "_law_is_plain" ["_law_thing"] [false] m__law_is_plain_0 := by
  obtain ⟨fd, F⟩ := c.def_ 7 (d := df "_law_is_plain" 10) rfl
  exact fnIs F (fun F => fn_no F sc__law_is_plain) (F.bindsN fun _ _ _ _ _ _ us hl => match us, hl with | [_], _ => rfl) (mglo 7 "_law_is_plain" KX G c)
noncomputable def s__law_is_plain (mp : Fn) : SS := (sSeq (sIf (cV (vIs ["tuple"] (vVar 0))) (sRet (vFn nAll (aCons (vLc (iSeq (vVar 0)) (GL.gName 1) cYes (vCall [false] mp (aCons (vVar 1) aNil)) [1]) aNil))) sNx)
    (sRet (vAnd (vIs ["int", "str"] (vVar 0)) (vNot (vIs ["bool"] (vVar 0))))))
noncomputable def m__law_is_plain_1 : Fn := runB 2 [false] (s__law_is_plain m__law_is_plain_0)
theorem b__law_is_plain_1 (KX : K.In h) (G : h.Ns mainGlobals mg) (c : He.SaysD fa fn K) (cdv : Value) (A : Around) (outer : List Env) (s : Shared) (H : Hp) (E : XK) (hr : Room 1 (A.deeper (envOfC "_law_is_plain" (defScope (top 10)) s.heap.objs.size (He.ga K "_law_is_plain") cdv))) :
    GSs (cxOf (L2.CX P w) P w K mg base N__law_is_plain "_law_is_plain" (defScope (top 10)) (He.ga K "_law_is_plain") cdv A outer s H E) (defBody (top 10)) (s__law_is_plain m__law_is_plain_0) :=
  (gss_cons (gs_if (gb_val (ge_is1 rfl (mfree 18 "isinstance" KX G c) (ge_var (pv 0)) (pe_bltn rfl (mfree 25 "tuple" KX G c) boot_tuple rfl))) (gss_one (gs_ret (ge_blt (cr_all rfl) does_all rfl (mfree 14 "all" KX G c) boot_all (ga_cons (ge_lc (own := [("_law_part", 1)]) rfl nd__law_is_plain (gi_seq (ge_var (pv 0))) (blkOk_by (by rfl)) (fun _ _ _ _ _ => (gg_name (pg_name nd__law_is_plain (i := 1) rfl (by first | exact .inl rfl | exact .inr rfl)))) (fun _ _ _ _ _ => gts_nil) (fun _ _ _ _ _ => (ge_call (ok__law_is_plain_0 KX G c) (hr.mono (by decide)) rfl (ga_cons (ge_var (pv 1)) ga_nil))) (by decide)) ga_nil)))) gss_nil)
    (gss_one (gs_ret (ge_and (ge_isT rfl (mfree 18 "isinstance" KX G c) (ge_var (pv 0)) (.cons (pe_bltn rfl (mfree 17 "int" KX G c) boot_int rfl) rfl (.cons (pe_bltn rfl (mfree 24 "str" KX G c) boot_str rfl) rfl .nil))) (ge_one (ge_not (ge_is1 rfl (mfree 18 "isinstance" KX G c) (ge_var (pv 0)) (pe_bltn rfl (mfree 15 "bool" KX G c) boot_bool rfl))))))))
theorem ok__law_is_plain_1 (KX : K.In h) (G : h.Ns mainGlobals mg) (c : He.SaysD fa fn K) : FnIs P w K mg base 2 "_law_is_plain" ["_law_thing"] [false] m__law_is_plain_1 := by
  obtain ⟨fd, F⟩ := c.def_ 7 (d := df "_law_is_plain" 10) rfl
  exact fnIs F (fun F => fn_ok F sc__law_is_plain rfl (b__law_is_plain_1 KX G c)) (F.bindsN fun _ _ _ _ _ _ us hl => match us, hl with | [_], _ => rfl) (mglo 7 "_law_is_plain" KX G c)
noncomputable def m__law_is_plain_2 : Fn := runB 2 [false] (s__law_is_plain m__law_is_plain_1)
theorem b__law_is_plain_2 (KX : K.In h) (G : h.Ns mainGlobals mg) (c : He.SaysD fa fn K) (cdv : Value) (A : Around) (outer : List Env) (s : Shared) (H : Hp) (E : XK) (hr : Room 2 (A.deeper (envOfC "_law_is_plain" (defScope (top 10)) s.heap.objs.size (He.ga K "_law_is_plain") cdv))) :
    GSs (cxOf (L2.CX P w) P w K mg base N__law_is_plain "_law_is_plain" (defScope (top 10)) (He.ga K "_law_is_plain") cdv A outer s H E) (defBody (top 10)) (s__law_is_plain m__law_is_plain_1) :=
  (gss_cons (gs_if (gb_val (ge_is1 rfl (mfree 18 "isinstance" KX G c) (ge_var (pv 0)) (pe_bltn rfl (mfree 25 "tuple" KX G c) boot_tuple rfl))) (gss_one (gs_ret (ge_blt (cr_all rfl) does_all rfl (mfree 14 "all" KX G c) boot_all (ga_cons (ge_lc (own := [("_law_part", 1)]) rfl nd__law_is_plain (gi_seq (ge_var (pv 0))) (blkOk_by (by rfl)) (fun _ _ _ _ _ => (gg_name (pg_name nd__law_is_plain (i := 1) rfl (by first | exact .inl rfl | exact .inr rfl)))) (fun _ _ _ _ _ => gts_nil) (fun _ _ _ _ _ => (ge_call (ok__law_is_plain_1 KX G c) (hr.mono (by decide)) rfl (ga_cons (ge_var (pv 1)) ga_nil))) (by decide)) ga_nil)))) gss_nil)
    (gss_one (gs_ret (ge_and (ge_isT rfl (mfree 18 "isinstance" KX G c) (ge_var (pv 0)) (.cons (pe_bltn rfl (mfree 17 "int" KX G c) boot_int rfl) rfl (.cons (pe_bltn rfl (mfree 24 "str" KX G c) boot_str rfl) rfl .nil))) (ge_one (ge_not (ge_is1 rfl (mfree 18 "isinstance" KX G c) (ge_var (pv 0)) (pe_bltn rfl (mfree 15 "bool" KX G c) boot_bool rfl))))))))
theorem ok__law_is_plain_2 (KX : K.In h) (G : h.Ns mainGlobals mg) (c : He.SaysD fa fn K) : FnIs P w K mg base 3 "_law_is_plain" ["_law_thing"] [false] m__law_is_plain_2 := by
  obtain ⟨fd, F⟩ := c.def_ 7 (d := df "_law_is_plain" 10) rfl
  exact fnIs F (fun F => fn_ok F sc__law_is_plain rfl (b__law_is_plain_2 KX G c)) (F.bindsN fun _ _ _ _ _ _ us hl => match us, hl with | [_], _ => rfl) (mglo 7 "_law_is_plain" KX G c)
noncomputable def m__law_is_plain_3 : Fn := runB 2 [false] (s__law_is_plain m__law_is_plain_2)
theorem b__law_is_plain_3 (KX : K.In h) (G : h.Ns mainGlobals mg) (c : He.SaysD fa fn K) (cdv : Value) (A : Around) (outer : List Env) (s : Shared) (H : Hp) (E : XK) (hr : Room 3 (A.deeper (envOfC "_law_is_plain" (defScope (top 10)) s.heap.objs.size (He.ga K "_law_is_plain") cdv))) :
    GSs (cxOf (L2.CX P w) P w K mg base N__law_is_plain "_law_is_plain" (defScope (top 10)) (He.ga K "_law_is_plain") cdv A outer s H E) (defBody (top 10)) (s__law_is_plain m__law_is_plain_2) :=
  (gss_cons (gs_if (gb_val (ge_is1 rfl (mfree 18 "isinstance" KX G c) (ge_var (pv 0)) (pe_bltn rfl (mfree 25 "tuple" KX G c) boot_tuple rfl))) (gss_one (gs_ret (ge_blt (cr_all rfl) does_all rfl (mfree 14 "all" KX G c) boot_all (ga_cons (ge_lc (own := [("_law_part", 1)]) rfl nd__law_is_plain (gi_seq (ge_var (pv 0))) (blkOk_by (by rfl)) (fun _ _ _ _ _ => (gg_name (pg_name nd__law_is_plain (i := 1) rfl (by first | exact .inl rfl | exact .inr rfl)))) (fun _ _ _ _ _ => gts_nil) (fun _ _ _ _ _ => (ge_call (ok__law_is_plain_2 KX G c) (hr.mono (by decide)) rfl (ga_cons (ge_var (pv 1)) ga_nil))) (by decide)) ga_nil)))) gss_nil)
    (gss_one (gs_ret (ge_and (ge_isT rfl (mfree 18 "isinstance" KX G c) (ge_var (pv 0)) (.cons (pe_bltn rfl (mfree 17 "int" KX G c) boot_int rfl) rfl (.cons (pe_bltn rfl (mfree 24 "str" KX G c) boot_str rfl) rfl .nil))) (ge_one (ge_not (ge_is1 rfl (mfree 18 "isinstance" KX G c) (ge_var (pv 0)) (pe_bltn rfl (mfree 15 "bool" KX G c) boot_bool rfl))))))))
theorem ok__law_is_plain_3 (KX : K.In h) (G : h.Ns mainGlobals mg) (c : He.SaysD fa fn K) : FnIs P w K mg base 4 "_law_is_plain" ["_law_thing"] [false] m__law_is_plain_3 := by
  obtain ⟨fd, F⟩ := c.def_ 7 (d := df "_law_is_plain" 10) rfl
  exact fnIs F (fun F => fn_ok F sc__law_is_plain rfl (b__law_is_plain_3 KX G c)) (F.bindsN fun _ _ _ _ _ _ us hl => match us, hl with | [_], _ => rfl) (mglo 7 "_law_is_plain" KX G c)
noncomputable def m__law_is_plain_4 : Fn := runB 2 [false] (s__law_is_plain m__law_is_plain_3)
theorem b__law_is_plain_4 (KX : K.In h) (G : h.Ns mainGlobals mg) (c : He.SaysD fa fn K) (cdv : Value) (A : Around) (outer : List Env) (s : Shared) (H : Hp) (E : XK) (hr : Room 4 (A.deeper (envOfC "_law_is_plain" (defScope (top 10)) s.heap.objs.size (He.ga K "_law_is_plain") cdv))) :
    GSs (cxOf (L2.CX P w) P w K mg base N__law_is_plain "_law_is_plain" (defScope (top 10)) (He.ga K "_law_is_plain") cdv A outer s H E) (defBody (top 10)) (s__law_is_plain m__law_is_plain_3) :=
  (gss_cons (gs_if (gb_val (ge_is1 rfl (mfree 18 "isinstance" KX G c) (ge_var (pv 0)) (pe_bltn rfl (mfree 25 "tuple" KX G c) boot_tuple rfl))) (gss_one (gs_ret (ge_blt (cr_all rfl) does_all rfl (mfree 14 "all" KX G c) boot_all (ga_cons (ge_lc (own := [("_law_part", 1)]) rfl nd__law_is_plain (gi_seq (ge_var (pv 0))) (blkOk_by (by rfl)) (fun _ _ _ _ _ => (gg_name (pg_name nd__law_is_plain (i := 1) rfl (by first | exact .inl rfl | exact .inr rfl)))) (fun _ _ _ _ _ => gts_nil) (fun _ _ _ _ _ => (ge_call (ok__law_is_plain_3 KX G c) (hr.mono (by decide)) rfl (ga_cons (ge_var (pv 1)) ga_nil))) (by decide)) ga_nil)))) gss_nil)
    (gss_one (gs_ret (ge_and (ge_isT rfl (mfree 18 "isinstance" KX G c) (ge_var (pv 0)) (.cons (pe_bltn rfl (mfree 17 "int" KX G c) boot_int rfl) rfl (.cons (pe_bltn rfl (mfree 24 "str" KX G c) boot_str rfl) rfl .nil))) (ge_one (ge_not (ge_is1 rfl (mfree 18 "isinstance" KX G c) (ge_var (pv 0)) (pe_bltn rfl (mfree 15 "bool" KX G c) boot_bool rfl))))))))
theorem ok__law_is_plain_4 (KX : K.In h) (G : h.Ns mainGlobals mg) (c : He.SaysD fa fn K) : FnIs P w K mg base 5 "_law_is_plain" ["_law_thing"] [false] m__law_is_plain_4 := by
  obtain ⟨fd, F⟩ := c.def_ 7 (d := df "_law_is_plain" 10) rfl
  exact fnIs F (fun F => fn_ok F sc__law_is_plain rfl (b__law_is_plain_4 KX G c)) (F.bindsN fun _ _ _ _ _ _ us hl => match us, hl with | [_], _ => rfl) (mglo 7 "_law_is_plain" KX G c)
noncomputable def m__law_is_plain : Fn := runB 2 [false] (s__law_is_plain m__law_is_plain_4)
theorem b__law_is_plain (KX : K.In h) (G : h.Ns mainGlobals mg) (c : He.SaysD fa fn K) (cdv : Value) (A : Around) (outer : List Env) (s : Shared) (H : Hp) (E : XK) (hr : Room 5 (A.deeper (envOfC "_law_is_plain" (defScope (top 10)) s.heap.objs.size (He.ga K "_law_is_plain") cdv))) :
    GSs (cxOf (L2.CX P w) P w K mg base N__law_is_plain "_law_is_plain" (defScope (top 10)) (He.ga K "_law_is_plain") cdv A outer s H E) (defBody (top 10)) (s__law_is_plain m__law_is_plain_4) :=
  (gss_cons (gs_if (gb_val (ge_is1 rfl (mfree 18 "isinstance" KX G c) (ge_var (pv 0)) (pe_bltn rfl (mfree 25 "tuple" KX G c) boot_tuple rfl))) (gss_one (gs_ret (ge_blt (cr_all rfl) does_all rfl (mfree 14 "all" KX G c) boot_all (ga_cons (ge_lc (own := [("_law_part", 1)]) rfl nd__law_is_plain (gi_seq (ge_var (pv 0))) (blkOk_by (by rfl)) (fun _ _ _ _ _ => (gg_name (pg_name nd__law_is_plain (i := 1) rfl (by first | exact .inl rfl | exact .inr rfl)))) (fun _ _ _ _ _ => gts_nil) (fun _ _ _ _ _ => (ge_call (ok__law_is_plain_4 KX G c) (hr.mono (by decide)) rfl (ga_cons (ge_var (pv 1)) ga_nil))) (by decide)) ga_nil)))) gss_nil)
    (gss_one (gs_ret (ge_and (ge_isT rfl (mfree 18 "isinstance" KX G c) (ge_var (pv 0)) (.cons (pe_bltn rfl (mfree 17 "int" KX G c) boot_int rfl) rfl (.cons (pe_bltn rfl (mfree 24 "str" KX G c) boot_str rfl) rfl .nil))) (ge_one (ge_not (ge_is1 rfl (mfree 18 "isinstance" KX G c) (ge_var (pv 0)) (pe_bltn rfl (mfree 15 "bool" KX G c) boot_bool rfl))))))))
theorem ok__law_is_plain (KX : K.In h) (G : h.Ns mainGlobals mg) (c : He.SaysD fa fn K) : FnIs P w K mg base 6 "_law_is_plain" ["_law_thing"] [false] m__law_is_plain := by
  obtain ⟨fd, F⟩ := c.def_ 7 (d := df "_law_is_plain" 10) rfl
  exact fnIs F (fun F => fn_ok F sc__law_is_plain rfl (b__law_is_plain KX G c)) (F.bindsN fun _ _ _ _ _ _ us hl => match us, hl with | [_], _ => rfl) (mglo 7 "_law_is_plain" KX G c)
/-! ### _law_drawn_order -/
def N__law_drawn_order : List Str := ["_law_state", "_law_pool", "_law_many", "_law_left", "_law_found", "_law_k"]
theorem sc__law_drawn_order : FnScope N__law_drawn_order ["_law_state", "_law_pool", "_law_many"] (defScope (top 11)) := ⟨rfl, rfl, rfl, by decide +kernel, rfl, by decide +kernel, by decide +kernel⟩
theorem nd__law_drawn_order : N__law_drawn_order.Nodup := sc__law_drawn_order.nd
noncomputable def s__law_drawn_order : SS := (sSeq (sAsg 3 (vFn nList (aCons (vVar 1) aNil)))
    (sSeq (sAsg 4 (vLst aNil))
    (sSeq (sFor (iRange1 (aCons (vFn nMin (aCons (vVar 2) (aCons (vFn nLen (aCons (vVar 3) aNil)) aNil))) aNil)) (GL.gName 5) (sExpr (vMt mAppend (vVar 4) (aCons (vMt mPopAt (vVar 3) (aCons (vCall [true, false] m__law_take (aCons (vVar 0) (aCons (vFn nLen (aCons (vVar 3) aNil)) aNil))) aNil)) aNil))) [5])
    (sRet (vFn nTup (aCons (vVar 4) aNil))))))
noncomputable def m__law_drawn_order : Fn := runB 6 [true, false, false] s__law_drawn_order
theorem b__law_drawn_order (KX : K.In h) (G : h.Ns mainGlobals mg) (c : He.SaysD fa fn K) (cdv : Value) (A : Around) (outer : List Env) (s : Shared) (H : Hp) (E : XK) (hr : Room 1 (A.deeper (envOfC "_law_drawn_order" (defScope (top 11)) s.heap.objs.size (He.ga K "_law_drawn_order") cdv))) :
    GSs (cxOf (L2.CX P w) P w K mg base N__law_drawn_order "_law_drawn_order" (defScope (top 11)) (He.ga K "_law_drawn_order") cdv A outer s H E) (defBody (top 11)) s__law_drawn_order :=
  (gss_cons (gs_set nd__law_drawn_order (i := 3) rfl (by first | exact .inl rfl | exact .inr rfl) (ge_ty GL.cr_list does_list rfl (mfree 20 "list" KX G c) boot_list (ga_cons (ge_var (pv 1)) ga_nil)))
    (gss_cons (gs_set nd__law_drawn_order (i := 4) rfl (by first | exact .inl rfl | exact .inr rfl) (ge_lst ga_nil))
    (gss_cons (gs_for [5] (passes_of rfl) rfl (gi_range1 rfl (mfree 22 "range" KX G c) (ga_cons (ge_blt (GL.cr_min rfl) does_min rfl (mfree 21 "min" KX G c) boot_min (ga_cons (ge_var (pv 2)) (ga_cons (ge_blt GL.cr_len does_len rfl (mfree 19 "len" KX G c) boot_len (ga_cons (ge_var (pv 3)) ga_nil)) ga_nil))) ga_nil)) (gg_name (pg_name nd__law_drawn_order (i := 5) rfl (by first | exact .inl rfl | exact .inr rfl))) (gss_one (gs_expr (ge_mt PySem.F.slot_list_append rfl mt_append does_append (ge_var (pv 4)) (ga_cons (ge_mt PySem.F.slot_list_pop rfl mt_popAt does_popAt (ge_var (pv 3)) (ga_cons (ge_call (ok__law_take KX G c) (hr.mono (by decide)) rfl (ga_cons (ge_var (pv 0)) (ga_cons (ge_blt GL.cr_len does_len rfl (mfree 19 "len" KX G c) boot_len (ga_cons (ge_var (pv 3)) ga_nil)) ga_nil))) ga_nil)) ga_nil)))))
    (gss_one (gs_ret (ge_ty GL.cr_tup does_tup rfl (mfree 25 "tuple" KX G c) boot_tuple (ga_cons (ge_var (pv 4)) ga_nil)))))))
theorem ok__law_drawn_order (KX : K.In h) (G : h.Ns mainGlobals mg) (c : He.SaysD fa fn K) : FnIs P w K mg base 2 "_law_drawn_order" ["_law_state", "_law_pool", "_law_many"] [true, false, false] m__law_drawn_order := by
  obtain ⟨fd, F⟩ := c.def_ 8 (d := df "_law_drawn_order" 11) rfl
  exact fnIs F (fun F => fn_ok F sc__law_drawn_order rfl (b__law_drawn_order KX G c)) (F.bindsN fun _ _ _ _ _ _ us hl => match us, hl with | [_, _, _], _ => rfl) (mglo 8 "_law_drawn_order" KX G c)
/-! ### _law_thrones -/
def N__law_thrones : List Str := ["_law_state", "_law_most", "_law_many", "_law_pool", "_law_orders", "_law_throne", "_law_size", "_law_wishes", "_law_who"]
theorem sc__law_thrones : FnScope N__law_thrones ["_law_state", "_law_most", "_law_many"] (defScope (top 12)) := ⟨rfl, rfl, rfl, by decide +kernel, rfl, by decide +kernel, by decide +kernel⟩
theorem nd__law_thrones : N__law_thrones.Nodup := sc__law_thrones.nd
noncomputable def s__law_thrones : SS := (sSeq (sAsgF 3 (vFn nSorted (aCons (vCall [true, false, false] m__law_drawn_order (aCons (vVar 0) (aCons (vLRg (aCons (vC (.int 61)) aNil)) (aCons (vVar 2) aNil)))) aNil)))
    (sSeq (sAsg 4 (vLst aNil))
    (sSeq (sFor (iRange1 (aCons (vBin dAdd (vC (.int 1)) (vCall [true, false] m__law_take (aCons (vVar 0) (aCons (vVar 1) aNil)))) aNil)) (GL.gName 5) (sSeq (sAsgF 6 (vBin dIx (vLst (aCons (vFn nLen (aCons (vVar 3) aNil)) (aCons (vFn nLen (aCons (vVar 3) aNil)) (aCons (vCall [true, false] m__law_take (aCons (vVar 0) (aCons (vBin dAdd (vFn nLen (aCons (vVar 3) aNil)) (vC (.int 1))) aNil))) (aCons (vC (.int 1)) aNil))))) (vCall [true, false] m__law_take (aCons (vVar 0) (aCons (vC (.int 4)) aNil)))))
    (sExpr (vMt mAppend (vVar 4) (aCons (vCall [true, false, false] m__law_drawn_order (aCons (vVar 0) (aCons (vVar 3) (aCons (vVar 6) aNil)))) aNil)))) [5, 6])
    (sSeq (sAsg 7 (vLst aNil))
    (sSeq (sFor (iSeq (vVar 3)) (GL.gName 8) (sIf (cV (vBin dGt (vCall [true, false] m__law_take (aCons (vVar 0) (aCons (vC (.int 8)) aNil))) (vC (.int 0)))) (sSeq (sAsgF 6 (vBin dIx (vLst (aCons (vFn nLen (aCons (vVar 4) aNil)) (aCons (vFn nLen (aCons (vVar 4) aNil)) (aCons (vCall [true, false] m__law_take (aCons (vVar 0) (aCons (vBin dAdd (vFn nLen (aCons (vVar 4) aNil)) (vC (.int 1))) aNil))) aNil)))) (vCall [true, false] m__law_take (aCons (vVar 0) (aCons (vC (.int 3)) aNil)))))
    (sExpr (vMt mAppend (vVar 7) (aCons (vTup (aCons (vVar 8) (aCons (vCall [true, false, false] m__law_drawn_order (aCons (vVar 0) (aCons (vLRg (aCons (vFn nLen (aCons (vVar 4) aNil)) aNil)) (aCons (vVar 6) aNil)))) aNil))) aNil)))) sNx) [6, 8])
    (sRet (vLst (aCons (vFn nTup (aCons (vVar 4) aNil)) (aCons (vFn nTup (aCons (vVar 7) aNil)) aNil)))))))))
noncomputable def m__law_thrones : Fn := runB 9 [true, false, false] s__law_thrones
theorem b__law_thrones (KX : K.In h) (G : h.Ns mainGlobals mg) (c : He.SaysD fa fn K) (cdv : Value) (A : Around) (outer : List Env) (s : Shared) (H : Hp) (E : XK) (hr : Room 2 (A.deeper (envOfC "_law_thrones" (defScope (top 12)) s.heap.objs.size (He.ga K "_law_thrones") cdv))) :
    GSs (cxOf (L2.CX P w) P w K mg base N__law_thrones "_law_thrones" (defScope (top 12)) (He.ga K "_law_thrones") cdv A outer s H E) (defBody (top 12)) s__law_thrones :=
  (gss_cons (gs_setF nd__law_thrones (i := 3) rfl (by first | exact .inl rfl | exact .inr rfl) (ge_blt (cr_sortD (hu65 hr)) does_sorted rfl (mfree 23 "sorted" KX G c) boot_sorted (ga_cons (ge_call (ok__law_drawn_order KX G c) (hr.mono (by decide)) rfl (ga_cons (ge_var (pv 0)) (ga_cons (ge_listRg rfl rfl (mfree 20 "list" KX G c) (grg_1 rfl (mfree 22 "range" KX G c) ge_int)) (ga_cons (ge_var (pv 2)) ga_nil)))) ga_nil)))
    (gss_cons (gs_set nd__law_thrones (i := 4) rfl (by first | exact .inl rfl | exact .inr rfl) (ge_lst ga_nil))
    (gss_cons (gs_for [5, 6] (passes_of rfl) rfl (gi_range1 rfl (mfree 22 "range" KX G c) (ga_cons (ge_bin op_addU does_add ge_int (ge_call (ok__law_take KX G c) (hr.mono (by decide)) rfl (ga_cons (ge_var (pv 0)) (ga_cons (ge_var (pv 1)) ga_nil)))) ga_nil)) (gg_name (pg_name nd__law_thrones (i := 5) rfl (by first | exact .inl rfl | exact .inr rfl))) (gss_cons (gs_setF nd__law_thrones (i := 6) rfl (by first | exact .inl rfl | exact .inr rfl) (ge_ixR ix_seq does_ix (ge_lst (ga_cons (ge_blt GL.cr_len does_len rfl (mfree 19 "len" KX G c) boot_len (ga_cons (ge_var (pv 3)) ga_nil)) (ga_cons (ge_blt GL.cr_len does_len rfl (mfree 19 "len" KX G c) boot_len (ga_cons (ge_var (pv 3)) ga_nil)) (ga_cons (ge_call (ok__law_take KX G c) (hr.mono (by decide)) rfl (ga_cons (ge_var (pv 0)) (ga_cons (ge_bin op_addU does_add (ge_blt GL.cr_len does_len rfl (mfree 19 "len" KX G c) boot_len (ga_cons (ge_var (pv 3)) ga_nil)) ge_int) ga_nil))) (ga_cons ge_int ga_nil))))) (ge_call (ok__law_take KX G c) (hr.mono (by decide)) rfl (ga_cons (ge_var (pv 0)) (ga_cons ge_int ga_nil))) (by intro _ _; rfl)))
    (gss_one (gs_expr (ge_mt PySem.F.slot_list_append rfl mt_append does_append (ge_var (pv 4)) (ga_cons (ge_call (ok__law_drawn_order KX G c) (hr.mono (by decide)) rfl (ga_cons (ge_var (pv 0)) (ga_cons (ge_var (pv 3)) (ga_cons (ge_var (pv 6)) ga_nil)))) ga_nil))))))
    (gss_cons (gs_set nd__law_thrones (i := 7) rfl (by first | exact .inl rfl | exact .inr rfl) (ge_lst ga_nil))
    (gss_cons (gs_for [6, 8] (passes_of rfl) rfl (gi_seq (ge_var (pv 3))) (gg_name (pg_name nd__law_thrones (i := 8) rfl (by first | exact .inl rfl | exact .inr rfl))) (gss_one (gs_if (gb_cmp op_gt does_cmp (ge_call (ok__law_take KX G c) (hr.mono (by decide)) rfl (ga_cons (ge_var (pv 0)) (ga_cons ge_int ga_nil))) ge_int (nomark _)) (gss_cons (gs_setF nd__law_thrones (i := 6) rfl (by first | exact .inl rfl | exact .inr rfl) (ge_ixR ix_seq does_ix (ge_lst (ga_cons (ge_blt GL.cr_len does_len rfl (mfree 19 "len" KX G c) boot_len (ga_cons (ge_var (pv 4)) ga_nil)) (ga_cons (ge_blt GL.cr_len does_len rfl (mfree 19 "len" KX G c) boot_len (ga_cons (ge_var (pv 4)) ga_nil)) (ga_cons (ge_call (ok__law_take KX G c) (hr.mono (by decide)) rfl (ga_cons (ge_var (pv 0)) (ga_cons (ge_bin op_addU does_add (ge_blt GL.cr_len does_len rfl (mfree 19 "len" KX G c) boot_len (ga_cons (ge_var (pv 4)) ga_nil)) ge_int) ga_nil))) ga_nil)))) (ge_call (ok__law_take KX G c) (hr.mono (by decide)) rfl (ga_cons (ge_var (pv 0)) (ga_cons ge_int ga_nil))) (by intro _ _; rfl)))
    (gss_one (gs_expr (ge_mt PySem.F.slot_list_append rfl mt_append does_append (ge_var (pv 7)) (ga_cons (ge_tup (ga_cons (ge_var (pv 8)) (ga_cons (ge_call (ok__law_drawn_order KX G c) (hr.mono (by decide)) rfl (ga_cons (ge_var (pv 0)) (ga_cons (ge_listRg rfl rfl (mfree 20 "list" KX G c) (grg_1 rfl (mfree 22 "range" KX G c) (ge_blt GL.cr_len does_len rfl (mfree 19 "len" KX G c) boot_len (ga_cons (ge_var (pv 4)) ga_nil)))) (ga_cons (ge_var (pv 6)) ga_nil)))) ga_nil))) ga_nil))))) gss_nil)))
    (gss_one (gs_ret (ge_lst (ga_cons (ge_ty GL.cr_tup does_tup rfl (mfree 25 "tuple" KX G c) boot_tuple (ga_cons (ge_var (pv 4)) ga_nil)) (ga_cons (ge_ty GL.cr_tup does_tup rfl (mfree 25 "tuple" KX G c) boot_tuple (ga_cons (ge_var (pv 7)) ga_nil)) ga_nil))))))))))
theorem ok__law_thrones (KX : K.In h) (G : h.Ns mainGlobals mg) (c : He.SaysD fa fn K) : FnIs P w K mg base 3 "_law_thrones" ["_law_state", "_law_most", "_law_many"] [true, false, false] m__law_thrones := by
  obtain ⟨fd, F⟩ := c.def_ 9 (d := df "_law_thrones" 12) rfl
  exact fnIs F (fun F => fn_ok F sc__law_thrones rfl (b__law_thrones KX G c)) (F.bindsN fun _ _ _ _ _ _ us hl => match us, hl with | [_, _, _], _ => rfl) (mglo 9 "_law_thrones" KX G c)
/-! ### _law_wished -/
def N__law_wished : List Str := ["_law_wishes", "_law_who", "_law_one", "_law_thrones_here"]
theorem sc__law_wished : FnScope N__law_wished ["_law_wishes", "_law_who"] (defScope (top 13)) := ⟨rfl, rfl, rfl, by decide +kernel, rfl, by decide +kernel, by decide +kernel⟩
theorem nd__law_wished : N__law_wished.Nodup := sc__law_wished.nd
noncomputable def s__law_wished : SS := (sRet (vBin dIx (vBin dAdd (vFn nTup (aCons (vLc (iSeq (vVar 0)) (GL.gTup 2 (gsCons (GL.gName 2) (gsCons (GL.gName 3) gsNil))) (cV (vBin dEq (vVar 2) (vVar 1))) (vVar 3) [2, 3]) aNil)) (vTup (aCons (vTup aNil) aNil))) (vC (.int 0))))
noncomputable def m__law_wished : Fn := runB 4 [false, false] s__law_wished
theorem b__law_wished (KX : K.In h) (G : h.Ns mainGlobals mg) (c : He.SaysD fa fn K) (cdv : Value) (A : Around) (outer : List Env) (s : Shared) (H : Hp) (E : XK) (hr : Room 0 (A.deeper (envOfC "_law_wished" (defScope (top 13)) s.heap.objs.size (He.ga K "_law_wished") cdv))) :
    GSs (cxOf (L2.CX P w) P w K mg base N__law_wished "_law_wished" (defScope (top 13)) (He.ga K "_law_wished") cdv A outer s H E) (defBody (top 13)) s__law_wished :=
  (gss_one (gs_ret (ge_ixR ix_seq does_ix (ge_bin op_addU does_add (ge_ty GL.cr_tup does_tup rfl (mfree 25 "tuple" KX G c) boot_tuple (ga_cons (ge_lc (own := [("_law_one", 2), ("_law_thrones_here", 3)]) rfl nd__law_wished (gi_seq (ge_var (pv 0))) (blkOk_by (by rfl)) (fun _ _ _ _ _ => (gg_tup rfl (ggs_cons (gg_name (pg_name nd__law_wished (i := 2) rfl (by first | exact .inl rfl | exact .inr rfl))) (ggs_cons (gg_name (pg_name nd__law_wished (i := 3) rfl (by first | exact .inl rfl | exact .inr rfl))) ggs_nil)))) (fun _ _ _ _ _ => (gts_one (gb_cmp (op_eqD (hu64 hr)) does_eq (ge_var (pv 2)) (ge_var (pv 1)) (nomark _)))) (fun _ _ _ _ _ => (ge_var (pv 3))) (by decide)) ga_nil)) (ge_tup (ga_cons (ge_tup ga_nil) ga_nil))) ge_int (by intro _ _; rfl))))
theorem ok__law_wished (KX : K.In h) (G : h.Ns mainGlobals mg) (c : He.SaysD fa fn K) : FnIs P w K mg base 1 "_law_wished" ["_law_wishes", "_law_who"] [false, false] m__law_wished := by
  obtain ⟨fd, F⟩ := c.def_ 10 (d := df "_law_wished" 13) rfl
  exact fnIs F (fun F => fn_ok F sc__law_wished rfl (b__law_wished KX G c)) (F.bindsN fun _ _ _ _ _ _ us hl => match us, hl with | [_, _], _ => rfl) (mglo 10 "_law_wished" KX G c)
/-! ### _law_asked_by_thrones -/
def N__law_asked_by_thrones : List Str := ["_law_orders", "_law_wishes", "_law_turn", "_law_sharing", "_law_left", "_law_order", "_law_asks", "_law_some", "_law_throne", "_law_who", "_law_wished_here", "_law_word", "#12", "#13", "#14", "#15", "#16", "#17"]
theorem sc__law_asked_by_thrones : FnScope N__law_asked_by_thrones ["_law_orders", "_law_wishes", "_law_turn"] (defScope (top 14)) := ⟨rfl, rfl, rfl, by decide +kernel, rfl, by decide +kernel, by decide +kernel⟩
theorem nd__law_asked_by_thrones : N__law_asked_by_thrones.Nodup := sc__law_asked_by_thrones.nd
noncomputable def s__law_asked_by_thrones : SS := (sSeq (sAsg 3 (vBin dMul (vLst (aCons (vUn dNeg (vC (.int 1))) aNil)) (vFn nLen (aCons (vVar 0) aNil))))
    (sSeq (sAsgN 4 [12, 13, 14, 15, 16, 17] (iSeq (vVar 0)) (GL.gName 5) cYes (vFn nList (aCons (vVar 5) aNil)) [5])
    (sSeq (sAsg 6 (vLst aNil))
    (sSeq (sAsgF 7 (vLc (iSeq (vVar 2)) (GL.gName 8) (cV (vBin dNe (vIxO (vVar 4) (vVar 8)) (vLst aNil))) (vVar 8) [8]))
    (sSeq (sWhile (cV (vBin dNe (vVar 7) (vLst aNil))) (sSeq (sAsgF 8 (vBin dIx (vVar 7) (vC (.int 0))))
    (sSeq (sAsgF 9 (vMt mPopAt (vIxO (vVar 4) (vVar 8)) (aCons (vC (.int 0)) aNil)))
    (sSeq (sAsgF 10 (vCall [false, false] m__law_wished (aCons (vVar 1) (aCons (vVar 9) aNil))))
    (sSeq (sAsgF 11 (vC (.str "no")))
    (sSeq (sIf (cAnd (cV (vBin dNotIn (vVar 9) (vVar 3))) (cV (vBin dIn (vVar 8) (vVar 10)))) (sAsgF 11 (vC (.str "takes"))) (sIf (cAnd (cV (vBin dIn (vVar 9) (vVar 3))) (cV (vBin dIn (vVar 8) (vSl (vVar 10) oNone (oSome (vMr "tuple" nIndexT (vVar 10) (aCons (vMr "list" nIndex (vVar 3) (aCons (vVar 9) aNil)) aNil))))))) (sSeq (sAsgF 11 (vC (.str "turns")))
    (sSub (vUn dNeg (vC (.int 1))) (vVar 3) (vMr "list" nIndex (vVar 3) (aCons (vVar 9) aNil)))) sNx))
    (sSeq (sIf (cV (vBin dNe (vVar 11) (vC (.str "no")))) (sSub (vVar 9) (vVar 3) (vVar 8)) sNx)
    (sSeq (sExpr (vMt mAppend (vVar 6) (aCons (vTup (aCons (vVar 8) (aCons (vVar 9) (aCons (vVar 11) aNil)))) aNil)))
    (sAsgF 7 (vLc (iSeq (vVar 2)) (GL.gName 8) (cAnd (cV (vBin dEq (vBin dIx (vVar 3) (vVar 8)) (vUn dNeg (vC (.int 1))))) (cV (vBin dNe (vIxO (vVar 4) (vVar 8)) (vLst aNil)))) (vVar 8) [8]))))))))) [8, 9, 10, 11])
    (sRet (vTup (aCons (vFn nTup (aCons (vVar 3) aNil)) (aCons (vFn nTup (aCons (vVar 6) aNil)) aNil)))))))))
noncomputable def m__law_asked_by_thrones : Fn := runB 18 [false, false, false] s__law_asked_by_thrones
theorem b__law_asked_by_thrones (KX : K.In h) (G : h.Ns mainGlobals mg) (c : He.SaysD fa fn K) (cdv : Value) (A : Around) (outer : List Env) (s : Shared) (H : Hp) (E : XK) (hr : Room 1 (A.deeper (envOfC "_law_asked_by_thrones" (defScope (top 14)) s.heap.objs.size (He.ga K "_law_asked_by_thrones") cdv))) :
    GSs (cxOf (L2.CX P w) P w K mg base N__law_asked_by_thrones "_law_asked_by_thrones" (defScope (top 14)) (He.ga K "_law_asked_by_thrones") cdv A outer s H E) (defBody (top 14)) s__law_asked_by_thrones :=
  (gss_cons (gs_set nd__law_asked_by_thrones (i := 3) rfl (by first | exact .inl rfl | exact .inr rfl) (ge_bin op_mulU does_mul (ge_lst (ga_cons (ge_un un_neg does_neg ge_int) ga_nil)) (ge_blt GL.cr_len does_len rfl (mfree 19 "len" KX G c) boot_len (ga_cons (ge_var (pv 0)) ga_nil))))
    (gss_cons (gs_setNC (own := [("_law_order", 5)]) (i := 4) rfl nd__law_asked_by_thrones rfl (by first | exact .inl rfl | exact .inr rfl) (by decide) (by decide) (unseen_of (by rfl)) (by rfl) (gi_seq (ge_var (pv 0))) (blkOk_by (by rfl)) (fun _ _ _ _ _ => (gg_name (pg_name nd__law_asked_by_thrones (i := 5) rfl (by first | exact .inl rfl | exact .inr rfl)))) (fun _ _ _ _ _ => gts_nil) (fun _ _ _ _ _ => (ge_ty GL.cr_list does_list rfl (mfree 20 "list" KX G c) boot_list (ga_cons (ge_var (pv 5)) ga_nil))) (by decide))
    (gss_cons (gs_set nd__law_asked_by_thrones (i := 6) rfl (by first | exact .inl rfl | exact .inr rfl) (ge_lst ga_nil))
    (gss_cons (gs_setLcF (own := [("_law_throne", 8)]) (i := 7) rfl nd__law_asked_by_thrones rfl rfl (by rfl) (gi_seq (ge_var (pv 2))) (blkOk_by (by rfl)) (fun _ _ _ _ _ => (gg_name (pg_name nd__law_asked_by_thrones (i := 8) rfl (by first | exact .inl rfl | exact .inr rfl)))) (fun _ _ _ _ _ => (gts_one (gb_cmp (op_neD (hu64 hr)) does_ne (ge_ixO (ge_var (pv 4)) (ge_var (pv 8)) (by intro _ _; rfl)) (ge_lst ga_nil) (nomark _)))) (fun _ _ _ _ _ => (ge_var (pv 8))) (by decide))
    (gss_cons (gs_while [8, 9, 10, 11] (passes_of rfl) (gb_cmp (op_neD (hu64 hr)) does_ne (ge_var (pv 7)) (ge_lst ga_nil) (nomark _)) (gss_cons (gs_setF nd__law_asked_by_thrones (i := 8) rfl (by first | exact .inl rfl | exact .inr rfl) (ge_ixR ix_seq does_ix (ge_var (pv 7)) ge_int (by intro _ _; rfl)))
    (gss_cons (gs_setF nd__law_asked_by_thrones (i := 9) rfl (by first | exact .inl rfl | exact .inr rfl) (ge_mt PySem.F.slot_list_pop rfl mt_popAt does_popAt (ge_ixO (ge_var (pv 4)) (ge_var (pv 8)) (by intro _ _; rfl)) (ga_cons ge_int ga_nil)))
    (gss_cons (gs_setF nd__law_asked_by_thrones (i := 10) rfl (by first | exact .inl rfl | exact .inr rfl) (ge_call (ok__law_wished KX G c) (hr.mono (by decide)) rfl (ga_cons (ge_var (pv 1)) (ga_cons (ge_var (pv 9)) ga_nil))))
    (gss_cons (gs_setF nd__law_asked_by_thrones (i := 11) rfl (by first | exact .inl rfl | exact .inr rfl) ge_str)
    (gss_cons (gs_if (GW.gb (gw_and (gb_cmp (op_notInU (hu65 hr)) does_notIn (ge_var (pv 9)) (ge_var (pv 3)) (by rfl)) (gw_and1 (gb_cmp (op_inU (hu65 hr)) does_in (ge_var (pv 8)) (ge_var (pv 10)) (by rfl))))) (gss_one (gs_setF nd__law_asked_by_thrones (i := 11) rfl (by first | exact .inl rfl | exact .inr rfl) ge_str)) (gss_one (gs_if (GW.gb (gw_and (gb_cmp (op_inU (hu65 hr)) does_in (ge_var (pv 9)) (ge_var (pv 3)) (by rfl)) (gw_and1 (gb_cmp (op_inU (hu65 hr)) does_in (ge_var (pv 8)) (ge_sl (ge_var (pv 10)) go_none (go_some (ge_mr (by decide) PySem.F.plainAttrs_tuple PySem.F.slot_tuple_index rfl (mt_indexT (hu65 hr)) does_indexT (ge_var (pv 10)) (ga_cons (ge_mr (by decide) PySem.F.plainAttrs_list PySem.F.slot_list_index rfl (mt_indexD (hu65 hr)) does_index (ge_var (pv 3)) (ga_cons (ge_var (pv 9)) ga_nil)) ga_nil)))) (by rfl))))) (gss_cons (gs_setF nd__law_asked_by_thrones (i := 11) rfl (by first | exact .inl rfl | exact .inr rfl) ge_str)
    (gss_one (gs_sub (ge_var (pv 3)) (ge_mr (by decide) PySem.F.plainAttrs_list PySem.F.slot_list_index rfl (mt_indexD (hu65 hr)) does_index (ge_var (pv 3)) (ga_cons (ge_var (pv 9)) ga_nil)) (ge_un un_neg does_neg ge_int)))) gss_nil)))
    (gss_cons (gs_if (gb_cmp (op_neD (hu64 hr)) does_ne (ge_var (pv 11)) ge_str (nomark _)) (gss_one (gs_sub (ge_var (pv 3)) (ge_var (pv 8)) (ge_var (pv 9)))) gss_nil)
    (gss_cons (gs_expr (ge_mt PySem.F.slot_list_append rfl mt_append does_append (ge_var (pv 6)) (ga_cons (ge_tup (ga_cons (ge_var (pv 8)) (ga_cons (ge_var (pv 9)) (ga_cons (ge_var (pv 11)) ga_nil)))) ga_nil)))
    (gss_one (gs_setLcF (own := [("_law_throne", 8)]) (i := 7) rfl nd__law_asked_by_thrones rfl rfl (by rfl) (gi_seq (ge_var (pv 2))) (blkOk_by (by rfl)) (fun _ _ _ _ _ => (gg_name (pg_name nd__law_asked_by_thrones (i := 8) rfl (by first | exact .inl rfl | exact .inr rfl)))) (fun _ _ _ _ _ => (gts_one (GW.gb (gw_and (gb_cmp (op_eqD (hu64 hr)) does_eq (ge_ixR ix_seq does_ix (ge_var (pv 3)) (ge_var (pv 8)) (by intro _ _; rfl)) (ge_un un_neg does_neg ge_int) (nomark _)) (gw_and1 (gb_cmp (op_neD (hu64 hr)) does_ne (ge_ixO (ge_var (pv 4)) (ge_var (pv 8)) (by intro _ _; rfl)) (ge_lst ga_nil) (nomark _))))))) (fun _ _ _ _ _ => (ge_var (pv 8))) (by decide)))))))))))
    (gss_one (gs_ret (ge_tup (ga_cons (ge_ty GL.cr_tup does_tup rfl (mfree 25 "tuple" KX G c) boot_tuple (ga_cons (ge_var (pv 3)) ga_nil)) (ga_cons (ge_ty GL.cr_tup does_tup rfl (mfree 25 "tuple" KX G c) boot_tuple (ga_cons (ge_var (pv 6)) ga_nil)) ga_nil))))))))))
theorem ok__law_asked_by_thrones (KX : K.In h) (G : h.Ns mainGlobals mg) (c : He.SaysD fa fn K) : FnIs P w K mg base 2 "_law_asked_by_thrones" ["_law_orders", "_law_wishes", "_law_turn"] [false, false, false] m__law_asked_by_thrones := by
  obtain ⟨fd, F⟩ := c.def_ 11 (d := df "_law_asked_by_thrones" 14) rfl
  exact fnIs F (fun F => fn_ok F sc__law_asked_by_thrones rfl (b__law_asked_by_thrones KX G c)) (F.bindsN fun _ _ _ _ _ _ us hl => match us, hl with | [_, _, _], _ => rfl) (mglo 11 "_law_asked_by_thrones" KX G c)
/-! ### _law_right -/
def N__law_right : List Str := ["_law_orders", "_law_wishes", "_law_turn", "_law_found"]
theorem sc__law_right : FnScope N__law_right ["_law_orders", "_law_wishes", "_law_turn"] (defScope (top 15)) := ⟨rfl, rfl, rfl, by decide +kernel, rfl, by decide +kernel, by decide +kernel⟩
theorem nd__law_right : N__law_right.Nodup := sc__law_right.nd
noncomputable def s__law_right : SS := (sSeq (sAsgF 3 (vCall [false, false, false] m_by_thrones (aCons (vVar 0) (aCons (vVar 1) (aCons (vVar 2) aNil)))))
    (sRet (vAnd (vBin dEq (vVar 3) (vCall [false, false, false] m__law_asked_by_thrones (aCons (vVar 0) (aCons (vVar 1) (aCons (vVar 2) aNil))))) (vCall [false] m__law_is_plain (aCons (vVar 3) aNil)))))
noncomputable def m__law_right : Fn := runB 4 [false, false, false] s__law_right
theorem b__law_right (KX : K.In h) (G : h.Ns mainGlobals mg) (c : He.SaysD fa fn K) (cdv : Value) (A : Around) (outer : List Env) (s : Shared) (H : Hp) (E : XK) (hr : Room 6 (A.deeper (envOfC "_law_right" (defScope (top 15)) s.heap.objs.size (He.ga K "_law_right") cdv))) :
    GSs (cxOf (L2.CX P w) P w K mg base N__law_right "_law_right" (defScope (top 15)) (He.ga K "_law_right") cdv A outer s H E) (defBody (top 15)) s__law_right :=
  (gss_cons (gs_setF nd__law_right (i := 3) rfl (by first | exact .inl rfl | exact .inr rfl) (ge_call (ok_by_thrones KX G c) (hr.mono (by decide)) rfl (ga_cons (ge_var (pv 0)) (ga_cons (ge_var (pv 1)) (ga_cons (ge_var (pv 2)) ga_nil)))))
    (gss_one (gs_ret (ge_and (ge_cmp (op_eqD (hu64 hr)) does_eq (ge_var (pv 3)) (ge_call (ok__law_asked_by_thrones KX G c) (hr.mono (by decide)) rfl (ga_cons (ge_var (pv 0)) (ga_cons (ge_var (pv 1)) (ga_cons (ge_var (pv 2)) ga_nil)))) (nomark _)) (ge_one (ge_call (ok__law_is_plain KX G c) (hr.mono (by decide)) rfl (ga_cons (ge_var (pv 3)) ga_nil)))))))
theorem ok__law_right (KX : K.In h) (G : h.Ns mainGlobals mg) (c : He.SaysD fa fn K) : FnIs P w K mg base 7 "_law_right" ["_law_orders", "_law_wishes", "_law_turn"] [false, false, false] m__law_right := by
  obtain ⟨fd, F⟩ := c.def_ 12 (d := df "_law_right" 15) rfl
  exact fnIs F (fun F => fn_ok F sc__law_right rfl (b__law_right KX G c)) (F.bindsN fun _ _ _ _ _ _ us hl => match us, hl with | [_, _, _], _ => rfl) (mglo 12 "_law_right" KX G c)
/-! ### law -/
def N_law : List Str := ["_law_script", "_law_state", "_law_turn", "_law_orders", "_law_wishes", "_law_many", "_law_turns", "_law_k", "_law_some"]
theorem sc_law : FnScope N_law ["_law_script"] (defScope (top 16)) := ⟨rfl, rfl, rfl, by decide +kernel, rfl, by decide +kernel, by decide +kernel⟩
theorem nd_law : N_law.Nodup := sc_law.nd
noncomputable def s_law : SS := (sSeq (sAsg 1 (vLst (aCons (vVar 0) (aCons (vC (.int 0)) (aCons (vC (.int 0)) (aCons (vC (.int 72)) aNil))))))
    (sSeq (sFor (iRange1 (aCons (vC (.int 4)) aNil)) (GL.gName 2) (sSeq (sAsgT (GL.gTup 2 (gsCons (GL.gName 3) (gsCons (GL.gName 4) gsNil))) (vCall [true, false, false] m__law_thrones (aCons (vVar 1) (aCons (vC (.int 6)) (aCons (vC (.int 8)) aNil)))))
    (sSeq (sAsgF 5 (vFn nLen (aCons (vVar 3) aNil)))
    (sSeq (sAsgF 6 (vLc (iRange1 (aCons (vC (.int 2)) aNil)) (GL.gName 7) cYes (vCall [true, false, false] m__law_drawn_order (aCons (vVar 1) (aCons (vLRg (aCons (vVar 5) aNil)) (aCons (vVar 5) aNil)))) [7]))
    (sFor (iSeq (vBin dAdd (vVar 6) (vSl (vVar 6) oNone (oSome (vC (.int 1)))))) (GL.gName 8) (sIf (cNot (cV (vCall [false, false, false] m__law_right (aCons (vVar 3) (aCons (vVar 4) (aCons (vVar 8) aNil)))))) (sRet (vC (.bool false))) sNx) [8])))) [2, 3, 4, 5, 6, 8])
    (sRet (vC (.bool true)))))
noncomputable def m_law : Fn := runB 9 [false] s_law
theorem b_law (KX : K.In h) (G : h.Ns mainGlobals mg) (c : He.SaysD fa fn K) (cdv : Value) (A : Around) (outer : List Env) (s : Shared) (H : Hp) (E : XK) (hr : Room 7 (A.deeper (envOfC "law" (defScope (top 16)) s.heap.objs.size (He.ga K "law") cdv))) :
    GSs (cxOf (L2.CX P w) P w K mg base N_law "law" (defScope (top 16)) (He.ga K "law") cdv A outer s H E) (defBody (top 16)) s_law :=
  (gss_cons (gs_set nd_law (i := 1) rfl (by first | exact .inl rfl | exact .inr rfl) (ge_lst (ga_cons (ge_var (pv 0)) (ga_cons ge_int (ga_cons ge_int (ga_cons ge_int ga_nil))))))
    (gss_cons (gs_for [2, 3, 4, 5, 6, 8] (passes_of rfl) rfl (gi_range1 rfl (mfree 22 "range" KX G c) (ga_cons ge_int ga_nil)) (gg_name (pg_name nd_law (i := 2) rfl (by first | exact .inl rfl | exact .inr rfl))) (gss_cons (gs_setT (ge_call (ok__law_thrones KX G c) (hr.mono (by decide)) rfl (ga_cons (ge_var (pv 1)) (ga_cons ge_int (ga_cons ge_int ga_nil)))) (gg_tup rfl (ggs_cons (gg_name (pg_name nd_law (i := 3) rfl (by first | exact .inl rfl | exact .inr rfl))) (ggs_cons (gg_name (pg_name nd_law (i := 4) rfl (by first | exact .inl rfl | exact .inr rfl))) ggs_nil))))
    (gss_cons (gs_setF nd_law (i := 5) rfl (by first | exact .inl rfl | exact .inr rfl) (ge_blt GL.cr_len does_len rfl (mfree 19 "len" KX G c) boot_len (ga_cons (ge_var (pv 3)) ga_nil)))
    (gss_cons (gs_setLcF (own := [("_law_k", 7)]) (i := 6) rfl nd_law rfl rfl (by rfl) (gi_range1 rfl (mfree 22 "range" KX G c) (ga_cons ge_int ga_nil)) (blkOk_by (by rfl)) (fun _ _ _ _ _ => (gg_name (pg_name nd_law (i := 7) rfl (by first | exact .inl rfl | exact .inr rfl)))) (fun _ _ _ _ _ => gts_nil) (fun _ _ _ _ _ => (ge_call (ok__law_drawn_order KX G c) (hr.mono (by decide)) rfl (ga_cons (ge_var (pv 1)) (ga_cons (ge_listRg rfl rfl (mfree 20 "list" KX G c) (grg_1 rfl (mfree 22 "range" KX G c) (ge_var (pv 5)))) (ga_cons (ge_var (pv 5)) ga_nil))))) (by decide))
    (gss_one (gs_for [8] (passes_of rfl) rfl (gi_seq (ge_bin op_addU does_add (ge_var (pv 6)) (ge_sl (ge_var (pv 6)) go_none (go_some ge_int)))) (gg_name (pg_name nd_law (i := 8) rfl (by first | exact .inl rfl | exact .inr rfl))) (gss_one (gs_if (gb_not (gb_val (ge_call (ok__law_right KX G c) (hr.mono (by decide)) rfl (ga_cons (ge_var (pv 3)) (ga_cons (ge_var (pv 4)) (ga_cons (ge_var (pv 8)) ga_nil)))))) (gss_one (gs_ret ge_bl)) gss_nil))))))))
    (gss_one (gs_ret ge_bl))))
theorem ok_law (KX : K.In h) (G : h.Ns mainGlobals mg) (c : He.SaysD fa fn K) : FnIs P w K mg base 8 "law" ["_law_script"] [false] m_law := by
  obtain ⟨fd, F⟩ := c.def_ 13 (d := df "law" 16) rfl
  exact fnIs F (fun F => fn_ok F sc_law rfl (b_law KX G c)) (F.bindsN fun _ _ _ _ _ _ us hl => match us, hl with | [_], _ => rfl) (mglo 13 "law" KX G c)
end
end WK

set_option Elab.async false
set_option linter.all false
set_option autoImplicit false
set_option maxRecDepth 100000
set_option maxHeartbeats 2000000
namespace WK
open PySem GL
abbrev Wish := Int × List Int
def encW (ws : List Wish) : List D := ws.map fun p => .tuple [.int p.1, .tuple (IsD p.2)]
def encO (os : List (List Int)) : List D := os.map fun o => .tuple (IsD o)
def wishedBy : List Wish → Int → List Int
  | [], _ => []
  | p :: r, w => if p.1 = w then p.2 else wishedBy r w
def pW (who : Int) : D → Option Hd
  | .tuple [.int o, .tuple ts] => if o = who then some (.pv (.tuple ts)) else none
  | _ => none
theorem pW_find (who : Int) : ∀ ws : List Wish, (encW ws).findSome? (pW who) = none ∧ wishedBy ws who = [] ∨ (encW ws).findSome? (pW who) = some (.pv (.tuple (IsD (wishedBy ws who))))
  | [] => .inl ⟨rfl, rfl⟩
  | p :: ws => by
    have e : encW (p :: ws) = .tuple [.int p.1, .tuple (IsD p.2)] :: encW ws := rfl
    rw [e, List.findSome?_cons]
    simp only [pW, wishedBy]
    by_cases q : p.1 = who
    · rw [if_pos q, if_pos q]
      exact .inr rfl
    · rw [if_neg q, if_neg q]
      exact pW_find who ws
theorem e_wished_by (ws : List Wish) (who : Int) : m_wished_by [.tuple (encW ws), .int who] = .ok (.pv (.tuple (IsD (wishedBy ws who)))) [] := by
  unfold m_wished_by s_wished_by
  have hf := forL_find (g := GL.gTup 2 (gsCons (GL.gName 2) (gsCons (GL.gName 3) gsNil))) (b := sIf (cV (vBin dEq (vVar 2) (vVar 1))) (sRet (vVar 3)) sNx) (fg := [2, 3])
    (γ0 := [.va (.tuple (encW ws)), .va (.int who), .un, .un]) (n := 4) (pW who) (encW ws) (mkG 4 [false, false] [.tuple (encW ws), .int who]) rfl fun d m => by
      obtain ⟨p, _, rfl⟩ := List.mem_map.mp m
      refine ⟨_, rfl, ?_⟩
      by_cases q : p.1 = who
      · refine .inl ⟨.pv (.tuple (IsD p.2)), [.va (.tuple (encW ws)), .va (.int who), .va (.int p.1), .va (.tuple (IsD p.2))], by simp only [pW, if_pos q], ?_, rfl⟩
        simp only [vVar, vC, vBin, vUn, vNot, vAnd, vOr, vFn, vTup, vLst, vMr, vMt, vSl, aNil, aCons, R.bind, R.bx, fin1, rs, GL.rsAll, pvs, kindD, cV, cNot, cAnd, cOr, cYes, sNx, sSeq, sIf, sExpr, sRet, sRetN, GL.putF, putA, sAsg, sAsgF, sAsgT, putT, nxO, GL.gName, gsNil, gsCons, GL.gTup, notGh, iSeq, GL.iEnum, oNone, oSome, forget, forget1, List.foldl_cons, List.foldl_nil, List.set_cons_succ, List.set_cons_zero, List.getElem?_cons_succ, List.getElem?_cons_zero, Option.bind_some, Option.map_some, List.length_cons, List.length_nil, Nat.zero_add, Nat.reduceAdd, Nat.reduceLeDiff, if_true, dEq_int, dNe_int, dNeg_one, reduceIte, q, decide_true]
      · refine .inr ⟨by simp only [pW, if_neg q], [.va (.tuple (encW ws)), .va (.int who), .va (.int p.1), .va (.tuple (IsD p.2))], ?_, rfl⟩
        simp only [vVar, vC, vBin, vUn, vNot, vAnd, vOr, vFn, vTup, vLst, vMr, vMt, vSl, aNil, aCons, R.bind, R.bx, fin1, rs, GL.rsAll, pvs, kindD, cV, cNot, cAnd, cOr, cYes, sNx, sSeq, sIf, sExpr, sRet, sRetN, GL.putF, putA, sAsg, sAsgF, sAsgT, putT, nxO, GL.gName, gsNil, gsCons, GL.gTup, notGh, iSeq, GL.iEnum, oNone, oSome, forget, forget1, List.foldl_cons, List.foldl_nil, List.set_cons_succ, List.set_cons_zero, List.getElem?_cons_succ, List.getElem?_cons_zero, Option.bind_some, Option.map_some, List.length_cons, List.length_nil, Nat.zero_add, Nat.reduceAdd, Nat.reduceLeDiff, if_true, dEq_int, dNe_int, dNeg_one, reduceIte, q, decide_false]
  have e0 : sFor (iSeq (vVar 0)) (GL.gTup 2 (gsCons (GL.gName 2) (gsCons (GL.gName 3) gsNil))) (sIf (cV (vBin dEq (vVar 2) (vVar 1))) (sRet (vVar 3)) sNx) [2, 3] (mkG 4 [false, false] [.tuple (encW ws), .int who]) =
      forL (GL.gTup 2 (gsCons (GL.gName 2) (gsCons (GL.gName 3) gsNil))) (sIf (cV (vBin dEq (vVar 2) (vVar 1))) (sRet (vVar 3)) sNx) [2, 3] (encW ws) (mkG 4 [false, false] [.tuple (encW ws), .int who]) := for_at rfl
  rcases hf with ⟨h, γ2, h1, h2, h3⟩ | ⟨h1, h2⟩
  · rcases pW_find who ws with ⟨q, _⟩ | q
    · rw [q] at h1; cases h1
    · rw [q] at h1; cases h1
      exact runB_rt (seq_rt (e0.trans h2)) (outs_no 2 γ2 (by omega))
  · rcases pW_find who ws with ⟨_, q⟩ | q
    · rw [q]
      exact runB_rt (γ := [.va (.tuple (encW ws)), .va (.int who), .un, .un]) ((seq_nx (e0.trans h2)).trans rfl) rfl
    · rw [q] at h1; cases h1
/-! ### throne_of -/
def heldAt (sh : List Int) (who : Int) : Int := if who ∈ sh then ((sh.idxOf who : Nat) : Int) else -1
def pT (who : Int) : D → Option Hd
  | .tuple [.int n, .int x] => if x = who then some (.pv (.int n)) else none
  | _ => none
theorem pT_find (who : Int) : ∀ (sh : List Int) (k : Nat), (pairsD k (IsD sh)).findSome? (pT who) = if who ∈ sh then some (.pv (.int ((k + sh.idxOf who : Nat) : Int))) else none
  | [], k => rfl
  | x :: sh, k => by
    have e : pairsD k (IsD (x :: sh)) = .tuple [.int k, .int x] :: pairsD (k + 1) (IsD sh) := rfl
    rw [e, List.findSome?_cons]
    simp only [pT]
    by_cases q : x = who
    · subst q
      rw [if_pos rfl]
      simp
    · rw [if_neg q]
      have q2 : ¬ who = x := fun z => q z.symm
      show (pairsD (k + 1) (IsD sh)).findSome? (pT who) = _
      rw [pT_find who sh (k + 1), List.idxOf_cons, beq_false_of_ne q]
      simp only [List.mem_cons, q2, false_or, cond_false]
      rw [show k + 1 + sh.idxOf who = k + (sh.idxOf who + 1) by omega]
theorem pairs_mem : ∀ (sh : List Int) (k : Nat) (d : D), d ∈ pairsD k (IsD sh) → ∃ (n : Nat) (x : Int), d = .tuple [.int n, .int x]
  | [], _, _, h => nomatch h
  | x :: sh, k, d, h => by
    rcases List.mem_cons.mp (show d ∈ PyData.tuple [.int k, .int x] :: pairsD (k + 1) (IsD sh) from h) with e | h
    · exact ⟨k, x, e⟩
    · exact pairs_mem sh (k + 1) d h
theorem e_throne_of (sh : List Int) (who : Int) : m_throne_of [.list (IsD sh), .int who] = .ok (.pv (.int (heldAt sh who))) [] := by
  unfold m_throne_of s_throne_of
  have hf := forL_find (g := GL.gTup 2 (gsCons (GL.gName 2) (gsCons (GL.gName 3) gsNil))) (b := sIf (cV (vBin dEq (vVar 3) (vVar 1))) (sRet (vVar 2)) sNx) (fg := [2, 3])
    (γ0 := [.va (.list (IsD sh)), .va (.int who), .un, .un]) (n := 4) (pT who) (pairsD 0 (IsD sh)) (mkG 4 [false, false] [.list (IsD sh), .int who]) rfl fun d m => by
      obtain ⟨n, x, rfl⟩ := pairs_mem sh 0 d m
      refine ⟨_, rfl, ?_⟩
      by_cases q : x = who
      · refine .inl ⟨.pv (.int n), [.va (.list (IsD sh)), .va (.int who), .va (.int n), .va (.int x)], by simp only [pT, if_pos q], ?_, rfl⟩
        simp only [vVar, vC, vBin, vUn, vNot, vAnd, vOr, vFn, vTup, vLst, vMr, vMt, vSl, aNil, aCons, R.bind, R.bx, fin1, rs, GL.rsAll, pvs, kindD, cV, cNot, cAnd, cOr, cYes, sNx, sSeq, sIf, sExpr, sRet, sRetN, GL.putF, putA, sAsg, sAsgF, sAsgT, putT, nxO, GL.gName, gsNil, gsCons, GL.gTup, notGh, iSeq, GL.iEnum, oNone, oSome, forget, forget1, List.foldl_cons, List.foldl_nil, List.set_cons_succ, List.set_cons_zero, List.getElem?_cons_succ, List.getElem?_cons_zero, Option.bind_some, Option.map_some, List.length_cons, List.length_nil, Nat.zero_add, Nat.reduceAdd, Nat.reduceLeDiff, if_true, dEq_int, dNe_int, dNeg_one, reduceIte, q, decide_true]
      · refine .inr ⟨by simp only [pT, if_neg q], [.va (.list (IsD sh)), .va (.int who), .va (.int n), .va (.int x)], ?_, rfl⟩
        simp only [vVar, vC, vBin, vUn, vNot, vAnd, vOr, vFn, vTup, vLst, vMr, vMt, vSl, aNil, aCons, R.bind, R.bx, fin1, rs, GL.rsAll, pvs, kindD, cV, cNot, cAnd, cOr, cYes, sNx, sSeq, sIf, sExpr, sRet, sRetN, GL.putF, putA, sAsg, sAsgF, sAsgT, putT, nxO, GL.gName, gsNil, gsCons, GL.gTup, notGh, iSeq, GL.iEnum, oNone, oSome, forget, forget1, List.foldl_cons, List.foldl_nil, List.set_cons_succ, List.set_cons_zero, List.getElem?_cons_succ, List.getElem?_cons_zero, Option.bind_some, Option.map_some, List.length_cons, List.length_nil, Nat.zero_add, Nat.reduceAdd, Nat.reduceLeDiff, if_true, dEq_int, dNe_int, dNeg_one, reduceIte, q, decide_false]
  have e0 : sFor (GL.iEnum (aCons (vVar 0) aNil)) (GL.gTup 2 (gsCons (GL.gName 2) (gsCons (GL.gName 3) gsNil))) (sIf (cV (vBin dEq (vVar 3) (vVar 1))) (sRet (vVar 2)) sNx) [2, 3] (mkG 4 [false, false] [.list (IsD sh), .int who]) =
      forL (GL.gTup 2 (gsCons (GL.gName 2) (gsCons (GL.gName 3) gsNil))) (sIf (cV (vBin dEq (vVar 3) (vVar 1))) (sRet (vVar 2)) sNx) [2, 3] (pairsD 0 (IsD sh)) (mkG 4 [false, false] [.list (IsD sh), .int who]) := for_at rfl
  have hp := pT_find who sh 0
  rw [Nat.zero_add] at hp
  unfold heldAt
  rcases hf with ⟨h, γ2, h1, h2, h3⟩ | ⟨h1, h2⟩
  · rw [hp] at h1
    split at h1
    · rename_i q
      cases h1
      rw [if_pos q]
      exact runB_rt (seq_rt (e0.trans h2)) (outs_no 2 γ2 (by omega))
    · cases h1
  · rw [hp] at h1
    split at h1
    · cases h1
    · rename_i q
      rw [if_neg q]
      exact runB_rt (γ := [.va (.list (IsD sh)), .va (.int who), .un, .un]) ((seq_nx (e0.trans h2)).trans rfl) rfl
/-! ### would_take -/
theorem negOne {γ : List Sl} : vUn dNeg (vC (.int 1)) γ = .ok (.pv (.int (-1))) γ := rfl
theorem e_would_take (ws : List Wish) (who t held : Int) (hh : t ∈ wishedBy ws who → held = -1 ∨ held ∈ wishedBy ws who) :
    m_would_take [.tuple (encW ws), .int who, .int t, .int held] = .ok (.pv (.bool (decide (t ∈ wishedBy ws who) && (decide (held = -1) || decide ((wishedBy ws who).idxOf t < (wishedBy ws who).idxOf held))))) [] := by
  unfold m_would_take s_would_take
  generalize hw : wishedBy ws who = wd at *
  have e1 : sAsgF 4 (vCall [false, false] m_wished_by (aCons (vVar 0) (aCons (vVar 1) aNil))) (mkG 5 [false, false, false, false] [.tuple (encW ws), .int who, .int t, .int held]) =
      .ok .nx [.va (.tuple (encW ws)), .va (.int who), .va (.int t), .va (.int held), .va (.tuple (IsD wd))] := by
    exact (asgF_pv (call_pv rfl rfl rfl (by rw [← hw]; exact e_wished_by ws who) (.inl rfl)) rfl).trans rfl
  refine runB_rt (γ := [.va (.tuple (encW ws)), .va (.int who), .va (.int t), .va (.int held), .va (.tuple (IsD wd))]) ((seq_nx e1).trans ?_) rfl
  by_cases q : t ∈ wd
  · by_cases q2 : held = -1
    · subst q2
      simp only [vVar, vC, vBin, vUn, vNot, vAnd, vOr, vFn, vTup, vLst, vMr, vMt, vSl, aNil, aCons, R.bind, R.bx, fin1, rs, GL.rsAll, pvs, kindD, cV, cNot, cAnd, cOr, cYes, sNx, sSeq, sIf, sExpr, sRet, sRetN, GL.putF, putA, sAsg, sAsgF, sAsgT, putT, nxO, GL.gName, gsNil, gsCons, GL.gTup, notGh, iSeq, GL.iEnum, oNone, oSome, forget, forget1, List.foldl_cons, List.foldl_nil, List.set_cons_succ, List.set_cons_zero, List.getElem?_cons_succ, List.getElem?_cons_zero, Option.bind_some, Option.map_some, List.length_cons, List.length_nil, Nat.zero_add, Nat.reduceAdd, Nat.reduceLeDiff, if_true, dEq_int, dNe_int, dNeg_one, reduceIte, dIn_tupI, q, decide_true, Bool.true_and, Bool.true_or]
    · have q3 := (hh q).resolve_left q2
      simp only [vVar, vC, vBin, vUn, vNot, vAnd, vOr, vFn, vTup, vLst, vMr, vMt, vSl, aNil, aCons, R.bind, R.bx, fin1, rs, GL.rsAll, pvs, kindD, cV, cNot, cAnd, cOr, cYes, sNx, sSeq, sIf, sExpr, sRet, sRetN, GL.putF, putA, sAsg, sAsgF, sAsgT, putT, nxO, GL.gName, gsNil, gsCons, GL.gTup, notGh, iSeq, GL.iEnum, oNone, oSome, forget, forget1, List.foldl_cons, List.foldl_nil, List.set_cons_succ, List.set_cons_zero, List.getElem?_cons_succ, List.getElem?_cons_zero, Option.bind_some, Option.map_some, List.length_cons, List.length_nil, Nat.zero_add, Nat.reduceAdd, Nat.reduceLeDiff, if_true, dEq_int, dNe_int, dNeg_one, reduceIte, dIn_tupI, q, decide_true, decide_false, q2, Bool.true_and, Bool.false_or, nIndexT_ints q, nIndexT_ints q3, dCmp]
      simp
  · simp only [vVar, vC, vBin, vUn, vNot, vAnd, vOr, vFn, vTup, vLst, vMr, vMt, vSl, aNil, aCons, R.bind, R.bx, fin1, rs, GL.rsAll, pvs, kindD, cV, cNot, cAnd, cOr, cYes, sNx, sSeq, sIf, sExpr, sRet, sRetN, GL.putF, putA, sAsg, sAsgF, sAsgT, putT, nxO, GL.gName, gsNil, gsCons, GL.gTup, notGh, iSeq, GL.iEnum, oNone, oSome, forget, forget1, List.foldl_cons, List.foldl_nil, List.set_cons_succ, List.set_cons_zero, List.getElem?_cons_succ, List.getElem?_cons_zero, Option.bind_some, Option.map_some, List.length_cons, List.length_nil, Nat.zero_add, Nat.reduceAdd, Nat.reduceLeDiff, if_true, dEq_int, dNe_int, dNeg_one, reduceIte, dIn_tupI, q, decide_false, Bool.false_and]
/-! ### next_throne -/
def natI (ts : List Nat) : List Int := ts.map fun t => ((t : Nat) : Int)
def freeT (os : List (List Int)) (sh : List Int) (as : List Nat) (t : Nat) : Bool := decide (sh.getD t 0 = -1) && decide (as.getD t 0 < (os.getD t []).length)
def nextT (os : List (List Int)) (turn : List Nat) (sh : List Int) (as : List Nat) : Option Nat := turn.find? (freeT os sh as)
def pN (os : List (List Int)) (sh : List Int) (as : List Nat) : D → Option Hd
  | .int t => if freeT os sh as t.toNat = true then some (.pv (.int t)) else none
  | _ => none
theorem pN_find (os : List (List Int)) (sh : List Int) (as : List Nat) : ∀ turn : List Nat, (IsD (natI turn)).findSome? (pN os sh as) = (nextT os turn sh as).map fun t => .pv (.int ((t : Nat) : Int))
  | [] => rfl
  | t :: turn => by
    have e : IsD (natI (t :: turn)) = .int ((t : Nat) : Int) :: IsD (natI turn) := rfl
    rw [e, List.findSome?_cons]
    unfold nextT
    rw [List.find?_cons]
    simp only [pN, Int.toNat_natCast]
    by_cases q : freeT os sh as t = true
    · rw [if_pos q, q]
      rfl
    · rw [if_neg q, (Bool.not_eq_true _).mp q]
      exact pN_find os sh as turn
theorem getD_some {α : Type} {xs : List α} {i : Nat} {d : α} (h : i < xs.length) : xs[i]? = some (xs.getD i d) := by
  rw [List.getD_eq_getElem?_getD, List.getElem?_eq_getElem h]
  rfl
theorem IsD_get {xs : List Int} {i : Nat} (h : i < xs.length) : (IsD xs)[i]? = some (.int (xs.getD i 0)) := by
  rw [List.getElem?_map, getD_some (d := 0) h]
  rfl
theorem encO_get {os : List (List Int)} {i : Nat} (h : i < os.length) : (encO os)[i]? = some (.tuple (IsD (os.getD i []))) := by
  unfold encO
  rw [List.getElem?_map, getD_some (d := []) h]
  rfl
theorem natI_get {xs : List Nat} {i : Nat} (h : i < xs.length) : (IsD (natI xs))[i]? = some (.int ((xs.getD i 0 : Nat) : Int)) := by
  show (List.map PyData.int (List.map (fun t : Nat => ((t : Nat) : Int)) xs))[i]? = _
  rw [List.map_map, List.getElem?_map, getD_some (d := 0) h]
  rfl
theorem nLen_tupI (xs : List Int) : nLen [.tuple (IsD xs)] = some (.pv (.int (xs.length : Nat))) := by
  simp only [nLen, List.length_map]
def seqD (tp : Bool) (ds : List D) : D := if tp then .tuple ds else .list ds
theorem e_next_throne {os : List (List Int)} {turn : List Nat} {sh : List Int} {as : List Nat} (tp : Bool) (h1 : ∀ t ∈ turn, t < os.length) (h2 : sh.length = os.length) (h3 : as.length = os.length) :
    m_next_throne [.tuple (encO os), seqD tp (IsD (natI turn)), .list (IsD sh), .list (IsD (natI as))] = .ok (.pv (.int (match nextT os turn sh as with | some t => ((t : Nat) : Int) | none => -1))) [] := by
  unfold m_next_throne s_next_throne
  have hf := forL_find (g := GL.gName 4) (b := sIf (cAnd (cV (vBin dEq (vBin dIx (vVar 2) (vVar 4)) (vUn dNeg (vC (.int 1))))) (cV (vBin dLt (vBin dIx (vVar 3) (vVar 4)) (vFn nLen (aCons (vBin dIx (vVar 0) (vVar 4)) aNil))))) (sRet (vVar 4)) sNx) (fg := [4])
    (γ0 := [.va (.tuple (encO os)), .va (seqD tp (IsD (natI turn))), .va (.list (IsD sh)), .va (.list (IsD (natI as))), .un]) (n := 5) (pN os sh as) (IsD (natI turn)) (mkG 5 [false, false, false, false] [.tuple (encO os), seqD tp (IsD (natI turn)), .list (IsD sh), .list (IsD (natI as))]) rfl fun d m => by
      obtain ⟨i, mi, rfl⟩ := List.mem_map.mp m
      obtain ⟨t, mt, rfl⟩ := List.mem_map.mp mi
      have ht := h1 t mt
      refine ⟨_, rfl, ?_⟩
      have a1 := dIx_lst (IsD_get (xs := sh) (i := t) (by omega))
      have a2 := dIx_lst (natI_get (xs := as) (i := t) (by omega))
      have a3 := dIx_tup (encO_get ht)
      have hc : cAnd (cV (vBin dEq (vBin dIx (vVar 2) (vVar 4)) (vUn dNeg (vC (.int 1))))) (cV (vBin dLt (vBin dIx (vVar 3) (vVar 4)) (vFn nLen (aCons (vBin dIx (vVar 0) (vVar 4)) aNil)))) ([.va (.tuple (encO os)), .va (seqD tp (IsD (natI turn))), .va (.list (IsD sh)), .va (.list (IsD (natI as))), .va (.int ((t : Nat) : Int))]) =
          .ok (freeT os sh as t) ([.va (.tuple (encO os)), .va (seqD tp (IsD (natI turn))), .va (.list (IsD sh)), .va (.list (IsD (natI as))), .va (.int ((t : Nat) : Int))]) := by
        unfold freeT
        by_cases q : sh.getD t 0 = -1
        · simp only [vVar, vC, vBin, vUn, vNot, vAnd, vOr, vFn, vTup, vLst, vMr, vMt, vSl, aNil, aCons, R.bind, R.bx, fin1, rs, GL.rsAll, pvs, kindD, cV, cNot, cAnd, cOr, cYes, sNx, sSeq, sIf, sExpr, sRet, sRetN, GL.putF, putA, sAsg, sAsgF, sAsgT, putT, nxO, GL.gName, gsNil, gsCons, GL.gTup, notGh, iSeq, GL.iEnum, oNone, oSome, forget, forget1, List.foldl_cons, List.foldl_nil, List.set_cons_succ, List.set_cons_zero, List.getElem?_cons_succ, List.getElem?_cons_zero, Option.bind_some, Option.map_some, List.length_cons, List.length_nil, Nat.zero_add, Nat.reduceAdd, Nat.reduceLeDiff, if_true, dEq_int, dNe_int, dNeg_one, reduceIte, a1, a2, a3, q, decide_true, nLen_tupI, dCmp, Bool.true_and]
          simp
        · simp only [vVar, vC, vBin, vUn, vNot, vAnd, vOr, vFn, vTup, vLst, vMr, vMt, vSl, aNil, aCons, R.bind, R.bx, fin1, rs, GL.rsAll, pvs, kindD, cV, cNot, cAnd, cOr, cYes, sNx, sSeq, sIf, sExpr, sRet, sRetN, GL.putF, putA, sAsg, sAsgF, sAsgT, putT, nxO, GL.gName, gsNil, gsCons, GL.gTup, notGh, iSeq, GL.iEnum, oNone, oSome, forget, forget1, List.foldl_cons, List.foldl_nil, List.set_cons_succ, List.set_cons_zero, List.getElem?_cons_succ, List.getElem?_cons_zero, Option.bind_some, Option.map_some, List.length_cons, List.length_nil, Nat.zero_add, Nat.reduceAdd, Nat.reduceLeDiff, if_true, dEq_int, dNe_int, dNeg_one, reduceIte, a1, q, decide_false, Bool.false_and]
      by_cases q : freeT os sh as t = true
      · refine .inl ⟨.pv (.int ((t : Nat) : Int)), [.va (.tuple (encO os)), .va (seqD tp (IsD (natI turn))), .va (.list (IsD sh)), .va (.list (IsD (natI as))), .va (.int ((t : Nat) : Int))], by simp only [pN, Int.toNat_natCast, if_pos q], ?_, rfl⟩
        rw [q] at hc
        exact (if_tt hc).trans rfl
      · refine .inr ⟨by simp only [pN, Int.toNat_natCast, if_neg q], [.va (.tuple (encO os)), .va (seqD tp (IsD (natI turn))), .va (.list (IsD sh)), .va (.list (IsD (natI as))), .va (.int ((t : Nat) : Int))], ?_, rfl⟩
        rw [(Bool.not_eq_true _).mp q] at hc
        exact (if_ff hc).trans rfl
  have e0 : sFor (iSeq (vVar 1)) (GL.gName 4) (sIf (cAnd (cV (vBin dEq (vBin dIx (vVar 2) (vVar 4)) (vUn dNeg (vC (.int 1))))) (cV (vBin dLt (vBin dIx (vVar 3) (vVar 4)) (vFn nLen (aCons (vBin dIx (vVar 0) (vVar 4)) aNil))))) (sRet (vVar 4)) sNx) [4] (mkG 5 [false, false, false, false] [.tuple (encO os), seqD tp (IsD (natI turn)), .list (IsD sh), .list (IsD (natI as))]) =
      forL (GL.gName 4) (sIf (cAnd (cV (vBin dEq (vBin dIx (vVar 2) (vVar 4)) (vUn dNeg (vC (.int 1))))) (cV (vBin dLt (vBin dIx (vVar 3) (vVar 4)) (vFn nLen (aCons (vBin dIx (vVar 0) (vVar 4)) aNil))))) (sRet (vVar 4)) sNx) [4] (IsD (natI turn)) (mkG 5 [false, false, false, false] [.tuple (encO os), seqD tp (IsD (natI turn)), .list (IsD sh), .list (IsD (natI as))]) := for_at (by cases tp <;> rfl)
  have hp := pN_find os sh as turn
  rcases hf with ⟨h, γ2, k1, k2, k3⟩ | ⟨k1, k2⟩
  · rw [hp] at k1
    cases q : nextT os turn sh as with
    | none => rw [q] at k1; cases k1
    | some t =>
      rw [q] at k1
      cases k1
      exact runB_rt (seq_rt (e0.trans k2)) (outs_no 4 γ2 (by omega))
  · rw [hp] at k1
    cases q : nextT os turn sh as with
    | some t => rw [q] at k1; cases k1
    | none => exact runB_rt (γ := [.va (.tuple (encO os)), .va (seqD tp (IsD (natI turn))), .va (.list (IsD sh)), .va (.list (IsD (natI as))), .un]) ((seq_nx (e0.trans k2)).trans rfl) rfl
/-! ### answer_of -/
def answerW (ws : List Wish) (sh : List Int) (t : Nat) (who : Int) : Str × List Int :=
  if ((t : Nat) : Int) ∈ wishedBy ws who ∧ (who ∉ sh ∨ (wishedBy ws who).idxOf ((t : Nat) : Int) < (wishedBy ws who).idxOf ((sh.idxOf who : Nat) : Int)) then
    (if who ∈ sh then ("turns", (sh.set t who).set (sh.idxOf who) (-1)) else ("takes", sh.set t who))
  else ("no", sh)
theorem IsD_set (sh : List Int) (t : Nat) (x : Int) : (IsD sh).set t (.int x) = IsD (sh.set t x) := by
  show (List.map PyData.int sh).set t (.int x) = List.map PyData.int (sh.set t x)
  rw [List.map_set]
theorem held_no {sh : List Int} {who : Int} (h : who ∉ sh) : heldAt sh who = -1 := by unfold heldAt; rw [if_neg h]
theorem held_yes {sh : List Int} {who : Int} (h : who ∈ sh) : heldAt sh who = ((sh.idxOf who : Nat) : Int) ∧ ¬ heldAt sh who = -1 := by
  unfold heldAt
  rw [if_pos h]
  exact ⟨rfl, by omega⟩
theorem e_answer_of {ws : List Wish} {sh : List Int} {t : Nat} {who : Int} (hw : who ∈ sh → ((sh.idxOf who : Nat) : Int) ∈ wishedBy ws who) (ht : t < sh.length) :
    m_answer_of [.tuple (encW ws), .list (IsD sh), .int ((t : Nat) : Int), .int who] = .ok (.pv (.str (answerW ws sh t who).1)) [.list (IsD (answerW ws sh t who).2)] := by
  unfold m_answer_of s_answer_of
  have e1 : sAsgF 4 (vCall [false, false] m_throne_of (aCons (vVar 1) (aCons (vVar 3) aNil))) (mkG 5 [false, true, false, false] [.tuple (encW ws), .list (IsD sh), .int ((t : Nat) : Int), .int who]) =
      .ok .nx [.va (.tuple (encW ws)), .ce true (.list (IsD sh)), .va (.int ((t : Nat) : Int)), .va (.int who), .va (.int (heldAt sh who))] :=
    (asgF_pv (call_pv rfl rfl rfl (e_throne_of sh who) (.inr rfl)) rfl).trans rfl
  have hh : ((t : Nat) : Int) ∈ wishedBy ws who → heldAt sh who = -1 ∨ heldAt sh who ∈ wishedBy ws who := fun _ => by
    by_cases q : who ∈ sh
    · rw [(held_yes q).1]
      exact .inr (hw q)
    · exact .inl (held_no q)
  have e2 : cNot (cV (vCall [false, false, false, false] m_would_take (aCons (vVar 0) (aCons (vVar 3) (aCons (vVar 2) (aCons (vVar 4) aNil)))))) [.va (.tuple (encW ws)), .ce true (.list (IsD sh)), .va (.int ((t : Nat) : Int)), .va (.int who), .va (.int (heldAt sh who))] =
      .ok (!(decide (((t : Nat) : Int) ∈ wishedBy ws who) && (decide (heldAt sh who = -1) || decide ((wishedBy ws who).idxOf ((t : Nat) : Int) < (wishedBy ws who).idxOf (heldAt sh who))))) [.va (.tuple (encW ws)), .ce true (.list (IsD sh)), .va (.int ((t : Nat) : Int)), .va (.int who), .va (.int (heldAt sh who))] :=
    cNot_at (cV_at (call_pv rfl rfl rfl (e_would_take ws who _ _ hh) (.inl rfl)))
  have em : L2.ixN (IsD sh).length ((t : Nat) : Int) = some t := by rw [List.length_map]; exact ixN_nat ht
  have e3 : sSub (vVar 3) (vVar 1) (vVar 2) [.va (.tuple (encW ws)), .ce true (.list (IsD sh)), .va (.int ((t : Nat) : Int)), .va (.int who), .va (.int (heldAt sh who))] =
      .ok .nx [.va (.tuple (encW ws)), .ce true (.list (IsD (sh.set t who))), .va (.int ((t : Nat) : Int)), .va (.int who), .va (.int (heldAt sh who))] := by
    exact (sub_at rfl rfl rfl rfl rfl em).trans (by rw [IsD_set]; rfl)
  by_cases q : who ∈ sh
  · obtain ⟨q1, q2⟩ := held_yes q
    by_cases c : ((t : Nat) : Int) ∈ wishedBy ws who ∧ (who ∉ sh ∨ (wishedBy ws who).idxOf ((t : Nat) : Int) < (wishedBy ws who).idxOf ((sh.idxOf who : Nat) : Int))
    · have c2 := c.2.resolve_left fun z => z q
      have ea : answerW ws sh t who = (("turns" : Str), (sh.set t who).set (sh.idxOf who) (-1)) := by unfold answerW; rw [if_pos c, if_pos q]
      rw [ea]
      rw [decide_eq_true c.1, decide_eq_false q2, q1, decide_eq_true c2] at e2
      rw [q1] at e1 e3
      have hi : sh.idxOf who < sh.length := List.idxOf_lt_length_iff.mpr q
      have e4 : cV (vBin dEq (vVar 4) (vUn dNeg (vC (.int 1)))) [.va (.tuple (encW ws)), .ce true (.list (IsD (sh.set t who))), .va (.int ((t : Nat) : Int)), .va (.int who), .va (.int ((sh.idxOf who : Nat) : Int))] = .ok false [.va (.tuple (encW ws)), .ce true (.list (IsD (sh.set t who))), .va (.int ((t : Nat) : Int)), .va (.int who), .va (.int ((sh.idxOf who : Nat) : Int))] := by
        rw [q1] at q2
        simp only [vVar, vC, vBin, vUn, vNot, vAnd, vOr, vFn, vTup, vLst, vMr, vMt, vSl, aNil, aCons, R.bind, R.bx, fin1, rs, GL.rsAll, pvs, kindD, cV, cNot, cAnd, cOr, cYes, sNx, sSeq, sIf, sExpr, sRet, sRetN, GL.putF, putA, sAsg, sAsgF, sAsgT, putT, nxO, GL.gName, gsNil, gsCons, GL.gTup, notGh, iSeq, GL.iEnum, oNone, oSome, forget, forget1, List.foldl_cons, List.foldl_nil, List.set_cons_succ, List.set_cons_zero, List.getElem?_cons_succ, List.getElem?_cons_zero, Option.bind_some, Option.map_some, List.length_cons, List.length_nil, Nat.zero_add, Nat.reduceAdd, Nat.reduceLeDiff, if_true, dEq_int, dNe_int, dNeg_one, reduceIte, decide_eq_false q2]
      have em2 : L2.ixN (IsD (sh.set t who)).length ((sh.idxOf who : Nat) : Int) = some (sh.idxOf who) := by rw [List.length_map, List.length_set]; exact ixN_nat hi
      have e5 : sSub (vUn dNeg (vC (.int 1))) (vVar 1) (vVar 4) [.va (.tuple (encW ws)), .ce true (.list (IsD (sh.set t who))), .va (.int ((t : Nat) : Int)), .va (.int who), .va (.int ((sh.idxOf who : Nat) : Int))] =
          .ok .nx [.va (.tuple (encW ws)), .ce true (.list (IsD ((sh.set t who).set (sh.idxOf who) (-1)))), .va (.int ((t : Nat) : Int)), .va (.int who), .va (.int ((sh.idxOf who : Nat) : Int))] := by
        exact (sub_at rfl rfl rfl rfl rfl em2).trans (by rw [IsD_set]; rfl)
      exact runB_rt (((seq_nx e1).trans (seq_nx ((if_ff e2).trans rfl))).trans ((seq_nx e3).trans ((seq_nx ((if_ff e4).trans rfl)).trans ((seq_nx e5).trans rfl)))) rfl
    · have ea : answerW ws sh t who = (("no" : Str), sh) := by unfold answerW; rw [if_neg c]
      rw [ea]
      have eb : (decide (((t : Nat) : Int) ∈ wishedBy ws who) && (decide (heldAt sh who = -1) || decide ((wishedBy ws who).idxOf ((t : Nat) : Int) < (wishedBy ws who).idxOf (heldAt sh who)))) = false := by
        rw [decide_eq_false q2, q1]
        by_cases z : ((t : Nat) : Int) ∈ wishedBy ws who
        · have : ¬ (wishedBy ws who).idxOf ((t : Nat) : Int) < (wishedBy ws who).idxOf ((sh.idxOf who : Nat) : Int) := fun y => c ⟨z, .inr y⟩
          rw [decide_eq_false this]
          simp
        · rw [decide_eq_false z]
          rfl
      rw [eb] at e2
      exact runB_rt ((seq_nx e1).trans (seq_rt ((if_tt e2).trans rfl))) rfl
  · have q1 := held_no q
    by_cases c : ((t : Nat) : Int) ∈ wishedBy ws who
    · have ea : answerW ws sh t who = (("takes" : Str), sh.set t who) := by unfold answerW; rw [if_pos ⟨c, .inl q⟩, if_neg q]
      rw [ea]
      rw [decide_eq_true c, decide_eq_true q1] at e2
      have e4 : cV (vBin dEq (vVar 4) (vUn dNeg (vC (.int 1)))) [.va (.tuple (encW ws)), .ce true (.list (IsD (sh.set t who))), .va (.int ((t : Nat) : Int)), .va (.int who), .va (.int (heldAt sh who))] = .ok true [.va (.tuple (encW ws)), .ce true (.list (IsD (sh.set t who))), .va (.int ((t : Nat) : Int)), .va (.int who), .va (.int (heldAt sh who))] := by
        simp only [vVar, vC, vBin, vUn, vNot, vAnd, vOr, vFn, vTup, vLst, vMr, vMt, vSl, aNil, aCons, R.bind, R.bx, fin1, rs, GL.rsAll, pvs, kindD, cV, cNot, cAnd, cOr, cYes, sNx, sSeq, sIf, sExpr, sRet, sRetN, GL.putF, putA, sAsg, sAsgF, sAsgT, putT, nxO, GL.gName, gsNil, gsCons, GL.gTup, notGh, iSeq, GL.iEnum, oNone, oSome, forget, forget1, List.foldl_cons, List.foldl_nil, List.set_cons_succ, List.set_cons_zero, List.getElem?_cons_succ, List.getElem?_cons_zero, Option.bind_some, Option.map_some, List.length_cons, List.length_nil, Nat.zero_add, Nat.reduceAdd, Nat.reduceLeDiff, if_true, dEq_int, dNe_int, dNeg_one, reduceIte, decide_eq_true q1]
      exact runB_rt (((seq_nx e1).trans (seq_nx ((if_ff e2).trans rfl))).trans ((seq_nx e3).trans (seq_rt ((if_tt e4).trans rfl)))) rfl
    · have ea : answerW ws sh t who = (("no" : Str), sh) := by unfold answerW; rw [if_neg fun z => c z.1]
      rw [ea]
      rw [decide_eq_false c] at e2
      exact runB_rt ((seq_nx e1).trans (seq_rt ((if_tt e2).trans rfl))) rfl
end WK

set_option Elab.async false
set_option linter.all false
set_option autoImplicit false
set_option maxRecDepth 100000
set_option maxHeartbeats 2000000
namespace WK
open PySem GL
/-! ### one asking -/
structure PSt where
  sh : List Int
  as : List Nat
  ak : List D
def whoT (os : List (List Int)) (s : PSt) (t : Nat) : Int := (os.getD t []).getD (s.as.getD t 0) 0
def tryT (os : List (List Int)) (ws : List Wish) (s : PSt) (t : Nat) : PSt :=
  ⟨(answerW ws s.sh t (whoT os s t)).2, s.as.set t (s.as.getD t 0 + 1), s.ak ++ [.tuple [.int ((t : Nat) : Int), .int (whoT os s t), .str (answerW ws s.sh t (whoT os s t)).1]]⟩
def stepP (os : List (List Int)) (ws : List Wish) (turn : List Nat) (s : PSt) : Option PSt := (nextT os turn s.sh s.as).map (tryT os ws s)
inductive Reach (os : List (List Int)) (ws : List Wish) (turn : List Nat) (a : PSt) : PSt → Prop
  | refl : Reach os ws turn a a
  | snoc {b c : PSt} : Reach os ws turn a b → stepP os ws turn b = some c → Reach os ws turn a c
section
variable {os : List (List Int)} {ws : List Wish} {turn : List Nat}
theorem reach_cons {a b c : PSt} (e : stepP os ws turn a = some b) (h : Reach os ws turn b c) : Reach os ws turn a c := by
  induction h with
  | refl => exact .snoc .refl e
  | snoc _ e2 ih => exact .snoc ih e2
theorem reach_cmp {a b c : PSt} (h1 : Reach os ws turn a b) (h2 : Reach os ws turn a c) : Reach os ws turn b c ∨ Reach os ws turn c b := by
  induction h1 with
  | refl => exact .inl h2
  | @snoc b1 b2 _ e ih =>
    rcases ih with h | h
    · -- from b1 to c
      have go : ∀ {x y : PSt}, Reach os ws turn x y → x = y ∨ ∃ z, stepP os ws turn x = some z ∧ Reach os ws turn z y := by
        intro x y h
        induction h with
        | refl => exact .inl rfl
        | snoc _ e2 ih =>
          rcases ih with rfl | ⟨z, ez, hz⟩
          · exact .inr ⟨_, e2, .refl⟩
          · exact .inr ⟨z, ez, .snoc hz e2⟩
      rcases go h with rfl | ⟨z, ez, hz⟩
      · exact .inr (.snoc .refl e)
      · rw [e] at ez
        cases ez
        exact .inl hz
    · exact .inr (.snoc h e)
theorem reach_none {a b c : PSt} (h1 : Reach os ws turn a b) (n1 : stepP os ws turn b = none) (h2 : Reach os ws turn a c) (n2 : stepP os ws turn c = none) : b = c := by
  have go : ∀ {x y : PSt}, stepP os ws turn x = none → Reach os ws turn x y → x = y := by
    intro x y n h
    induction h with
    | refl => rfl
    | snoc _ e2 ih =>
      cases ih
      rw [n] at e2
      cases e2
  rcases reach_cmp h1 h2 with h | h
  · exact go n1 h
  · exact (go n2 h).symm
/-! ### what stays true -/
structure Okd (os : List (List Int)) (turn : List Nat) : Prop where
  tl : ∀ t ∈ turn, t < os.length
  wn : ∀ o ∈ os, ∀ w ∈ o, w ≠ -1
  sm : (os.map List.length).sum ≤ 1000
structure Good (os : List (List Int)) (ws : List Wish) (s : PSt) : Prop where
  l1 : s.sh.length = os.length
  l2 : s.as.length = os.length
  le : ∀ t, t < os.length → s.as.getD t 0 ≤ (os.getD t []).length
  ak : s.ak.length = s.as.sum
  wi : ∀ t, t < os.length → s.sh.getD t 0 ≠ -1 → ((t : Nat) : Int) ∈ wishedBy ws (s.sh.getD t 0)
def PSt.start (os : List (List Int)) : PSt := ⟨List.replicate os.length (-1), List.replicate os.length 0, []⟩
theorem sum_zero : ∀ n : Nat, (List.replicate n 0).sum = 0
  | 0 => rfl
  | n + 1 => by rw [List.replicate_succ, List.sum_cons, sum_zero n]
theorem getD_rep {α : Type} {n t : Nat} {x d : α} (h : t < n) : (List.replicate n x).getD t d = x := by
  rw [List.getD_eq_getElem?_getD, List.getElem?_replicate, if_pos h]
  rfl
theorem good_start : Good os ws (PSt.start os) where
  l1 := by simp [PSt.start]
  l2 := by simp [PSt.start]
  le := fun t h => by
    show (List.replicate os.length 0).getD t 0 ≤ _
    rw [getD_rep h]
    exact Nat.zero_le _
  ak := by
    show 0 = (List.replicate os.length 0).sum
    rw [sum_zero]
  wi := fun t h n => by
    have e : (PSt.start os).sh.getD t 0 = -1 := getD_rep h
    exact absurd e n
theorem sum_le : ∀ (as : List Nat) (os : List (List Int)), as.length = os.length → (∀ t, t < os.length → as.getD t 0 ≤ (os.getD t []).length) → as.sum ≤ (os.map List.length).sum
  | [], [], _, _ => Nat.le_refl _
  | a :: as, o :: os, hl, h => by
    have h0 := h 0 (Nat.succ_pos _)
    have ih := sum_le as os (by simpa using hl) fun t ht => h (t + 1) (Nat.succ_lt_succ ht)
    rw [List.map_cons, List.sum_cons, List.sum_cons]
    have h0 : a ≤ o.length := h0
    omega
  | [], _ :: _, h, _ => by simp at h
  | _ :: _, [], h, _ => by simp at h
theorem sum_set : ∀ (as : List Nat) (t : Nat), t < as.length → (as.set t (as.getD t 0 + 1)).sum = as.sum + 1
  | a :: as, 0, _ => by
    show (a + 1) + as.sum = a + as.sum + 1
    omega
  | a :: as, t + 1, h => by
    have ih := sum_set as t (by simpa using h)
    show a + (as.set t (as.getD t 0 + 1)).sum = a + as.sum + 1
    omega
theorem nextT_some {t : Nat} {s : PSt} (h : nextT os turn s.sh s.as = some t) : t ∈ turn ∧ s.sh.getD t 0 = -1 ∧ s.as.getD t 0 < (os.getD t []).length := by
  have h1 := List.find?_some h
  have h2 := List.mem_of_find?_eq_some h
  unfold freeT at h1
  simp only [Bool.and_eq_true, decide_eq_true_eq] at h1
  exact ⟨h2, h1⟩
theorem getD_mem {α : Type} {xs : List α} {t : Nat} {d : α} (h : t < xs.length) : xs.getD t d ∈ xs := by
  rw [List.getD_eq_getElem?_getD, List.getElem?_eq_getElem h]
  exact List.getElem_mem h
theorem idx_getD {sh : List Int} {who : Int} (h : who ∈ sh) : sh.idxOf who < sh.length ∧ sh.getD (sh.idxOf who) 0 = who := by
  have hl := List.idxOf_lt_length_iff.mpr h
  refine ⟨hl, ?_⟩
  rw [List.getD_eq_getElem?_getD, List.getElem?_eq_getElem hl]
  exact List.getElem_idxOf hl
theorem good_wish {s : PSt} (g : Good os ws s) {who : Int} (hw : who ≠ -1) : who ∈ s.sh → ((s.sh.idxOf who : Nat) : Int) ∈ wishedBy ws who := fun m => by
  obtain ⟨h1, h2⟩ := idx_getD m
  have := g.wi (s.sh.idxOf who) (by rw [← g.l1]; exact h1) (by rw [h2]; exact hw)
  rwa [h2] at this
theorem good_step (ok : Okd os turn) {s : PSt} (g : Good os ws s) {t : Nat} (h : nextT os turn s.sh s.as = some t) : t < os.length ∧ whoT os s t ≠ -1 ∧ Good os ws (tryT os ws s t) := by
  obtain ⟨h1, h2, h3⟩ := nextT_some h
  have ht := ok.tl t h1
  have hw : whoT os s t ≠ -1 := ok.wn _ (getD_mem ht) _ (getD_mem h3)
  have lsh : (answerW ws s.sh t (whoT os s t)).2.length = s.sh.length := by
    unfold answerW
    split
    · split <;> simp
    · rfl
  refine ⟨ht, hw, ⟨lsh.trans g.l1, ?_, fun j hj => ?_, ?_, fun j hj n => ?_⟩⟩
  · show (s.as.set t _).length = _
    rw [List.length_set, g.l2]
  · show (s.as.set t (s.as.getD t 0 + 1)).getD j 0 ≤ _
    rw [getD_set]
    split
    · rename_i c
      rw [c.1]
      exact h3
    · exact g.le j hj
  · show (s.ak ++ [_]).length = (s.as.set t (s.as.getD t 0 + 1)).sum
    rw [List.length_append, sum_set _ _ (by rw [g.l2]; exact ht), g.ak]
    rfl
  · -- who sits where
    have key : ∀ (sh : List Int), (∀ i, i < os.length → sh.getD i 0 ≠ -1 → ((i : Nat) : Int) ∈ wishedBy ws (sh.getD i 0)) → ((t : Nat) : Int) ∈ wishedBy ws (whoT os s t) → ∀ i, i < os.length → (sh.set t (whoT os s t)).getD i 0 ≠ -1 → ((i : Nat) : Int) ∈ wishedBy ws ((sh.set t (whoT os s t)).getD i 0) := fun sh hs hm i hi ni => by
      rw [getD_set] at ni ⊢
      split
      · rename_i c
        rw [c.1]
        exact hm
      · rename_i c
        rw [if_neg c] at ni
        exact hs i hi ni
    have n : (answerW ws s.sh t (whoT os s t)).2.getD j 0 ≠ -1 := n
    show ((j : Nat) : Int) ∈ wishedBy ws ((answerW ws s.sh t (whoT os s t)).2.getD j 0)
    unfold answerW at n ⊢
    split
    · rename_i c
      rw [if_pos c] at n
      split
      · rename_i c2
        rw [if_pos c2] at n
        have n : ((s.sh.set t (whoT os s t)).set (s.sh.idxOf (whoT os s t)) (-1)).getD j 0 ≠ -1 := n
        show ((j : Nat) : Int) ∈ wishedBy ws (((s.sh.set t (whoT os s t)).set (s.sh.idxOf (whoT os s t)) (-1)).getD j 0)
        rw [getD_set] at n ⊢
        split
        · rename_i c3
          rw [if_pos c3] at n
          exact absurd rfl n
        · rename_i c3
          rw [if_neg c3] at n
          exact key s.sh g.wi c.1 j hj n
      · rename_i c2
        rw [if_neg c2] at n
        exact key s.sh g.wi c.1 j hj n
    · rename_i c
      rw [if_neg c] at n
      exact g.wi j hj n
end
end WK

set_option Elab.async false
set_option linter.all false
set_option autoImplicit false
set_option maxRecDepth 100000
set_option maxHeartbeats 2000000
namespace WK
open PySem GL
section
variable {os : List (List Int)} {ws : List Wish} {turn : List Nat}
def nxT (os : List (List Int)) (turn : List Nat) (s : PSt) : Int := match nextT os turn s.sh s.as with
  | some t => ((t : Nat) : Int)
  | none => -1
theorem nx_some {s : PSt} {t : Nat} (h : nextT os turn s.sh s.as = some t) : nxT os turn s = ((t : Nat) : Int) := by unfold nxT; rw [h]
theorem nx_none {s : PSt} (h : nextT os turn s.sh s.as = none) : nxT os turn s = -1 := by unfold nxT; rw [h]
theorem natI_set (as : List Nat) (t n : Nat) : (IsD (natI as)).set t (.int ((n : Nat) : Int)) = IsD (natI (as.set t n)) := by
  show (List.map PyData.int (List.map (fun t : Nat => ((t : Nat) : Int)) as)).set t (.int ((n : Nat) : Int)) = List.map PyData.int (List.map (fun t : Nat => ((t : Nat) : Int)) (as.set t n))
  rw [← List.map_set, ← List.map_set]
def cWh : SB := cV (vBin dNe (vVar 6) (vUn dNeg (vC (.int 1))))
noncomputable def bWh : SS := sSeq (sAsgF 7 (vBin dIx (vBin dIx (vVar 0) (vVar 6)) (vBin dIx (vVar 4) (vVar 6))))
    (sSeq (sAugS (vVar 4) (vVar 6) (vC (.int 1)))
    (sSeq (sExpr (vMt mAppend (vVar 5) (aCons (vTup (aCons (vVar 6) (aCons (vVar 7) (aCons (vCall [false, true, false, false] m_answer_of (aCons (vVar 1) (aCons (vVar 3) (aCons (vVar 6) (aCons (vVar 7) aNil))))) aNil)))) aNil)))
    (sAsgF 6 (vCall [false, false, false, false] m_next_throne (aCons (vVar 0) (aCons (vVar 2) (aCons (vVar 3) (aCons (vVar 4) aNil))))))))
def encP (os : List (List Int)) (ws : List Wish) (turn : List Nat) (tp : Bool) (sh : List Int) (as : List Nat) (ak : List D) (nx : Int) (w : Sl) : List Sl :=
  [.va (.tuple (encO os)), .va (.tuple (encW ws)), .va (seqD tp (IsD (natI turn))), .ce false (.list (IsD sh)), .ce false (.list (IsD (natI as))), .ce false (.list ak), .va (.int nx), w]
theorem dIx_list {ds : List D} {t : Nat} {d : D} (h : ds[t]? = some d) : dIx (.list ds) (.int ((t : Nat) : Int)) = some (.pv d) := dIx_lst h
theorem turn_ok (ok : Okd os turn) (tp : Bool) {s : PSt} (g : Good os ws s) {t : Nat} (h : nextT os turn s.sh s.as = some t) :
    bWh (encP os ws turn tp s.sh s.as s.ak (nxT os turn s) .un) = .ok .nx (encP os ws turn tp (tryT os ws s t).sh (tryT os ws s t).as (tryT os ws s t).ak (nxT os turn (tryT os ws s t)) (.va (.int (whoT os s t)))) := by
  obtain ⟨h1, h2, h3⟩ := nextT_some h
  obtain ⟨ht, hw, g2⟩ := good_step ok g h
  rw [nx_some h]
  have hsh : t < s.sh.length := by rw [g.l1]; exact ht
  have has : t < s.as.length := by rw [g.l2]; exact ht
  unfold bWh
  have e1 : sAsgF 7 (vBin dIx (vBin dIx (vVar 0) (vVar 6)) (vBin dIx (vVar 4) (vVar 6))) (encP os ws turn tp s.sh s.as s.ak ((t : Nat) : Int) .un) = .ok .nx (encP os ws turn tp s.sh s.as s.ak ((t : Nat) : Int) (.va (.int (whoT os s t)))) :=
    Eq.trans (asgF_pv (bin_at (bin_at rfl rfl rfl rfl (dIx_tup (encO_get ht))) (bin_at rfl rfl rfl rfl (dIx_list (natI_get has))) rfl rfl (dIx_tup (IsD_get h3))) rfl) rfl
  have e2 : sAugS (vVar 4) (vVar 6) (vC (.int 1)) (encP os ws turn tp s.sh s.as s.ak ((t : Nat) : Int) (.va (.int (whoT os s t)))) = .ok .nx (encP os ws turn tp s.sh (s.as.set t (s.as.getD t 0 + 1)) s.ak ((t : Nat) : Int) (.va (.int (whoT os s t)))) := by
    have q := augS_at (γ := encP os ws turn tp s.sh s.as s.ak ((t : Nat) : Int) (.va (.int (whoT os s t)))) (fo := vVar 4) (fi := vVar 6) (fe := vC (.int 1)) (k := ((t : Nat) : Int)) (a := ((s.as.getD t 0 : Nat) : Int)) (c := 1) (m := t) rfl rfl rfl (by
      unfold atD
      rw [atI_nat]
      exact natI_get has) rfl rfl (by
      rw [show (IsD (natI s.as)).length = s.as.length by simp [natI, IsD]]
      exact ixN_nat has)
    refine q.trans ?_
    rw [show ((s.as.getD t 0 : Nat) : Int) + 1 = ((s.as.getD t 0 + 1 : Nat) : Int) by omega, natI_set]
    rfl
  have e3 : sExpr (vMt mAppend (vVar 5) (aCons (vTup (aCons (vVar 6) (aCons (vVar 7) (aCons (vCall [false, true, false, false] m_answer_of (aCons (vVar 1) (aCons (vVar 3) (aCons (vVar 6) (aCons (vVar 7) aNil))))) aNil)))) aNil)) (encP os ws turn tp s.sh (s.as.set t (s.as.getD t 0 + 1)) s.ak ((t : Nat) : Int) (.va (.int (whoT os s t)))) =
      .ok .nx (encP os ws turn tp (tryT os ws s t).sh (tryT os ws s t).as (tryT os ws s t).ak ((t : Nat) : Int) (.va (.int (whoT os s t)))) := by
    have ha := e_answer_of (ws := ws) (sh := s.sh) (t := t) (who := whoT os s t) (good_wish g hw) hsh
    have hl : s.ak.length < big := by
      have := sum_le s.as os g.l2 g.le
      have q := ok.sm
      rw [g.ak]
      unfold big
      omega
    exact Eq.trans (expr_at (mt_at (b := false) (cs := s.ak) (cs' := (tryT os ws s t).ak) rfl rfl (acons_at (tup_at (acons_at rfl (acons_at rfl (acons_at (call_any rfl rfl ha rfl) rfl))) rfl (by simp)) rfl) rfl rfl (by simp only [mAppend, if_pos hl]; rfl))) rfl
  have e4 : sAsgF 6 (vCall [false, false, false, false] m_next_throne (aCons (vVar 0) (aCons (vVar 2) (aCons (vVar 3) (aCons (vVar 4) aNil))))) (encP os ws turn tp (tryT os ws s t).sh (tryT os ws s t).as (tryT os ws s t).ak ((t : Nat) : Int) (.va (.int (whoT os s t)))) =
      .ok .nx (encP os ws turn tp (tryT os ws s t).sh (tryT os ws s t).as (tryT os ws s t).ak (nxT os turn (tryT os ws s t)) (.va (.int (whoT os s t)))) :=
    Eq.trans (asgF_pv (call_pv rfl (by cases tp <;> rfl) rfl (e_next_throne tp ok.tl g2.l1 g2.l2) (.inr rfl)) rfl) rfl
  exact (seq_nx e1).trans ((seq_nx e2).trans ((seq_nx e3).trans e4))
theorem nx_int (s : PSt) : nxT os turn s = -1 ∨ nxT os turn s ≠ -1 ∧ ∃ t, nextT os turn s.sh s.as = some t := by
  cases h : nextT os turn s.sh s.as with
  | none => exact .inl (nx_none h)
  | some t => exact .inr ⟨by rw [nx_some h]; omega, t, rfl⟩
theorem step_of {s : PSt} {t : Nat} (h : nextT os turn s.sh s.as = some t) : stepP os ws turn s = some (tryT os ws s t) := by unfold stepP; rw [h]; rfl
theorem cWh_ok (tp : Bool) (sh : List Int) (as : List Nat) (ak : List D) (nx : Int) (w : Sl) : cWh (encP os ws turn tp sh as ak nx w) = .ok (!decide (nx = -1)) (encP os ws turn tp sh as ak nx w) := by
  unfold cWh
  exact cV_at (bin_at (x := .int nx) (y := .int (-1)) rfl rfl rfl rfl (dNe_int _ _))
/-- what the program tells -/
theorem e_by_thrones (ok : Okd os turn) (tp : Bool) (hn : os.length ≤ 1000) : ∃ s, Reach os ws turn (PSt.start os) s ∧ stepP os ws turn s = none ∧ Good os ws s ∧
    m_by_thrones [.tuple (encO os), .tuple (encW ws), seqD tp (IsD (natI turn))] = .ok (.pv (.tuple [.tuple (IsD s.sh), .tuple s.ak])) [] := by
  obtain ⟨s, ⟨hg, hr⟩, hc, he⟩ := while_all (c := cWh) (b := bWh) (fg := [7]) (fun s : PSt => encP os ws turn tp s.sh s.as s.ak (nxT os turn s) .un) (fun s => (os.map List.length).sum - s.as.sum) (fun s => Good os ws s ∧ Reach os ws turn (PSt.start os) s)
    (fun s ⟨g, r⟩ => by
      rcases nx_int (os := os) (turn := turn) s with h | ⟨h, t, ht⟩
      · refine .inl ?_
        show cWh (encP os ws turn tp s.sh s.as s.ak (nxT os turn s) .un) = _
        rw [cWh_ok, h]
        rfl
      · refine .inr ⟨?_, _, tryT os ws s t, turn_ok ok tp g ht, rfl, ⟨(good_step ok g ht).2.2, .snoc r (step_of ht)⟩, ?_⟩
        · show cWh (encP os ws turn tp s.sh s.as s.ak (nxT os turn s) .un) = _
          rw [cWh_ok, decide_eq_false h]
          rfl
        · obtain ⟨k1, k2, k3⟩ := good_step ok g ht
          have a1 := sum_le _ os k3.l2 k3.le
          have a2 : (tryT os ws s t).as.sum = s.as.sum + 1 := sum_set s.as t (by rw [g.l2]; exact k1)
          rw [a2] at a1 ⊢
          omega) (os.map List.length).sum (PSt.start os) (encP os ws turn tp (PSt.start os).sh (PSt.start os).as (PSt.start os).ak (nxT os turn (PSt.start os)) .un) (Nat.sub_le _ _) ⟨good_start, .refl⟩ rfl
  have hnone : stepP os ws turn s = none := by
    rcases nx_int (os := os) (turn := turn) s with h | ⟨h, t, ht⟩
    · unfold stepP
      cases q : nextT os turn s.sh s.as with
      | none => rfl
      | some t =>
        rw [nx_some q] at h
        omega
    · have hc : cWh (encP os ws turn tp s.sh s.as s.ak (nxT os turn s) .un) = .ok false (encP os ws turn tp s.sh s.as s.ak (nxT os turn s) .un) := hc
      rw [cWh_ok, decide_eq_false h] at hc
      cases hc
  refine ⟨s, hr, hnone, hg, ?_⟩
  unfold m_by_thrones s_by_thrones
  have lo : (encO os).length = os.length := by simp [encO]
  have r1 : IsD (PSt.start os).sh = (List.replicate os.length [PyData.int (-1)]).flatten := by
    rw [rep_one]
    show List.map PyData.int (List.replicate os.length (-1)) = _
    rw [List.map_replicate]
  have r2 : IsD (natI (PSt.start os).as) = (List.replicate os.length [PyData.int 0]).flatten := by
    rw [rep_one]
    show List.map PyData.int (List.map (fun t : Nat => ((t : Nat) : Int)) (List.replicate os.length 0)) = _
    rw [List.map_replicate, List.map_replicate]
    rfl
  have dm : ∀ x : Int, dMul (.list [.int x]) (.int ((encO os).length : Nat)) = some (.nw (.list (List.replicate os.length [PyData.int x]).flatten)) := fun x => by
    rw [lo]
    have c : ((os.length : Nat) : Int) ≤ 1000000 ∧ -1000000 ≤ ((os.length : Nat) : Int) ∧ [PyData.int x].length * ((os.length : Nat) : Int).toNat ≤ big := by
      refine ⟨by omega, by omega, ?_⟩
      rw [Int.toNat_natCast]
      unfold big
      simp
      omega
    simp only [dMul]
    rw [if_pos c, Int.toNat_natCast]
  let γ0 := mkG 8 [false, false, false] [.tuple (encO os), .tuple (encW ws), seqD tp (IsD (natI turn))]
  have e1 : sAsg 3 (vBin dMul (vLst (aCons (vUn dNeg (vC (.int 1))) aNil)) (vFn nLen (aCons (vVar 0) aNil))) γ0 = .ok .nx [.va (.tuple (encO os)), .va (.tuple (encW ws)), .va (seqD tp (IsD (natI turn))), .ce false (.list (IsD (PSt.start os).sh)), .un, .un, .un, .un] := by
    rw [r1]
    exact Eq.trans (asg_nw (bin_at (lst_at' rfl rfl (by simp)) (fn_at rfl rfl rfl) rfl rfl (dm (-1))) rfl) rfl
  have e2 : sAsg 4 (vBin dMul (vLst (aCons (vC (.int 0)) aNil)) (vFn nLen (aCons (vVar 0) aNil))) [.va (.tuple (encO os)), .va (.tuple (encW ws)), .va (seqD tp (IsD (natI turn))), .ce false (.list (IsD (PSt.start os).sh)), .un, .un, .un, .un] = .ok .nx [.va (.tuple (encO os)), .va (.tuple (encW ws)), .va (seqD tp (IsD (natI turn))), .ce false (.list (IsD (PSt.start os).sh)), .ce false (.list (IsD (natI (PSt.start os).as))), .un, .un, .un] := by
    rw [r2]
    exact Eq.trans (asg_nw (bin_at (lst_at' rfl rfl (by simp)) (fn_at rfl rfl rfl) rfl rfl (dm 0)) rfl) rfl
  have e3 : sAsg 5 (vLst aNil) [.va (.tuple (encO os)), .va (.tuple (encW ws)), .va (seqD tp (IsD (natI turn))), .ce false (.list (IsD (PSt.start os).sh)), .ce false (.list (IsD (natI (PSt.start os).as))), .un, .un, .un] = .ok .nx [.va (.tuple (encO os)), .va (.tuple (encW ws)), .va (seqD tp (IsD (natI turn))), .ce false (.list (IsD (PSt.start os).sh)), .ce false (.list (IsD (natI (PSt.start os).as))), .ce false (.list []), .un, .un] := rfl
  have e4 : sAsgF 6 (vCall [false, false, false, false] m_next_throne (aCons (vVar 0) (aCons (vVar 2) (aCons (vVar 3) (aCons (vVar 4) aNil))))) [.va (.tuple (encO os)), .va (.tuple (encW ws)), .va (seqD tp (IsD (natI turn))), .ce false (.list (IsD (PSt.start os).sh)), .ce false (.list (IsD (natI (PSt.start os).as))), .ce false (.list []), .un, .un] =
      .ok .nx (encP os ws turn tp (PSt.start os).sh (PSt.start os).as (PSt.start os).ak (nxT os turn (PSt.start os)) .un) :=
    Eq.trans (asgF_pv (call_pv rfl (by cases tp <;> rfl) rfl (e_next_throne tp ok.tl (good_start (ws := ws)).l1 (good_start (ws := ws)).l2) (.inr rfl)) rfl) rfl
  exact runB_rt ((seq_nx e1).trans ((seq_nx e2).trans ((seq_nx e3).trans ((seq_nx e4).trans ((seq_nx he).trans rfl))))) rfl
end
end WK

set_option Elab.async false
set_option linter.all false
set_option autoImplicit false
set_option maxRecDepth 100000
set_option maxHeartbeats 2000000
namespace WK
open PySem GL
/-! ### _law_wished -/
def pL (who : Int) : D → Bool
  | .tuple [.int o, _] => decide (o = who)
  | _ => false
def qL : D → D
  | .tuple [_, ts] => ts
  | _ => .none
def tL : D → Option (D × D)
  | .tuple [a, b] => some (a, b)
  | _ => none
theorem wished_head (who : Int) : ∀ ws : List Wish, (((encW ws).filter (pL who)).map qL ++ [.tuple []])[0]? = some (.tuple (IsD (wishedBy ws who)))
  | [] => rfl
  | p :: ws => by
    have e : encW (p :: ws) = .tuple [.int p.1, .tuple (IsD p.2)] :: encW ws := rfl
    rw [e]
    simp only [wishedBy]
    by_cases h : p.1 = who
    · have k : pL who (.tuple [.int p.1, .tuple (IsD p.2)]) = true := decide_eq_true h
      rw [if_pos h, List.filter_cons_of_pos k]
      rfl
    · have k : ¬ pL who (.tuple [.int p.1, .tuple (IsD p.2)]) = true := fun z => h (of_decide_eq_true z)
      rw [if_neg h, List.filter_cons_of_neg k]
      exact wished_head who ws
theorem e_law_wished {ws : List Wish} (who : Int) (hl : ws.length ≤ 1000) : m__law_wished [.tuple (encW ws), .int who] = .ok (.pv (.tuple (IsD (wishedBy ws who)))) [] := by
  unfold m__law_wished s__law_wished
  let S : Option (D × D) → List Sl := fun z => match z with
    | none => [.va (.tuple (encW ws)), .va (.int who), .un, .un]
    | some (a, b) => [.va (.tuple (encW ws)), .va (.int who), .va a, .va b]
  have e1 : vLc (iSeq (vVar 0)) (GL.gTup 2 (gsCons (GL.gName 2) (gsCons (GL.gName 3) gsNil))) (cV (vBin dEq (vVar 2) (vVar 1))) (vVar 3) [2, 3] (S none) = .ok (.nw (.list (((encW ws).filter (pL who)).map qL))) (S none) := by
    refine vLc_at S none (S none) tL (pL who) qL rfl (fun z => by rcases z with _ | ⟨a, b⟩ <;> rfl) (fun z => by rcases z with _ | ⟨a, b⟩ <;> rfl) rfl (fun z => by rcases z with _ | ⟨a, b⟩ <;> rfl) fun d m => ?_
    obtain ⟨p, _, rfl⟩ := List.mem_map.mp m
    exact ⟨rfl, cV_at (bin_at (x := .int p.1) (y := .int who) rfl rfl rfl rfl (dEq_int _ _)), fun _ => ⟨_, rfl, rfl⟩⟩
  have hb : (((encW ws).filter (pL who)).map qL).length + [PyData.tuple []].length ≤ big := by
    have := List.length_filter_le (pL who) (encW ws)
    rw [List.length_map]
    have l2 : (encW ws).length = ws.length := by simp [encW]
    unfold big
    simp only [List.length_cons, List.length_nil]
    omega
  have e2 : sRet (vBin dIx (vBin dAdd (vFn nTup (aCons (vLc (iSeq (vVar 0)) (GL.gTup 2 (gsCons (GL.gName 2) (gsCons (GL.gName 3) gsNil))) (cV (vBin dEq (vVar 2) (vVar 1))) (vVar 3) [2, 3]) aNil)) (vTup (aCons (vTup aNil) aNil))) (vC (.int 0))) (S none) = .ok (.rt (.pv (.tuple (IsD (wishedBy ws who))))) (S none) := by
    refine ret_pv (bin_at (x := .tuple (((encW ws).filter (pL who)).map qL ++ [.tuple []])) (y := .int 0) (bin_at (x := .tuple (((encW ws).filter (pL who)).map qL)) (y := .tuple [.tuple []]) (fn_at (acons_at e1 rfl) rfl rfl) rfl rfl rfl (by simp only [dAdd, if_pos hb]; rfl)) rfl rfl rfl ?_)
    exact dIx_tup (i := 0) (wished_head who ws)
  exact runB_rt e2 rfl
/-! ### the law's own asking -/
def gs6 : List Nat := [12, 13, 14, 15, 16, 17]
def gAt (os : List (List Int)) (as : List Nat) (t : Nat) : Sl := if t < os.length then .ow true (.lst ((IsD ((os.getD t []).drop (as.getD t 0))).map .inl)) else .un
def gG (os : List (List Int)) (as : List Nat) : List Sl := (List.range 6).map (gAt os as)
def frees (os : List (List Int)) (turn : List Nat) (s : PSt) : List Nat := turn.filter (freeT os s.sh s.as)
def encA (os : List (List Int)) (ws : List Wish) (turn : List Nat) (tp : Bool) (sh : List Int) (G : List Sl) (ak : List D) (so : Sl) (s8 s9 s10 s11 : Sl) : List Sl :=
  .va (.tuple (encO os)) :: .va (.tuple (encW ws)) :: .va (seqD tp (IsD (natI turn))) :: .ce false (.list (IsD sh)) :: .ow false (.lst ((gs6.take os.length).map .inr)) :: .un :: .ce false (.list ak) :: so :: s8 :: s9 :: s10 :: s11 :: G
section
variable {os : List (List Int)} {ws : List Wish} {turn : List Nat}
theorem gG_get {as : List Nat} {t : Nat} (h : t < os.length) (h6 : os.length ≤ 6) : (gG os as)[t]? = some (.ow true (.lst ((IsD ((os.getD t []).drop (as.getD t 0))).map .inl))) := by
  unfold gG
  rw [List.getElem?_map, List.getElem?_range (by omega)]
  show some (gAt os as t) = _
  unfold gAt
  rw [if_pos h]
theorem gG_set {as : List Nat} {t n : Nat} (h : t < os.length) (h6 : os.length ≤ 6) (hl : as.length = os.length) : (gG os as).set t (.ow true (.lst ((IsD ((os.getD t []).drop n)).map .inl))) = gG os (as.set t n) := by
  refine List.ext_getElem? fun j => ?_
  rw [List.getElem?_set]
  by_cases q : t = j
  · subst q
    have l6 : (gG os as).length = 6 := by simp [gG]
    rw [if_pos rfl, if_pos (by omega), gG_get h h6, getD_set, if_pos ⟨rfl, by omega⟩]
  · rw [if_neg q]
    unfold gG
    rw [List.getElem?_map, List.getElem?_map]
    by_cases hj : j < 6
    · rw [List.getElem?_range hj]
      show some (gAt os as j) = some (gAt os (as.set t n) j)
      unfold gAt
      have e : (as.set t n).getD j 0 = as.getD j 0 := by rw [getD_set, if_neg fun z => q z.1.symm]
      rw [e]
    · rw [List.getElem?_eq_none (by simpa using Nat.le_of_not_lt hj)]
      rfl
theorem eraseZero {α : Type} {x : α} {xs : List α} : (x :: xs).eraseIdx 0 = xs := rfl
theorem popAt0 (x : D) (xs : List D) : mPopAt (x :: xs) [.int 0] = some (x, xs) := by
  have e : L2.ixN (x :: xs).length (0 : Int) = some 0 := ixN_nat (i := 0) (Nat.succ_pos _)
  simp only [mPopAt, e, Option.bind_some]
  rfl
theorem left_at {tp : Bool} {sh : List Int} {as : List Nat} {ak : List D} {so s8 s9 s10 s11 : Sl} {fb : SE} {t : Nat} (ht : t < os.length) (h6 : os.length ≤ 6) (e : fb (encA os ws turn tp sh (gG os as) ak so s8 s9 s10 s11) = .ok (.pv (.int ((t : Nat) : Int))) (encA os ws turn tp sh (gG os as) ak so s8 s9 s10 s11)) :
    vIxO (vVar 4) fb (encA os ws turn tp sh (gG os as) ak so s8 s9 s10 s11) = .ok (.cl (t + 12)) (encA os ws turn tp sh (gG os as) ak so s8 s9 s10 s11) := by
  refine ixO_at (b := false) (its := (gs6.take os.length).map .inr) (i := 4) (k := ((t : Nat) : Int)) rfl e rfl ?_
  rw [atI_nat, List.getElem?_map, List.getElem?_take_of_lt ht]
  have : ∀ j, j < 6 → gs6[j]? = some (j + 12) := by decide
  rw [this t (by omega)]
  rfl
theorem encA_gh {tp : Bool} {sh : List Int} {as : List Nat} {ak : List D} {so s8 s9 s10 s11 : Sl} {t : Nat} (ht : t < os.length) (h6 : os.length ≤ 6) :
    (encA os ws turn tp sh (gG os as) ak so s8 s9 s10 s11)[t + 12]? = some (.ow true (.lst ((IsD ((os.getD t []).drop (as.getD t 0))).map .inl))) := gG_get ht h6
theorem left_rs {tp : Bool} {sh : List Int} {as : List Nat} {ak : List D} {so s8 s9 s10 s11 : Sl} {t : Nat} (ht : t < os.length) (h6 : os.length ≤ 6) :
    rs (encA os ws turn tp sh (gG os as) ak so s8 s9 s10 s11) (.cl (t + 12)) = some (.list (IsD ((os.getD t []).drop (as.getD t 0)))) := by
  show (match (encA os ws turn tp sh (gG os as) ak so s8 s9 s10 s11)[t + 12]? with
    | some (.ce _ d) => some d
    | some (.ow _ (.lst its)) => (plainI its).map PyData.list
    | _ => none) = _
  rw [encA_gh ht h6]
  simp only [plainI_map, Option.map_some]
/-- x != [] -/
def cLeft : SB := cV (vBin dNe (vIxO (vVar 4) (vVar 8)) (vLst aNil))
theorem cLeft_ok {tp : Bool} {sh : List Int} {as : List Nat} {ak : List D} {so s9 s10 s11 : Sl} {t : Nat} (ht : t < os.length) (h6 : os.length ≤ 6) :
    cLeft (encA os ws turn tp sh (gG os as) ak so (.va (.int ((t : Nat) : Int))) s9 s10 s11) = .ok (decide (as.getD t 0 < (os.getD t []).length)) (encA os ws turn tp sh (gG os as) ak so (.va (.int ((t : Nat) : Int))) s9 s10 s11) := by
  unfold cLeft
  have e := dNe_nilL (ds := IsD ((os.getD t []).drop (as.getD t 0))) (okD_lstI _)
  have e2 : (!(IsD ((os.getD t []).drop (as.getD t 0))).isEmpty) = decide (as.getD t 0 < (os.getD t []).length) := by
    by_cases q : as.getD t 0 < (os.getD t []).length
    · rw [decide_eq_true q, List.drop_eq_getElem_cons q]
      rfl
    · rw [decide_eq_false q, List.drop_eq_nil_of_le (by omega)]
      rfl
  rw [e2] at e
  exact cV_at (bin_at (left_at ht h6 rfl) rfl (left_rs ht h6) rfl e)
/-- the thrones that may ask -/
def cFree : SB := cAnd (cV (vBin dEq (vBin dIx (vVar 3) (vVar 8)) (vUn dNeg (vC (.int 1))))) cLeft
theorem cFree_ok {tp : Bool} {s : PSt} {so s9 s10 s11 : Sl} {t : Nat} {ak : List D} (ht : t < os.length) (h6 : os.length ≤ 6) (hs : s.sh.length = os.length) :
    cFree (encA os ws turn tp s.sh (gG os s.as) ak so (.va (.int ((t : Nat) : Int))) s9 s10 s11) = .ok (freeT os s.sh s.as t) (encA os ws turn tp s.sh (gG os s.as) ak so (.va (.int ((t : Nat) : Int))) s9 s10 s11) := by
  unfold cFree freeT
  exact cAnd_at (cV_at (bin_at (x := .int (s.sh.getD t 0)) (y := .int (-1)) (bin_at rfl rfl rfl rfl (dIx_lst (IsD_get (by omega)))) rfl rfl rfl (dEq_int _ _))) fun _ => cLeft_ok ht h6
def pF (os : List (List Int)) (s : PSt) : D → Bool
  | .int t => freeT os s.sh s.as t.toNat
  | _ => false
theorem filt_natI (s : PSt) : ∀ ts : List Nat, ((IsD (natI ts)).filter (pF os s)).map id = IsD (natI (ts.filter (freeT os s.sh s.as)))
  | [] => rfl
  | t :: ts => by
    have e : IsD (natI (t :: ts)) = .int ((t : Nat) : Int) :: IsD (natI ts) := rfl
    have k0 : pF os s (.int ((t : Nat) : Int)) = freeT os s.sh s.as t := rfl
    rw [e]
    cases h : freeT os s.sh s.as t with
    | true =>
      rw [List.filter_cons_of_pos (by rw [k0]; exact h), List.filter_cons_of_pos h, List.map_cons, filt_natI s ts]
      rfl
    | false =>
      rw [List.filter_cons_of_neg (by rw [k0, h]; exact Bool.false_ne_true), List.filter_cons_of_neg (by rw [h]; exact Bool.false_ne_true), filt_natI s ts]
/-- the list of these -/
theorem some_ok {tp : Bool} {s : PSt} {so s9 s10 s11 : Sl} {ak : List D} {z : Option D} {c : SB} (hc : ∀ t, t < os.length → c (encA os ws turn tp s.sh (gG os s.as) ak so (.va (.int ((t : Nat) : Int))) s9 s10 s11) = .ok (freeT os s.sh s.as t) (encA os ws turn tp s.sh (gG os s.as) ak so (.va (.int ((t : Nat) : Int))) s9 s10 s11)) (ok : Okd os turn) :
    vLc (iSeq (vVar 2)) (GL.gName 8) c (vVar 8) [8] (encA os ws turn tp s.sh (gG os s.as) ak so (match z with | none => .un | some d => .va d) s9 s10 s11) = .ok (.nw (.list (IsD (natI (frees os turn s))))) (encA os ws turn tp s.sh (gG os s.as) ak so (match z with | none => .un | some d => .va d) s9 s10 s11) := by
  unfold frees
  rw [← filt_natI]
  refine vLc_at (fun z : Option D => encA os ws turn tp s.sh (gG os s.as) ak so (match z with | none => .un | some d => .va d) s9 s10 s11) z (encA os ws turn tp s.sh (gG os s.as) ak so .un s9 s10 s11) (fun d => some d) (pF os s) id
    (by cases tp <;> rfl) (fun z => by cases z <;> rfl) (fun z => by cases z <;> rfl) (by cases z <;> rfl) (fun z' => by cases z' <;> cases z <;> rfl) fun d m => ?_
  obtain ⟨i, mi, rfl⟩ := List.mem_map.mp m
  obtain ⟨t, mt, rfl⟩ := List.mem_map.mp mi
  exact ⟨rfl, hc t (ok.tl t mt), fun _ => ⟨_, rfl, rfl⟩⟩
end
end WK

set_option Elab.async false
set_option linter.all false
set_option autoImplicit false
set_option maxRecDepth 100000
set_option maxHeartbeats 2000000
namespace WK
open PySem GL
section
variable {os : List (List Int)} {ws : List Wish} {turn : List Nat}
theorem ne_nn : dNe (.str "no") (.str "no") = some (.pv (.bool false)) := dNe_str (r := true) (by decide +kernel) (by decide +kernel) (by decide +kernel)
theorem ne_tn : dNe (.str "takes") (.str "no") = some (.pv (.bool true)) := dNe_str (r := false) (by decide +kernel) (by decide +kernel) (by decide +kernel)
theorem ne_un : dNe (.str "turns") (.str "no") = some (.pv (.bool true)) := dNe_str (r := false) (by decide +kernel) (by decide +kernel) (by decide +kernel)
def aWord : SS := sIf (cAnd (cV (vBin dNotIn (vVar 9) (vVar 3))) (cV (vBin dIn (vVar 8) (vVar 10)))) (sAsgF 11 (vC (.str "takes"))) (sIf (cAnd (cV (vBin dIn (vVar 9) (vVar 3))) (cV (vBin dIn (vVar 8) (vSl (vVar 10) oNone (oSome (vMr "tuple" nIndexT (vVar 10) (aCons (vMr "list" nIndex (vVar 3) (aCons (vVar 9) aNil)) aNil))))))) (sSeq (sAsgF 11 (vC (.str "turns")))
    (sSub (vUn dNeg (vC (.int 1))) (vVar 3) (vMr "list" nIndex (vVar 3) (aCons (vVar 9) aNil)))) sNx)
def aPut : SS := sIf (cV (vBin dNe (vVar 11) (vC (.str "no")))) (sSub (vVar 9) (vVar 3) (vVar 8)) sNx
/-- the word, and who sits where behind it -/
theorem word_ok {tp : Bool} {sh : List Int} {G : List Sl} {ak : List D} {so : Sl} {t : Nat} {who : Int} (ht : t < sh.length) (hb : sh.getD t 0 = -1) (hw : who ≠ -1) (hwi : who ∈ sh → ((sh.idxOf who : Nat) : Int) ∈ wishedBy ws who) :
    ∃ γ, aWord (encA os ws turn tp sh G ak so (.va (.int ((t : Nat) : Int))) (.va (.int who)) (.va (.tuple (IsD (wishedBy ws who)))) (.va (.str "no"))) = .ok .nx γ ∧
      aPut γ = .ok .nx (encA os ws turn tp (answerW ws sh t who).2 G ak so (.va (.int ((t : Nat) : Int))) (.va (.int who)) (.va (.tuple (IsD (wishedBy ws who)))) (.va (.str (answerW ws sh t who).1))) := by
  generalize hwd : wishedBy ws who = wd at *
  let E : List Int → Str → List Sl := fun sh x => encA os ws turn tp sh G ak so (.va (.int ((t : Nat) : Int))) (.va (.int who)) (.va (.tuple (IsD wd))) (.va (.str x))
  have put : ∀ (x : Str) (sh : List Int), t < sh.length → dNe (.str x) (.str "no") = some (.pv (.bool true)) → aPut (E sh x) = .ok .nx (E (sh.set t who) x) := fun x sh hl hx => by
    have e1 : cV (vBin dNe (vVar 11) (vC (.str "no"))) (E sh x) = .ok true (E sh x) := cV_at (bin_at rfl rfl rfl rfl hx)
    have em : L2.ixN (IsD sh).length ((t : Nat) : Int) = some t := by rw [List.length_map]; exact ixN_nat hl
    refine (if_tt e1).trans (Eq.trans (sub_at (j := 3) (m := t) (k := ((t : Nat) : Int)) (d := .int who) (b := false) rfl rfl rfl rfl rfl em) ?_)
    rw [IsD_set]
    rfl
  have keep : aPut (E sh "no") = .ok .nx (E sh "no") := (if_ff (cV_at (bin_at rfl rfl rfl rfl ne_nn))).trans rfl
  by_cases q : who ∈ sh
  · obtain ⟨i1, i2⟩ := idx_getD q
    have hit : sh.idxOf who ≠ t := fun z => by
      rw [z, hb] at i2
      exact hw i2.symm
    have c1 : cAnd (cV (vBin dNotIn (vVar 9) (vVar 3))) (cV (vBin dIn (vVar 8) (vVar 10))) (E sh "no") = .ok false (E sh "no") := cAnd_ff (cV_at (bin_at (x := .int who) (y := .list (IsD sh)) rfl rfl rfl rfl (by rw [dNotIn_lstI, decide_eq_true q]; rfl)))
    have hx : vMr "list" nIndex (vVar 3) (aCons (vVar 9) aNil) (E sh "no") = .ok (.pv (.int ((sh.idxOf who : Nat) : Int))) (E sh "no") := mr_at (d := .list (IsD sh)) (d2 := .list (IsD sh)) (ds := [.int who]) rfl rfl rfl rfl rfl rfl (nIndex_ints q)
    have hx2 : vSl (vVar 10) oNone (oSome (vMr "tuple" nIndexT (vVar 10) (aCons (vMr "list" nIndex (vVar 3) (aCons (vVar 9) aNil)) aNil))) (E sh "no") = .ok (.pv (.tuple (IsD (wd.take (wd.idxOf ((sh.idxOf who : Nat) : Int)))))) (E sh "no") := by
      refine sl_at (d := .tuple (IsD wd)) (lo := none) (hi := some ((wd.idxOf ((sh.idxOf who : Nat) : Int) : Nat) : Int)) rfl rfl (oSome_at (mr_at (d := .tuple (IsD wd)) (d2 := .tuple (IsD wd)) (ds := [.int ((sh.idxOf who : Nat) : Int)]) rfl rfl rfl (acons_at hx rfl) rfl rfl (nIndexT_ints (hwi q)))) rfl ?_
      show some (Hd.pv (.tuple (cutD (IsD wd) none (some ((wd.idxOf ((sh.idxOf who : Nat) : Int) : Nat) : Int))))) = _
      rw [cut_take (by rw [List.length_map]; exact List.idxOf_le_length), ← List.map_take]
    have c2 : cAnd (cV (vBin dIn (vVar 9) (vVar 3))) (cV (vBin dIn (vVar 8) (vSl (vVar 10) oNone (oSome (vMr "tuple" nIndexT (vVar 10) (aCons (vMr "list" nIndex (vVar 3) (aCons (vVar 9) aNil)) aNil)))))) (E sh "no") =
        .ok (decide (((t : Nat) : Int) ∈ wd.take (wd.idxOf ((sh.idxOf who : Nat) : Int)))) (E sh "no") := by
      have k1 : cV (vBin dIn (vVar 9) (vVar 3)) (E sh "no") = .ok true (E sh "no") := cV_at (bin_at (x := .int who) (y := .list (IsD sh)) rfl rfl rfl rfl (by rw [dIn_lstI, decide_eq_true q]))
      exact (cAnd_tt k1).trans (cV_at (bin_at (x := .int ((t : Nat) : Int)) (y := .tuple _) rfl hx2 rfl rfl (dIn_tupI _ _)))
    by_cases c : ((t : Nat) : Int) ∈ wd ∧ wd.idxOf ((t : Nat) : Int) < wd.idxOf ((sh.idxOf who : Nat) : Int)
    · have ea : answerW ws sh t who = (("turns" : Str), (sh.set t who).set (sh.idxOf who) (-1)) := by unfold answerW; rw [hwd, if_pos ⟨c.1, .inr c.2⟩, if_pos q]
      rw [decide_eq_true ((mem_take_idx _ _ _).mpr c)] at c2
      have em : L2.ixN (IsD sh).length ((sh.idxOf who : Nat) : Int) = some (sh.idxOf who) := by rw [List.length_map]; exact ixN_nat i1
      have hx3 : vMr "list" nIndex (vVar 3) (aCons (vVar 9) aNil) (E sh "turns") = .ok (.pv (.int ((sh.idxOf who : Nat) : Int))) (E sh "turns") := mr_at (d := .list (IsD sh)) (d2 := .list (IsD sh)) (ds := [.int who]) rfl rfl rfl rfl rfl rfl (nIndex_ints q)
      have e2 : sSub (vUn dNeg (vC (.int 1))) (vVar 3) (vMr "list" nIndex (vVar 3) (aCons (vVar 9) aNil)) (E sh "turns") = .ok .nx (E (sh.set (sh.idxOf who) (-1)) "turns") := by
        refine Eq.trans (sub_at (j := 3) (m := sh.idxOf who) (k := ((sh.idxOf who : Nat) : Int)) (d := .int (-1)) (b := false) rfl rfl rfl hx3 rfl em) ?_
        rw [IsD_set]
        rfl
      refine ⟨E (sh.set (sh.idxOf who) (-1)) "turns", (if_ff c1).trans ((if_tt c2).trans ((seq_nx (γ1 := E sh "turns") rfl).trans e2)), ?_⟩
      rw [ea]
      refine (put "turns" _ (by rw [List.length_set]; exact ht) ne_un).trans ?_
      rw [List.set_comm _ _ hit]
    · have ea : answerW ws sh t who = (("no" : Str), sh) := by
        unfold answerW
        rw [hwd, if_neg fun z => c ⟨z.1, z.2.resolve_left fun y => y q⟩]
      rw [decide_eq_false fun z => c ((mem_take_idx _ _ _).mp z)] at c2
      rw [ea]
      exact ⟨E sh "no", (if_ff c1).trans ((if_ff c2).trans rfl), keep⟩
  · have k1 : cV (vBin dNotIn (vVar 9) (vVar 3)) (E sh "no") = .ok true (E sh "no") := cV_at (bin_at (x := .int who) (y := .list (IsD sh)) rfl rfl rfl rfl (by rw [dNotIn_lstI, decide_eq_false q]; rfl))
    have c1 : cAnd (cV (vBin dNotIn (vVar 9) (vVar 3))) (cV (vBin dIn (vVar 8) (vVar 10))) (E sh "no") = .ok (decide (((t : Nat) : Int) ∈ wd)) (E sh "no") := (cAnd_tt k1).trans (cV_at (bin_at (x := .int ((t : Nat) : Int)) (y := .tuple (IsD wd)) rfl rfl rfl rfl (dIn_tupI _ _)))
    by_cases c : ((t : Nat) : Int) ∈ wd
    · have ea : answerW ws sh t who = (("takes" : Str), sh.set t who) := by unfold answerW; rw [hwd, if_pos ⟨c, .inl q⟩, if_neg q]
      rw [decide_eq_true c] at c1
      rw [ea]
      exact ⟨E sh "takes", (if_tt c1).trans rfl, put "takes" sh ht ne_tn⟩
    · have ea : answerW ws sh t who = (("no" : Str), sh) := by unfold answerW; rw [hwd, if_neg fun z => c z.1]
      have k2 : cV (vBin dIn (vVar 9) (vVar 3)) (E sh "no") = .ok false (E sh "no") := cV_at (bin_at (x := .int who) (y := .list (IsD sh)) rfl rfl rfl rfl (by rw [dIn_lstI, decide_eq_false q]))
      rw [decide_eq_false c] at c1
      rw [ea]
      exact ⟨E sh "no", (if_ff c1).trans ((if_ff (cAnd_ff k2)).trans rfl), keep⟩
/-! ### one turn -/
def aCond : SB := cV (vBin dNe (vVar 7) (vLst aNil))
noncomputable def aBody : SS := sSeq (sAsgF 8 (vBin dIx (vVar 7) (vC (.int 0))))
    (sSeq (sAsgF 9 (vMt mPopAt (vIxO (vVar 4) (vVar 8)) (aCons (vC (.int 0)) aNil)))
    (sSeq (sAsgF 10 (vCall [false, false] m__law_wished (aCons (vVar 1) (aCons (vVar 9) aNil))))
    (sSeq (sAsgF 11 (vC (.str "no")))
    (sSeq aWord
    (sSeq aPut
    (sSeq (sExpr (vMt mAppend (vVar 6) (aCons (vTup (aCons (vVar 8) (aCons (vVar 9) (aCons (vVar 11) aNil)))) aNil)))
    (sAsgF 7 (vLc (iSeq (vVar 2)) (GL.gName 8) cFree (vVar 8) [8]))))))))
def soS (os : List (List Int)) (turn : List Nat) (s : PSt) : Sl := .va (.list (IsD (natI (frees os turn s))))
def encS (os : List (List Int)) (ws : List Wish) (turn : List Nat) (tp : Bool) (s : PSt) : List Sl := encA os ws turn tp s.sh (gG os s.as) s.ak (soS os turn s) .un .un .un .un
theorem find_filter {α : Type} (p : α → Bool) : ∀ l : List α, l.find? p = (l.filter p)[0]?
  | [] => rfl
  | a :: l => by
    rw [List.find?_cons]
    cases h : p a with
    | true => rw [List.filter_cons_of_pos h]; rfl
    | false => rw [List.filter_cons_of_neg (by rw [h]; exact Bool.false_ne_true)]; exact find_filter p l
theorem frees_head {s : PSt} {t : Nat} (h : nextT os turn s.sh s.as = some t) : (frees os turn s)[0]? = some t := by
  unfold frees nextT at *
  rw [find_filter] at h
  exact h
theorem frees_none {s : PSt} (h : nextT os turn s.sh s.as = none) : frees os turn s = [] := by
  unfold frees nextT at *
  rw [find_filter] at h
  cases q : turn.filter (freeT os s.sh s.as) with
  | nil => rfl
  | cons a r => rw [q] at h; cases h
theorem aCond_ok (tp : Bool) (s : PSt) : aCond (encS os ws turn tp s) = .ok (nextT os turn s.sh s.as).isSome (encS os ws turn tp s) := by
  unfold aCond
  have e := dNe_nilL (ds := IsD (natI (frees os turn s))) (okD_lstI _)
  have e2 : (!(IsD (natI (frees os turn s))).isEmpty) = (nextT os turn s.sh s.as).isSome := by
    cases h : nextT os turn s.sh s.as with
    | none =>
      rw [frees_none h]
      rfl
    | some t =>
      have := frees_head h
      cases q : frees os turn s with
      | nil => rw [q] at this; cases this
      | cons a r => rfl
  rw [e2] at e
  exact cV_at (bin_at (x := .list (IsD (natI (frees os turn s)))) (y := .list []) rfl rfl rfl rfl e)
theorem aTurn_ok (ok : Okd os turn) (h6 : os.length ≤ 6) (hws : ws.length ≤ 1000) (tp : Bool) {s : PSt} (g : Good os ws s) {t : Nat} (h : nextT os turn s.sh s.as = some t) :
    ∃ γ, aBody (encS os ws turn tp s) = .ok .nx γ ∧ forget [8, 9, 10, 11] γ = encS os ws turn tp (tryT os ws s t) := by
  obtain ⟨h1, h2, h3⟩ := nextT_some h
  obtain ⟨ht, hw, g2⟩ := good_step ok g h
  have hsh : t < s.sh.length := by rw [g.l1]; exact ht
  have has : t < s.as.length := by rw [g.l2]; exact ht
  let so := soS os turn s
  let T : Sl := .va (.int ((t : Nat) : Int))
  let Wh : Sl := .va (.int (whoT os s t))
  let Wd : Sl := .va (.tuple (IsD (wishedBy ws (whoT os s t))))
  let G' := gG os (s.as.set t (s.as.getD t 0 + 1))
  have e1 : sAsgF 8 (vBin dIx (vVar 7) (vC (.int 0))) (encS os ws turn tp s) = .ok .nx (encA os ws turn tp s.sh (gG os s.as) s.ak so T .un .un .un) := by
    have q : (IsD (natI (frees os turn s)))[0]? = some (.int ((t : Nat) : Int)) := by
      show (List.map PyData.int (List.map (fun t : Nat => ((t : Nat) : Int)) (frees os turn s)))[0]? = _
      rw [List.getElem?_map, List.getElem?_map, frees_head h]
      rfl
    exact Eq.trans (asgF_pv (bin_at (x := .list (IsD (natI (frees os turn s)))) (y := .int 0) rfl rfl rfl rfl (dIx_lst (i := 0) q)) rfl) rfl
  have hdrop : IsD ((os.getD t []).drop (s.as.getD t 0)) = .int (whoT os s t) :: IsD ((os.getD t []).drop (s.as.getD t 0 + 1)) := by
    rw [List.drop_eq_getElem_cons h3]
    have : (os.getD t [])[s.as.getD t 0] = whoT os s t := by
      unfold whoT
      rw [List.getD_eq_getElem?_getD (l := os.getD t []), List.getElem?_eq_getElem h3]
      rfl
    rw [this]
    rfl
  have e2 : sAsgF 9 (vMt mPopAt (vIxO (vVar 4) (vVar 8)) (aCons (vC (.int 0)) aNil)) (encA os ws turn tp s.sh (gG os s.as) s.ak so T .un .un .un) = .ok .nx (encA os ws turn tp s.sh G' s.ak so T Wh .un .un) := by
    have k1 := left_at (ws := ws) (turn := turn) (tp := tp) (sh := s.sh) (as := s.as) (ak := s.ak) (so := so) (s8 := T) (s9 := .un) (s10 := .un) (s11 := .un) (fb := vVar 8) ht h6 rfl
    have k2 := encA_gh (ws := ws) (turn := turn) (tp := tp) (sh := s.sh) (as := s.as) (ak := s.ak) (so := so) (s8 := T) (s9 := .un) (s10 := .un) (s11 := .un) ht h6
    have k3 := mt_own (g := mPopAt) (fa := aCons (vC (.int 0)) aNil) (ds := [.int 0]) k1 (by rw [k2]; rfl) rfl k2 (plainI_map _) rfl (by rw [hdrop]; exact popAt0 _ _)
    have k4 : (encA os ws turn tp s.sh (gG os s.as) s.ak so T .un .un .un).set (t + 12) (.ow true (.lst ((IsD ((os.getD t []).drop (s.as.getD t 0 + 1))).map .inl))) = encA os ws turn tp s.sh G' s.ak so T .un .un .un := by
      show encA os ws turn tp s.sh ((gG os s.as).set t (.ow true (.lst ((IsD ((os.getD t []).drop (s.as.getD t 0 + 1))).map .inl)))) s.ak so T .un .un .un = _
      rw [gG_set ht h6 g.l2]
    rw [k4] at k3
    exact Eq.trans (asgF_pv k3 rfl) rfl
  have e3 : sAsgF 10 (vCall [false, false] m__law_wished (aCons (vVar 1) (aCons (vVar 9) aNil))) (encA os ws turn tp s.sh G' s.ak so T Wh .un .un) = .ok .nx (encA os ws turn tp s.sh G' s.ak so T Wh Wd .un) :=
    Eq.trans (asgF_pv (call_pv rfl rfl rfl (e_law_wished (whoT os s t) hws) (.inl rfl)) rfl) rfl
  have e4 : sAsgF 11 (vC (.str "no")) (encA os ws turn tp s.sh G' s.ak so T Wh Wd .un) = .ok .nx (encA os ws turn tp s.sh G' s.ak so T Wh Wd (.va (.str "no"))) := rfl
  obtain ⟨γ5, e5, e6⟩ := word_ok (os := os) (ws := ws) (turn := turn) (tp := tp) (G := G') (ak := s.ak) (so := so) hsh h2 hw (good_wish g hw)
  have e7 : sExpr (vMt mAppend (vVar 6) (aCons (vTup (aCons (vVar 8) (aCons (vVar 9) (aCons (vVar 11) aNil)))) aNil)) (encA os ws turn tp (tryT os ws s t).sh G' s.ak so T Wh Wd (.va (.str (answerW ws s.sh t (whoT os s t)).1))) =
      .ok .nx (encA os ws turn tp (tryT os ws s t).sh G' (tryT os ws s t).ak so T Wh Wd (.va (.str (answerW ws s.sh t (whoT os s t)).1))) := by
    have hl : s.ak.length < big := by
      have := sum_le s.as os g.l2 g.le
      have q := ok.sm
      rw [g.ak]
      unfold big
      omega
    exact Eq.trans (expr_at (mt_at (b := false) (cs := s.ak) (cs' := (tryT os ws s t).ak) rfl rfl (acons_at (tup_at rfl rfl (by simp)) rfl) rfl rfl (by simp only [mAppend, if_pos hl]; rfl))) rfl
  have e8 : sAsgF 7 (vLc (iSeq (vVar 2)) (GL.gName 8) cFree (vVar 8) [8]) (encA os ws turn tp (tryT os ws s t).sh G' (tryT os ws s t).ak so T Wh Wd (.va (.str (answerW ws s.sh t (whoT os s t)).1))) =
      .ok .nx (encA os ws turn tp (tryT os ws s t).sh G' (tryT os ws s t).ak (soS os turn (tryT os ws s t)) T Wh Wd (.va (.str (answerW ws s.sh t (whoT os s t)).1))) := by
    have q := some_ok (os := os) (ws := ws) (turn := turn) (tp := tp) (s := tryT os ws s t) (so := so) (s9 := Wh) (s10 := Wd) (s11 := .va (.str (answerW ws s.sh t (whoT os s t)).1)) (ak := (tryT os ws s t).ak) (z := some (.int ((t : Nat) : Int))) (c := cFree) (fun t2 h2 => cFree_ok h2 h6 g2.l1) ok
    exact Eq.trans (asgF_nw q rfl) rfl
  refine ⟨_, (seq_nx e1).trans ((seq_nx e2).trans ((seq_nx e3).trans ((seq_nx e4).trans ((seq_nx e5).trans ((seq_nx e6).trans ((seq_nx e7).trans e8)))))), rfl⟩
/-- what the law's own asking tells -/
theorem e_law_asked (ok : Okd os turn) (h6 : os.length ≤ 6) (hws : ws.length ≤ 1000) (tp : Bool) : ∃ s, Reach os ws turn (PSt.start os) s ∧ stepP os ws turn s = none ∧
    m__law_asked_by_thrones [.tuple (encO os), .tuple (encW ws), seqD tp (IsD (natI turn))] = .ok (.pv (.tuple [.tuple (IsD s.sh), .tuple s.ak])) [] := by
  obtain ⟨s, ⟨hg, hr⟩, hc, he⟩ := while_all (c := aCond) (b := aBody) (fg := [8, 9, 10, 11]) (encS os ws turn tp) (fun s => (os.map List.length).sum - s.as.sum) (fun s => Good os ws s ∧ Reach os ws turn (PSt.start os) s)
    (fun s ⟨g, r⟩ => by
      cases h : nextT os turn s.sh s.as with
      | none => exact .inl (by rw [aCond_ok, h]; rfl)
      | some t =>
        obtain ⟨γ, e1, e2⟩ := aTurn_ok ok h6 hws tp g h
        refine .inr ⟨by rw [aCond_ok, h]; rfl, γ, tryT os ws s t, e1, e2, ⟨(good_step ok g h).2.2, .snoc r (step_of h)⟩, ?_⟩
        obtain ⟨k1, k2, k3⟩ := good_step ok g h
        have a1 := sum_le _ os k3.l2 k3.le
        have a2 : (tryT os ws s t).as.sum = s.as.sum + 1 := sum_set s.as t (by rw [g.l2]; exact k1)
        rw [a2] at a1 ⊢
        omega) (os.map List.length).sum (PSt.start os) (encS os ws turn tp (PSt.start os)) (Nat.sub_le _ _) ⟨good_start, .refl⟩ rfl
  have hnone : stepP os ws turn s = none := by
    rw [aCond_ok] at hc
    unfold stepP
    cases q : nextT os turn s.sh s.as with
    | none => rfl
    | some t => rw [q] at hc; cases hc
  refine ⟨s, hr, hnone, ?_⟩
  unfold m__law_asked_by_thrones s__law_asked_by_thrones
  have lo : (encO os).length = os.length := by simp [encO]
  have r1 : IsD (PSt.start os).sh = (List.replicate os.length [PyData.int (-1)]).flatten := by
    rw [rep_one]
    show List.map PyData.int (List.replicate os.length (-1)) = _
    rw [List.map_replicate]
  have dm : dMul (.list [.int (-1)]) (.int ((encO os).length : Nat)) = some (.nw (.list (List.replicate os.length [PyData.int (-1)]).flatten)) := by
    rw [lo]
    have c : ((os.length : Nat) : Int) ≤ 1000000 ∧ -1000000 ≤ ((os.length : Nat) : Int) ∧ [PyData.int (-1)].length * ((os.length : Nat) : Int).toNat ≤ big := by
      refine ⟨by omega, by omega, ?_⟩
      rw [Int.toNat_natCast]
      unfold big
      simp
      omega
    simp only [dMul]
    rw [if_pos c, Int.toNat_natCast]
  let S : Option D → List Sl := fun z => [.va (.tuple (encO os)), .va (.tuple (encW ws)), .va (seqD tp (IsD (natI turn))), .ce false (.list (IsD (PSt.start os).sh)), .un, (match z with | none => .un | some d => .va d), .un, .un, .un, .un, .un, .un, .un, .un, .un, .un, .un, .un]
  have e1 : sAsg 3 (vBin dMul (vLst (aCons (vUn dNeg (vC (.int 1))) aNil)) (vFn nLen (aCons (vVar 0) aNil))) (mkG 18 [false, false, false] [.tuple (encO os), .tuple (encW ws), seqD tp (IsD (natI turn))]) = .ok .nx (S none) := by
    show _ = R.ok Fl.nx [.va (.tuple (encO os)), .va (.tuple (encW ws)), .va (seqD tp (IsD (natI turn))), .ce false (.list (IsD (PSt.start os).sh)), .un, .un, .un, .un, .un, .un, .un, .un, .un, .un, .un, .un, .un, .un]
    rw [r1]
    exact Eq.trans (asg_nw (bin_at (lst_at' rfl rfl (by simp)) (fn_at rfl rfl rfl) rfl rfl dm) rfl) rfl
  have qd : (encO os).map (fun d => match d with | .tuple xs => xs | _ => []) = os.map IsD := by
    unfold encO
    rw [List.map_map]
    rfl
  have e2 : sAsgN 4 [12, 13, 14, 15, 16, 17] (iSeq (vVar 0)) (GL.gName 5) cYes (vFn nList (aCons (vVar 5) aNil)) [5] (S none) =
      .ok .nx (.va (.tuple (encO os)) :: .va (.tuple (encW ws)) :: .va (seqD tp (IsD (natI turn))) :: .ce false (.list (IsD (PSt.start os).sh)) :: .ow false (.lst ((gs6.take os.length).map .inr)) :: .un :: .un :: .un :: .un :: .un :: .un :: .un :: gG os (PSt.start os).as) := by
    refine (asgN_at S none (S none) (fun d => some d) (fun d => match d with | .tuple xs => xs | _ => []) rfl (fun z => by cases z <;> rfl) (fun z => by cases z <;> rfl) rfl (fun z => by cases z <;> rfl) fun d m => ?_).trans ?_
    · obtain ⟨o, _, rfl⟩ := List.mem_map.mp m
      exact ⟨rfl, rfl⟩
    · rw [qd]
      clear he hc hr hg hnone e1 qd dm r1 lo
      revert S
      match os, h6 with
      | [], _ => intro S; rfl
      | [_], _ => intro S; rfl
      | [_, _], _ => intro S; rfl
      | [_, _, _], _ => intro S; rfl
      | [_, _, _, _], _ => intro S; rfl
      | [_, _, _, _, _], _ => intro S; rfl
      | [_, _, _, _, _, _], _ => intro S; rfl
      | _ :: _ :: _ :: _ :: _ :: _ :: _ :: _, h => simp at h
  have e3 : sAsg 6 (vLst aNil) (.va (.tuple (encO os)) :: .va (.tuple (encW ws)) :: .va (seqD tp (IsD (natI turn))) :: .ce false (.list (IsD (PSt.start os).sh)) :: .ow false (.lst ((gs6.take os.length).map .inr)) :: .un :: .un :: .un :: .un :: .un :: .un :: .un :: gG os (PSt.start os).as) =
      .ok .nx (encA os ws turn tp (PSt.start os).sh (gG os (PSt.start os).as) [] .un .un .un .un .un) := rfl
  have e4 : sAsgF 7 (vLc (iSeq (vVar 2)) (GL.gName 8) cLeft (vVar 8) [8]) (encA os ws turn tp (PSt.start os).sh (gG os (PSt.start os).as) [] .un .un .un .un .un) = .ok .nx (encS os ws turn tp (PSt.start os)) := by
    have q := some_ok (os := os) (ws := ws) (turn := turn) (tp := tp) (s := PSt.start os) (so := .un) (s9 := .un) (s10 := .un) (s11 := .un) (ak := []) (z := none) (c := cLeft) (fun t ht => by
      rw [cLeft_ok ht h6]
      have e : freeT os (PSt.start os).sh (PSt.start os).as t = decide ((PSt.start os).as.getD t 0 < (os.getD t []).length) := by
        have e0 : (PSt.start os).sh.getD t 0 = -1 := getD_rep ht
        unfold freeT
        rw [decide_eq_true e0, Bool.true_and]
      rw [e]) ok
    exact Eq.trans (asgF_nw q rfl) rfl
  exact runB_rt ((seq_nx e1).trans ((seq_nx e2).trans ((seq_nx e3).trans ((seq_nx e4).trans ((seq_nx he).trans rfl))))) rfl
end
end WK

set_option Elab.async false
set_option linter.all false
set_option autoImplicit false
set_option maxRecDepth 100000
set_option maxHeartbeats 2000000
namespace WK
open PySem GL
/-! ### _law_take -/
structure TS where
  sc : List Int
  i : Nat
  c : Int
  sd : Int
def encT (s : TS) : D := .list [.list (IsD s.sc), .int ((s.i : Nat) : Int), .int s.c, .int s.sd]
def okT (s : TS) : Prop := 0 ≤ s.sd ∧ s.sd < 2147483648
def stT (l : List D) (b : Int) (s2 s3 : Sl) : List Sl := [.ce true (.list l), .va (.int b), s2, s3]
theorem ix4 {l : List D} {k : Nat} {x : D} (h : l[k]? = some x) (bb : Int) (s2 s3 : Sl) : vBin dIx (vVar 0) (vC (.int ((k : Nat) : Int))) (stT l bb s2 s3) = .ok (.pv x) (stT l bb s2 s3) := bin_at (x := .list l) (y := .int ((k : Nat) : Int)) rfl rfl rfl rfl (dIx_lst h)
theorem dMod_ok {a b : Int} (h : 0 < b) : dMod (.int a) (.int b) = some (.pv (.int (a % b))) := by simp only [dMod, if_pos h]
theorem dFdiv_ok {a b : Int} (h : 0 < b ∧ b < 1073741824) : dFdiv (.int a) (.int b) = some (.pv (.int (a / b))) := by simp only [dFdiv, if_pos h]
theorem dPow18 : dPow (.int 10) (.int 18) = some (.pv (.int 1000000000000000000)) := by rfl
theorem dMul_a (a : Int) : dMul (.int a) (.int 48271) = some (.pv (.int (a * 48271))) := by
  have e : (small64 a || small64 48271) = true := by
    have : small64 48271 = true := by decide
    rw [this, Bool.or_true]
  simp only [dMul]
  rw [if_pos e]
theorem dMul_7 (a : Int) : dMul (.int 7) (.int a) = some (.pv (.int (7 * a))) := by
  have e : (small64 7 || small64 a) = true := by
    have : small64 7 = true := by decide
    rw [this, Bool.true_or]
  simp only [dMul]
  rw [if_pos e]
theorem dPow3 {a : Int} (h : 0 ≤ a ∧ a < 2147483648) : dPow (.int a) (.int 3) = some (.pv (.int (a ^ 3))) := by
  have e : (0 : Int) ≤ 3 ∧ (3 : Int) ≤ 1000 ∧ a.natAbs < 2 ^ 64 := ⟨by decide, by decide, by omega⟩
  simp only [dPow]
  rw [if_pos e]
  rfl
theorem e_take (s : TS) (hs : okT s) {b : Int} (hb : 0 < b ∧ b < 1073741824) : ∃ (r : Int) (s' : TS), 0 ≤ r ∧ r < b ∧ okT s' ∧ m__law_take [encT s, .int b] = .ok (.pv (.int r)) [encT s'] := by
  obtain ⟨sc, i, c, sd⟩ := s
  unfold m__law_take s__law_take
  have hm : ∀ a : Int, 0 ≤ a % b ∧ a % b < b := fun a => ⟨Int.emod_nonneg _ (by omega), Int.emod_lt_of_pos _ hb.1⟩
  let l : List D := [.list (IsD sc), .int ((i : Nat) : Int), .int c, .int sd]
  have c0 : cV (vBin dGt (vBin dIx (vVar 0) (vC (.int 2))) (vC (.int 0))) (stT l b .un .un) = .ok (decide (0 < c)) (stT l b .un .un) := cV_at (bin_at (x := .int c) (y := .int 0) (ix4 (k := 2) rfl b _ _) rfl rfl rfl rfl)
  by_cases hc : 0 < c
  · rw [decide_eq_true hc] at c0
    have a1 : sAsgF 2 (vBin dMod (vBin dIx (vVar 0) (vC (.int 2))) (vVar 1)) (stT l b .un .un) = .ok .nx (stT l b (.va (.int (c % b))) .un) :=
      Eq.trans (asgF_pv (bin_at (x := .int c) (y := .int b) (ix4 (k := 2) rfl b _ _) rfl rfl rfl (dMod_ok hb.1)) rfl) rfl
    have a2 : sSub (vBin dFdiv (vBin dIx (vVar 0) (vC (.int 2))) (vVar 1)) (vVar 0) (vC (.int 2)) (stT l b (.va (.int (c % b))) .un) = .ok .nx (stT [.list (IsD sc), .int ((i : Nat) : Int), .int (c / b), .int sd] b (.va (.int (c % b))) .un) :=
      Eq.trans (sub_at (j := 0) (m := 2) (k := 2) (b := true) (bin_at (x := .int c) (y := .int b) (ix4 (k := 2) rfl b _ _) rfl rfl rfl (dFdiv_ok hb)) rfl rfl rfl rfl (ixN_nat (n := 4) (i := 2) (by decide))) rfl
    refine ⟨c % b, ⟨sc, i, c / b, sd⟩, (hm c).1, (hm c).2, hs, ?_⟩
    exact runB_rt (seq_rt ((if_tt c0).trans ((seq_nx a1).trans ((seq_nx a2).trans rfl)))) rfl
  · rw [decide_eq_false hc] at c0
    have a1 : sAsgF 3 (vC (.int 0)) (stT l b .un .un) = .ok .nx (stT l b .un (.va (.int 0))) := rfl
    -- the cell
    obtain ⟨cell, a2⟩ : ∃ cell : Int, sIf (cV (vBin dLt (vBin dIx (vVar 0) (vC (.int 1))) (vFn nLen (aCons (vBin dIx (vVar 0) (vC (.int 0))) aNil)))) (sAsgF 3 (vBin dIx (vBin dIx (vVar 0) (vC (.int 0))) (vBin dIx (vVar 0) (vC (.int 1))))) sNx (stT l b .un (.va (.int 0))) = .ok .nx (stT l b .un (.va (.int cell))) := by
      have k1 : cV (vBin dLt (vBin dIx (vVar 0) (vC (.int 1))) (vFn nLen (aCons (vBin dIx (vVar 0) (vC (.int 0))) aNil))) (stT l b .un (.va (.int 0))) = .ok (decide (((i : Nat) : Int) < ((IsD sc).length : Nat))) (stT l b .un (.va (.int 0))) :=
        cV_at (bin_at (x := .int ((i : Nat) : Int)) (y := .int ((IsD sc).length : Nat)) (ix4 (k := 1) rfl b _ _) (fn_at (acons_at (ix4 (k := 0) rfl b _ _) rfl) rfl rfl) rfl rfl rfl)
      by_cases q : ((i : Nat) : Int) < ((IsD sc).length : Nat)
      · rw [decide_eq_true q] at k1
        have q2 : i < sc.length := by
          rw [List.length_map] at q
          exact_mod_cast q
        exact ⟨sc.getD i 0, (if_tt k1).trans (Eq.trans (asgF_pv (bin_at (x := .list (IsD sc)) (y := .int ((i : Nat) : Int)) (ix4 (k := 0) rfl b _ _) (ix4 (k := 1) rfl b _ _) rfl rfl (dIx_lst (IsD_get q2))) rfl) rfl)⟩
      · rw [decide_eq_false q] at k1
        exact ⟨0, (if_ff k1).trans rfl⟩
    let l2 : List D := [.list (IsD sc), .int (((i : Nat) : Int) + 1), .int c, .int sd]
    have a3 : sSub (vBin dAdd (vBin dIx (vVar 0) (vC (.int 1))) (vC (.int 1))) (vVar 0) (vC (.int 1)) (stT l b .un (.va (.int cell))) = .ok .nx (stT l2 b .un (.va (.int cell))) :=
      Eq.trans (sub_at (j := 0) (m := 1) (k := 1) (b := true) (bin_at (x := .int ((i : Nat) : Int)) (y := .int 1) (ix4 (k := 1) rfl b _ _) rfl rfl rfl rfl) rfl rfl rfl rfl (ixN_nat (n := 4) (i := 1) (by decide))) rfl
    have k4 : cV (vBin dGe (vVar 3) (vBin dPow (vC (.int 10)) (vC (.int 18)))) (stT l2 b .un (.va (.int cell))) = .ok (decide ((1000000000000000000 : Int) ≤ cell)) (stT l2 b .un (.va (.int cell))) :=
      cV_at (bin_at (x := .int cell) (y := .int 1000000000000000000) rfl (bin_at rfl rfl rfl rfl dPow18) rfl rfl rfl)
    by_cases hbig : (1000000000000000000 : Int) ≤ cell
    · rw [decide_eq_true hbig] at k4
      have a5 : sSub (vBin dFdiv (vVar 3) (vVar 1)) (vVar 0) (vC (.int 2)) (stT l2 b .un (.va (.int cell))) = .ok .nx (stT [.list (IsD sc), .int (((i : Nat) : Int) + 1), .int (cell / b), .int sd] b .un (.va (.int cell))) :=
        Eq.trans (sub_at (j := 0) (m := 2) (k := 2) (b := true) (bin_at (x := .int cell) (y := .int b) rfl rfl rfl rfl (dFdiv_ok hb)) rfl rfl rfl rfl (ixN_nat (n := 4) (i := 2) (by decide))) rfl
      have a6 : sRet (vBin dMod (vVar 3) (vVar 1)) (stT [.list (IsD sc), .int (((i : Nat) : Int) + 1), .int (cell / b), .int sd] b .un (.va (.int cell))) = .ok (.rt (.pv (.int (cell % b)))) (stT [.list (IsD sc), .int (((i : Nat) : Int) + 1), .int (cell / b), .int sd] b .un (.va (.int cell))) :=
        ret_pv (bin_at (x := .int cell) (y := .int b) rfl rfl rfl rfl (dMod_ok hb.1))
      refine ⟨cell % b, ⟨sc, i + 1, cell / b, sd⟩, (hm cell).1, (hm cell).2, hs, ?_⟩
      exact runB_rt ((seq_nx ((if_ff c0).trans rfl)).trans ((seq_nx a1).trans ((seq_nx a2).trans ((seq_nx a3).trans (seq_rt ((if_tt k4).trans ((seq_nx a5).trans a6))))))) rfl
    · rw [decide_eq_false hbig] at k4
      let s2 : Int := (sd * 48271 + cell % 2147483629 + 7 * (((i : Nat) : Int) + 1)) % 2147483647
      have hs2 : 0 ≤ s2 ∧ s2 < 2147483648 := ⟨Int.emod_nonneg _ (by decide), by have := Int.emod_lt_of_pos (sd * 48271 + cell % 2147483629 + 7 * (((i : Nat) : Int) + 1)) (b := 2147483647) (by decide); show _ % 2147483647 < _; omega⟩
      have a5 : sSub (vBin dMod (vBin dAdd (vBin dAdd (vBin dMul (vBin dIx (vVar 0) (vC (.int 3))) (vC (.int 48271))) (vBin dMod (vVar 3) (vC (.int 2147483629)))) (vBin dMul (vC (.int 7)) (vBin dIx (vVar 0) (vC (.int 1))))) (vC (.int 2147483647))) (vVar 0) (vC (.int 3)) (stT l2 b .un (.va (.int cell))) =
          .ok .nx (stT [.list (IsD sc), .int (((i : Nat) : Int) + 1), .int c, .int s2] b .un (.va (.int cell))) := by
        refine Eq.trans (sub_at (j := 0) (m := 3) (k := 3) (b := true) (cs := l2) (d := .int s2) (h := .pv (.int s2)) (γ1 := stT l2 b .un (.va (.int cell))) ?_ rfl rfl rfl rfl (ixN_nat (n := 4) (i := 3) (by decide))) rfl
        have b1 : vBin dMul (vBin dIx (vVar 0) (vC (.int 3))) (vC (.int 48271)) (stT l2 b .un (.va (.int cell))) = .ok (.pv (.int (sd * 48271))) (stT l2 b .un (.va (.int cell))) := bin_at (x := .int sd) (y := .int 48271) (ix4 (k := 3) rfl b _ _) rfl rfl rfl (dMul_a sd)
        have b2 : vBin dMod (vVar 3) (vC (.int 2147483629)) (stT l2 b .un (.va (.int cell))) = .ok (.pv (.int (cell % 2147483629))) (stT l2 b .un (.va (.int cell))) := bin_at (x := .int cell) (y := .int 2147483629) rfl rfl rfl rfl (dMod_ok (by decide))
        have b3 : vBin dMul (vC (.int 7)) (vBin dIx (vVar 0) (vC (.int 1))) (stT l2 b .un (.va (.int cell))) = .ok (.pv (.int (7 * (((i : Nat) : Int) + 1)))) (stT l2 b .un (.va (.int cell))) := bin_at (x := .int 7) (y := .int (((i : Nat) : Int) + 1)) rfl (ix4 (k := 1) rfl b _ _) rfl rfl (dMul_7 _)
        exact bin_at (x := .int (sd * 48271 + cell % 2147483629 + 7 * (((i : Nat) : Int) + 1))) (y := .int 2147483647) (bin_at (x := .int (sd * 48271 + cell % 2147483629)) (y := .int (7 * (((i : Nat) : Int) + 1))) (bin_at b1 b2 rfl rfl rfl) b3 rfl rfl rfl) rfl rfl rfl (dMod_ok (by decide))
      have a6 : sRet (vBin dMod (vBin dFdiv (vBin dMod (vBin dPow (vBin dIx (vVar 0) (vC (.int 3))) (vC (.int 3))) (vC (.int 2147483629))) (vC (.int 64))) (vVar 1)) (stT [.list (IsD sc), .int (((i : Nat) : Int) + 1), .int c, .int s2] b .un (.va (.int cell))) =
          .ok (.rt (.pv (.int (s2 ^ 3 % 2147483629 / 64 % b)))) (stT [.list (IsD sc), .int (((i : Nat) : Int) + 1), .int c, .int s2] b .un (.va (.int cell))) :=
        ret_pv (bin_at (x := .int (s2 ^ 3 % 2147483629 / 64)) (y := .int b) (bin_at (x := .int (s2 ^ 3 % 2147483629)) (y := .int 64) (bin_at (x := .int (s2 ^ 3)) (y := .int 2147483629) (bin_at (x := .int s2) (y := .int 3) (ix4 (k := 3) rfl b _ _) rfl rfl rfl (dPow3 hs2)) rfl rfl rfl (dMod_ok (by decide))) rfl rfl rfl (dFdiv_ok (by decide))) rfl rfl rfl (dMod_ok hb.1))
      refine ⟨s2 ^ 3 % 2147483629 / 64 % b, ⟨sc, i + 1, c, s2⟩, (hm _).1, (hm _).2, hs2, ?_⟩
      exact runB_rt ((seq_nx ((if_ff c0).trans rfl)).trans ((seq_nx a1).trans ((seq_nx a2).trans ((seq_nx a3).trans ((seq_nx ((if_ff k4).trans rfl)).trans ((seq_nx a5).trans a6)))))) rfl
/-! ### _law_drawn_order -/
structure DO where
  st : TS
  lf : List D
  fd : List D
def encD (pool : D) (many : Int) (a : DO) : List Sl := [.ce true (encT a.st), .va pool, .va (.int many), .ce false (.list a.lf), .ce false (.list a.fd), .un]
theorem range_get {lo : Int} {n i : Nat} {d : D} (h : (rangeD lo n)[i]? = some d) : i < n ∧ d = .int (lo + ((i : Nat) : Int)) := by
  unfold rangeD at h
  rw [List.getElem?_map] at h
  by_cases q : i < n
  · rw [List.getElem?_range q] at h
    cases h
    exact ⟨q, rfl⟩
  · rw [List.getElem?_eq_none (by simpa using Nat.le_of_not_lt q)] at h
    cases h
theorem range_len (lo : Int) (n : Nat) : (rangeD lo n).length = n := by simp [rangeD]
theorem e_drawn_order (s : TS) (hs : okT s) (tp : Bool) (ds : List D) (hd : ds.length ≤ 100000) {many : Int} (hm : -1000000 ≤ many ∧ many ≤ 1000000) :
    ∃ (r : List D) (s' : TS), okT s' ∧ (∀ d ∈ r, d ∈ ds) ∧ r.length ≤ ds.length ∧ ((r.length : Nat) : Int) ≤ max many 0 ∧ m__law_drawn_order [encT s, seqD tp ds, .int many] = .ok (.pv (.tuple r)) [encT s'] := by
  unfold m__law_drawn_order s__law_drawn_order
  have a1 : sAsg 3 (vFn nList (aCons (vVar 1) aNil)) (mkG 6 [true, false, false] [encT s, seqD tp ds, .int many]) = .ok .nx [.ce true (encT s), .va (seqD tp ds), .va (.int many), .ce false (.list ds), .un, .un] :=
    Eq.trans (asg_nw (fn_at (ds := [seqD tp ds]) rfl (by cases tp <;> rfl) (by cases tp <;> rfl)) rfl) rfl
  have a2 : sAsg 4 (vLst aNil) [.ce true (encT s), .va (seqD tp ds), .va (.int many), .ce false (.list ds), .un, .un] = .ok .nx (encD (seqD tp ds) many ⟨s, ds, []⟩) := rfl
  let n : Int := if ((ds.length : Nat) : Int) < many then ((ds.length : Nat) : Int) else many
  have hn : n ≤ ((ds.length : Nat) : Int) ∧ n ≤ 1000000 ∧ -1000000 ≤ n ∧ n ≤ many := by
    show (if ((ds.length : Nat) : Int) < many then ((ds.length : Nat) : Int) else many) ≤ _ ∧ (if ((ds.length : Nat) : Int) < many then ((ds.length : Nat) : Int) else many) ≤ _ ∧ _ ≤ (if ((ds.length : Nat) : Int) < many then ((ds.length : Nat) : Int) else many) ∧ (if ((ds.length : Nat) : Int) < many then ((ds.length : Nat) : Int) else many) ≤ _
    split <;> omega
  have a3 : iRange1 (aCons (vFn nMin (aCons (vVar 2) (aCons (vFn nLen (aCons (vVar 3) aNil)) aNil))) aNil) (encD (seqD tp ds) many ⟨s, ds, []⟩) = .ok (rangeD 0 n.toNat) (encD (seqD tp ds) many ⟨s, ds, []⟩) := by
    have e : aCons (vFn nMin (aCons (vVar 2) (aCons (vFn nLen (aCons (vVar 3) aNil)) aNil))) aNil (encD (seqD tp ds) many ⟨s, ds, []⟩) = .ok [.pv (.int n)] (encD (seqD tp ds) many ⟨s, ds, []⟩) :=
      acons_at (fn_at (ds := [.int many, .int ((ds.length : Nat) : Int)]) (acons_at rfl (acons_at (fn_at (ds := [.list ds]) (acons_at rfl rfl) rfl rfl) rfl)) rfl rfl) rfl
    unfold iRange1
    rw [e]
    simp only [R.bind]
    rw [if_pos ⟨hn.2.1, hn.2.2.1⟩]
  obtain ⟨a', ⟨i1, i2, i3, i4, i5⟩, e4⟩ := forL_all (g := GL.gName 5) (b := sExpr (vMt mAppend (vVar 4) (aCons (vMt mPopAt (vVar 3) (aCons (vCall [true, false] m__law_take (aCons (vVar 0) (aCons (vFn nLen (aCons (vVar 3) aNil)) aNil))) aNil)) aNil))) (fg := [5]) (encD (seqD tp ds) many)
    (fun k a => okT a.st ∧ (∀ d ∈ a.lf, d ∈ ds) ∧ (∀ d ∈ a.fd, d ∈ ds) ∧ a.lf.length + a.fd.length = ds.length ∧ a.fd.length = k) (rangeD 0 n.toNat) 0 ⟨s, ds, []⟩ (encD (seqD tp ds) many ⟨s, ds, []⟩) ⟨hs, fun d m => m, fun d m => (nomatch m), Nat.add_zero _, rfl⟩ rfl fun i a d hd0 ⟨j1, j2, j3, j4, j5⟩ => by
      obtain ⟨k1, rfl⟩ := range_get hd0
      have hpos : 0 < a.lf.length := by omega
      obtain ⟨r, s', r1, r2, r3, r4⟩ := e_take a.st j1 (b := ((a.lf.length : Nat) : Int)) (by omega)
      have hr : r.toNat < a.lf.length := by omega
      have er : ((r.toNat : Nat) : Int) = r := by omega
      have g1 : a.lf[r.toNat]? = some a.lf[r.toNat] := List.getElem?_eq_getElem hr
      have em : L2.ixN a.lf.length r = some r.toNat := by
        have z := ixN_nat hr
        rw [er] at z
        exact z
      let γ1 : List Sl := [.ce true (encT a.st), .va (seqD tp ds), .va (.int many), .ce false (.list a.lf), .ce false (.list a.fd), .va (.int (0 + ((i : Nat) : Int)))]
      have t1 : vCall [true, false] m__law_take (aCons (vVar 0) (aCons (vFn nLen (aCons (vVar 3) aNil)) aNil)) γ1 = .ok (.pv (.int r)) [.ce true (encT s'), .va (seqD tp ds), .va (.int many), .ce false (.list a.lf), .ce false (.list a.fd), .va (.int (0 + ((i : Nat) : Int)))] :=
        Eq.trans (call_any (γ1 := γ1) (hs := [.cl 0, .pv (.int ((a.lf.length : Nat) : Int))]) (ds := [encT a.st, .int ((a.lf.length : Nat) : Int)]) (acons_at rfl (acons_at (fn_at (ds := [.list a.lf]) (acons_at rfl rfl) rfl rfl) rfl)) rfl r4 rfl) rfl
      have t2 : vMt mPopAt (vVar 3) (aCons (vCall [true, false] m__law_take (aCons (vVar 0) (aCons (vFn nLen (aCons (vVar 3) aNil)) aNil))) aNil) γ1 = .ok (.pv a.lf[r.toNat]) [.ce true (encT s'), .va (seqD tp ds), .va (.int many), .ce false (.list (a.lf.eraseIdx r.toNat)), .ce false (.list a.fd), .va (.int (0 + ((i : Nat) : Int)))] :=
        Eq.trans (mt_at (b := false) (cs := a.lf) (ds := [.int r]) (cs' := a.lf.eraseIdx r.toNat) rfl rfl (acons_at t1 rfl) rfl rfl (by simp only [mPopAt, em, Option.bind_some, g1, Option.map_some])) rfl
      have hb : a.fd.length < big := by
        unfold big
        omega
      refine ⟨γ1, [.ce true (encT s'), .va (seqD tp ds), .va (.int many), .ce false (.list (a.lf.eraseIdx r.toNat)), .ce false (.list (a.fd ++ [a.lf[r.toNat]])), .va (.int (0 + ((i : Nat) : Int)))], ⟨s', a.lf.eraseIdx r.toNat, a.fd ++ [a.lf[r.toNat]]⟩, rfl, ?_, rfl, ⟨r3, ?_, ?_, ?_, ?_⟩⟩
      · exact Eq.trans (expr_at (mt_at (b := false) (cs := a.fd) (cs' := a.fd ++ [a.lf[r.toNat]]) rfl rfl (acons_at t2 rfl) rfl rfl (by simp only [mAppend, if_pos hb]; rfl))) rfl
      · exact fun d m => j2 d (List.mem_of_mem_eraseIdx m)
      · intro d m
        rcases List.mem_append.mp m with m | m
        · exact j3 d m
        · rw [List.mem_singleton.mp m]
          exact j2 _ (List.getElem_mem hr)
      · show (a.lf.eraseIdx r.toNat).length + (a.fd ++ [a.lf[r.toNat]]).length = _
        rw [List.length_eraseIdx_of_lt hr, List.length_append, List.length_singleton]
        omega
      · show (a.fd ++ [a.lf[r.toNat]]).length = _
        rw [List.length_append, List.length_singleton]
        omega
  rw [range_len] at i5
  refine ⟨a'.fd, a'.st, i1, i3, by omega, by omega, ?_⟩
  exact runB_rt ((seq_nx a1).trans ((seq_nx a2).trans ((seq_nx ((for_at a3).trans e4)).trans (ret_pv (fn_at (ds := [.list a'.fd]) (acons_at rfl rfl) rfl rfl))))) rfl
end WK

set_option Elab.async false
set_option linter.all false
set_option autoImplicit false
set_option maxRecDepth 100000
set_option maxHeartbeats 2000000
namespace WK
open PySem GL
/-! ### _law_is_plain -/
theorem kb1 : L2.kitB "tuple" "tuple" = some true := by decide +kernel
theorem kb2 : L2.kitB "int" "tuple" = some false := by decide +kernel
theorem kb3 : L2.kitB "str" "tuple" = some false := by decide +kernel
theorem kb4 : L2.kitB "int" "int" = some true := by decide +kernel
theorem kb5 : L2.kitB "str" "int" = some false := by decide +kernel
theorem kb6 : L2.kitB "str" "str" = some true := by decide +kernel
theorem kb7 : L2.kitB "int" "bool" = some false := by decide +kernel
theorem kb8 : L2.kitB "str" "bool" = some false := by decide +kernel
theorem is_at {cs : List String} {f : SE} {γ γ1 : List Sl} {h : Hd} {d : D} {b : Bool} (e : f γ = .ok h γ1) (x : rs γ1 h = some d) (k : isK cs d = some b) : vIs cs f γ = .ok (.pv (.bool b)) γ1 := by
  unfold vIs
  rw [e]
  simp only [R.bind, x, Option.bind_some, k, Option.map_some, fin1]
theorem plain_int (mp : Fn) (i : Int) : runB 2 [false] (s__law_is_plain mp) [.int i] = .ok (.pv (.bool true)) [] := by
  unfold s__law_is_plain
  have e1 : cV (vIs ["tuple"] (vVar 0)) [.va (.int i), .un] = .ok false [.va (.int i), .un] := cV_at (is_at (d := .int i) rfl rfl (by simp only [isK, tyD, kb2]))
  have e2 : vIs ["int", "str"] (vVar 0) [.va (.int i), .un] = .ok (.pv (.bool true)) [.va (.int i), .un] := is_at (d := .int i) rfl rfl (by simp only [isK, tyD, kb4])
  have e3 : vIs ["bool"] (vVar 0) [.va (.int i), .un] = .ok (.pv (.bool false)) [.va (.int i), .un] := is_at (d := .int i) rfl rfl (by simp only [isK, tyD, kb7])
  have e4 : vAnd (vIs ["int", "str"] (vVar 0)) (vNot (vIs ["bool"] (vVar 0))) [.va (.int i), .un] = .ok (.pv (.bool true)) [.va (.int i), .un] := by
    simp only [vAnd, e2, R.bind, vNot, e3, Bool.not_false]
  exact runB_rt (γ := [.va (.int i), .un]) ((seq_nx ((if_ff e1).trans rfl)).trans (ret_pv e4)) rfl
theorem plain_str (mp : Fn) (i : Str) : runB 2 [false] (s__law_is_plain mp) [.str i] = .ok (.pv (.bool true)) [] := by
  unfold s__law_is_plain
  have e1 : cV (vIs ["tuple"] (vVar 0)) [.va (.str i), .un] = .ok false [.va (.str i), .un] := cV_at (is_at (d := .str i) rfl rfl (by simp only [isK, tyD, kb3]))
  have e2 : vIs ["int", "str"] (vVar 0) [.va (.str i), .un] = .ok (.pv (.bool true)) [.va (.str i), .un] := is_at (d := .str i) rfl rfl (by simp only [isK, tyD, kb5, kb6])
  have e3 : vIs ["bool"] (vVar 0) [.va (.str i), .un] = .ok (.pv (.bool false)) [.va (.str i), .un] := is_at (d := .str i) rfl rfl (by simp only [isK, tyD, kb8])
  have e4 : vAnd (vIs ["int", "str"] (vVar 0)) (vNot (vIs ["bool"] (vVar 0))) [.va (.str i), .un] = .ok (.pv (.bool true)) [.va (.str i), .un] := by
    simp only [vAnd, e2, R.bind, vNot, e3, Bool.not_false]
  exact runB_rt (γ := [.va (.str i), .un]) ((seq_nx ((if_ff e1).trans rfl)).trans (ret_pv e4)) rfl
theorem boolsD_true : ∀ ds : List D, boolsD (ds.map fun _ => PyData.bool true) = some (ds.map fun _ => true)
  | [] => rfl
  | d :: ds => by
    show (boolsD (ds.map fun _ => PyData.bool true)).map (true :: ·) = _
    rw [boolsD_true ds]
    rfl
theorem all_true : ∀ ds : List D, (ds.map fun _ => true).all id = true
  | [] => rfl
  | d :: ds => by
    show (id true && (ds.map fun _ => true).all id) = true
    rw [all_true ds]
    rfl
def noDct : D → Bool
  | .dict _ => false
  | _ => true
theorem arg1 {d : D} {γ : List Sl} (h : noDct d = true) : callArgs [false] [.pv d] γ = some [d] := by
  cases d with
  | dict _ => cases h
  | _ => rfl
theorem plain_tup {mp : Fn} {ds : List D} (h : ∀ d ∈ ds, noDct d = true ∧ mp [d] = .ok (.pv (.bool true)) []) : runB 2 [false] (s__law_is_plain mp) [.tuple ds] = .ok (.pv (.bool true)) [] := by
  unfold s__law_is_plain
  let S : Option D → List Sl := fun z => [.va (.tuple ds), (match z with | none => .un | some d => .va d)]
  have e1 : cV (vIs ["tuple"] (vVar 0)) (S none) = .ok true (S none) := cV_at (is_at (d := .tuple ds) rfl rfl (by simp only [isK, tyD, kb1]))
  have e2 : vLc (iSeq (vVar 0)) (GL.gName 1) cYes (vCall [false] mp (aCons (vVar 1) aNil)) [1] (S none) = .ok (.nw (.list ((ds.filter fun _ => true).map fun _ => .bool true))) (S none) :=
    vLc_at S none (S none) (fun d => some d) (fun _ => true) (fun _ => .bool true) rfl (fun z => by cases z <;> rfl) (fun z => by cases z <;> rfl) rfl (fun z => by cases z <;> rfl) fun d m => ⟨rfl, rfl, fun _ => ⟨_, call_pv rfl (arg1 (h d m).1) rfl (h d m).2 (.inl rfl), rfl⟩⟩
  have e0 : (ds.filter fun _ => true) = ds := List.filter_eq_self.mpr fun _ _ => rfl
  rw [e0] at e2
  have e3 : vFn nAll (aCons (vLc (iSeq (vVar 0)) (GL.gName 1) cYes (vCall [false] mp (aCons (vVar 1) aNil)) [1]) aNil) (S none) = .ok (.pv (.bool true)) (S none) :=
    fn_at (acons_at e2 rfl) rfl (by
      show (boolsD (ds.map fun _ => PyData.bool true)).map (fun bs => Hd.pv (.bool (bs.all id))) = _
      rw [boolsD_true, Option.map_some, all_true])
  exact runB_rt (γ := S none) (seq_rt ((if_tt e1).trans (ret_pv e3))) rfl
/-! ### _law_right -/
def okAk (d : D) : Prop := ∃ (t w : Int) (x : Str), d = .tuple [.int t, .int w, .str x] ∧ PyData.strOk x = true
theorem answer_word (ws : List Wish) (sh : List Int) (t : Nat) (who : Int) : PyData.strOk (answerW ws sh t who).1 = true := by
  unfold answerW
  split
  · split
    · show PyData.strOk ("turns" : Str) = true
      decide +kernel
    · show PyData.strOk ("takes" : Str) = true
      decide +kernel
  · show PyData.strOk ("no" : Str) = true
    decide +kernel
theorem reach_ak {os : List (List Int)} {ws : List Wish} {turn : List Nat} {s : PSt} (h : Reach os ws turn (PSt.start os) s) : ∀ d ∈ s.ak, okAk d := by
  induction h with
  | refl => exact fun d m => nomatch m
  | @snoc b c hb e ih =>
    unfold stepP at e
    obtain ⟨t, _, rfl⟩ := Option.map_eq_some_iff.mp e
    intro d m
    rcases List.mem_append.mp (show d ∈ b.ak ++ [_] from m) with m | m
    · exact ih d m
    · rw [List.mem_singleton.mp m]
      exact ⟨_, _, _, rfl, answer_word _ _ _ _⟩
theorem e_right {os : List (List Int)} {ws : List Wish} {turn : List Nat} (ok : Okd os turn) (h6 : os.length ≤ 6) (hws : ws.length ≤ 1000) (tp : Bool) : m__law_right [.tuple (encO os), .tuple (encW ws), seqD tp (IsD (natI turn))] = .ok (.pv (.bool true)) [] := by
  obtain ⟨s, r1, n1, _, e1⟩ := e_by_thrones (ws := ws) ok tp (by omega)
  obtain ⟨s2, r2, n2, e2⟩ := e_law_asked (ws := ws) ok h6 hws tp
  have es := reach_none r1 n1 r2 n2
  subst es
  have hak := reach_ak r1
  unfold m__law_right s__law_right
  let fd : D := .tuple [.tuple (IsD s.sh), .tuple s.ak]
  have okF : okD fd = true := by
    refine okD_of (n := 3) (okN_tup fun d m => ?_) (by decide)
    rcases List.mem_cons.mp m with e | m
    · rw [e]
      exact okN_mono (okN_tup (n := 0) (okN_ints s.sh)) (by decide)
    · rw [List.mem_singleton.mp m]
      refine okN_tup fun d m => ?_
      obtain ⟨t, w, x, rfl, hx⟩ := hak d m
      refine okN_tup (n := 0) fun d m => ?_
      simp only [List.mem_cons, List.not_mem_nil, or_false] at m
      rcases m with rfl | rfl | rfl
      · exact okN_int _
      · exact okN_int _
      · exact okN_str hx
  have a1 : sAsgF 3 (vCall [false, false, false] m_by_thrones (aCons (vVar 0) (aCons (vVar 1) (aCons (vVar 2) aNil)))) (mkG 4 [false, false, false] [.tuple (encO os), .tuple (encW ws), seqD tp (IsD (natI turn))]) = .ok .nx [.va (.tuple (encO os)), .va (.tuple (encW ws)), .va (seqD tp (IsD (natI turn))), .va fd] :=
    Eq.trans (asgF_pv (call_pv rfl (by cases tp <;> rfl) rfl e1 (.inl rfl)) rfl) rfl
  let γ : List Sl := [.va (.tuple (encO os)), .va (.tuple (encW ws)), .va (seqD tp (IsD (natI turn))), .va fd]
  have a2 : vBin dEq (vVar 3) (vCall [false, false, false] m__law_asked_by_thrones (aCons (vVar 0) (aCons (vVar 1) (aCons (vVar 2) aNil)))) γ = .ok (.pv (.bool true)) γ :=
    bin_at (x := fd) (y := fd) rfl (call_pv rfl (by cases tp <;> rfl) rfl e2 (.inl rfl)) rfl rfl (dEq_self okF)
  have p1 : m__law_is_plain [fd] = .ok (.pv (.bool true)) [] := by
    refine plain_tup fun d m => ?_
    rcases List.mem_cons.mp m with e | m
    · rw [e]
      refine ⟨rfl, plain_tup fun d m => ?_⟩
      obtain ⟨i, _, rfl⟩ := List.mem_map.mp m
      exact ⟨rfl, plain_int _ i⟩
    · rw [List.mem_singleton.mp m]
      refine ⟨rfl, plain_tup fun d m => ?_⟩
      obtain ⟨t, w, x, rfl, hx⟩ := hak d m
      refine ⟨rfl, plain_tup fun d m => ?_⟩
      simp only [List.mem_cons, List.not_mem_nil, or_false] at m
      rcases m with rfl | rfl | rfl
      · exact ⟨rfl, plain_int _ _⟩
      · exact ⟨rfl, plain_int _ _⟩
      · exact ⟨rfl, plain_str _ _⟩
  have a3 : vCall [false] m__law_is_plain (aCons (vVar 3) aNil) γ = .ok (.pv (.bool true)) γ := call_pv rfl rfl rfl p1 (.inl rfl)
  have a4 : vAnd (vBin dEq (vVar 3) (vCall [false, false, false] m__law_asked_by_thrones (aCons (vVar 0) (aCons (vVar 1) (aCons (vVar 2) aNil))))) (vCall [false] m__law_is_plain (aCons (vVar 3) aNil)) γ = .ok (.pv (.bool true)) γ := by
    simp only [vAnd, a2, R.bind, a3]
  exact runB_rt ((seq_nx a1).trans (ret_pv a4)) rfl
end WK

set_option Elab.async false
set_option linter.all false
set_option autoImplicit false
set_option maxRecDepth 100000
set_option maxHeartbeats 2000000
namespace WK
open PySem GL
theorem ints_of {P : Int → Prop} : ∀ {r : List D}, (∀ d ∈ r, ∃ i : Int, d = .int i ∧ P i) → ∃ xs : List Int, r = IsD xs ∧ ∀ x ∈ xs, P x
  | [], _ => ⟨[], rfl, fun _ m => nomatch m⟩
  | d :: r, h => by
    obtain ⟨i, rfl, p⟩ := h d List.mem_cons_self
    obtain ⟨xs, rfl, q⟩ := ints_of fun d m => h d (List.mem_cons_of_mem _ m)
    exact ⟨i :: xs, rfl, fun x m => (List.mem_cons.mp m).elim (fun e => e ▸ p) (q x)⟩
theorem natsOf {n : Nat} : ∀ {r : List D}, (∀ d ∈ r, d ∈ rangeD 0 n) → ∃ ts : List Nat, r = IsD (natI ts) ∧ ∀ t ∈ ts, t < n
  | [], _ => ⟨[], rfl, fun _ m => nomatch m⟩
  | d :: r, h => by
    obtain ⟨i, e⟩ := List.mem_iff_getElem?.mp (h d List.mem_cons_self)
    obtain ⟨hi, rfl⟩ := range_get e
    obtain ⟨ts, rfl, q⟩ := natsOf fun d m => h d (List.mem_cons_of_mem _ m)
    refine ⟨i :: ts, ?_, fun x m => (List.mem_cons.mp m).elim (fun e => e ▸ hi) (q x)⟩
    rw [Int.zero_add]
    rfl
theorem alike_ii (a b : Int) : PySem.W.alike (.int a) (.int b) = true := by simp [PySem.W.alike]
theorem okSort_ints (xs : List Int) : okSort (IsD xs) = true := by
  unfold okSort
  simp only [Bool.and_eq_true, Bool.or_eq_true, List.all_eq_true]
  refine ⟨⟨okD_lstI xs, fun d m e n => ?_⟩, .inr fun d m => ?_⟩
  · obtain ⟨i, _, rfl⟩ := List.mem_map.mp m
    obtain ⟨j, _, rfl⟩ := List.mem_map.mp n
    exact alike_ii i j
  · obtain ⟨i, _, rfl⟩ := List.mem_map.mp m
    rfl
theorem sortD_mem {ds : List D} {d : D} (h : d ∈ sortD ds) : d ∈ ds := by
  unfold sortD at h
  exact List.mem_mergeSort.mp h
/-! ### _law_thrones -/
theorem lr_at {fa : SA} {γ γ1 : List Sl} {n : Nat} (e : fa γ = .ok [.pv (.int ((n : Nat) : Int))] γ1) (h : n ≤ 1000000) : vLRg fa γ = .ok (.nw (.list (rangeD 0 n))) γ1 := by
  unfold vLRg
  rw [e]
  have c : ((n : Nat) : Int) ≤ 1000000 ∧ -1000000 ≤ ((n : Nat) : Int) := by omega
  simp only [R.bind, bds]
  rw [if_pos c]
  simp only [Option.map_some, fin1, Int.sub_zero, Int.toNat_natCast]
structure Th where
  st : TS
  os : List (List Int)
  ws : List Wish
def encH (most many : Int) (pool : List Int) (st : TS) (s4 s5 s6 s7 s8 : Sl) : List Sl := [.ce true (encT st), .va (.int most), .va (.int many), .va (.list (IsD pool)), s4, s5, s6, s7, s8]
theorem take_in {most many : Int} {pool : List Int} (st : TS) (hs : okT st) {s4 s5 s6 s7 s8 : Sl} {fb : SE} {b : Int} (hb : 0 < b ∧ b < 1073741824) (e : fb (encH most many pool st s4 s5 s6 s7 s8) = .ok (.pv (.int b)) (encH most many pool st s4 s5 s6 s7 s8)) :
    ∃ (r : Int) (st' : TS), 0 ≤ r ∧ r < b ∧ okT st' ∧ vCall [true, false] m__law_take (aCons (vVar 0) (aCons fb aNil)) (encH most many pool st s4 s5 s6 s7 s8) = .ok (.pv (.int r)) (encH most many pool st' s4 s5 s6 s7 s8) := by
  obtain ⟨r, st', h1, h2, h3, h4⟩ := e_take st hs hb
  exact ⟨r, st', h1, h2, h3, Eq.trans (call_any (γ1 := encH most many pool st s4 s5 s6 s7 s8) (hs := [.cl 0, .pv (.int b)]) (ds := [encT st, .int b]) (acons_at rfl (acons_at e rfl)) rfl h4 rfl) rfl⟩
theorem e_thrones (s : TS) (hs : okT s) : ∃ (os : List (List Int)) (ws : List Wish) (s' : TS), okT s' ∧ 1 ≤ os.length ∧ os.length ≤ 6 ∧ (∀ o ∈ os, o.length ≤ 8 ∧ ∀ w ∈ o, 0 ≤ w) ∧ ws.length ≤ 1000 ∧
    m__law_thrones [encT s, .int 6, .int 8] = .ok (.nw (.list [.tuple (encO os), .tuple (encW ws)])) [encT s'] := by
  unfold m__law_thrones s__law_thrones
  -- the pool
  obtain ⟨r, s1, k1, k2, k3, k4, k5⟩ := e_drawn_order s hs false (rangeD 0 61) (by rw [range_len]; decide) (many := 8) (by decide)
  obtain ⟨rt, hr, hrt⟩ := natsOf k2
  have hr8 : r.length ≤ 8 := by omega
  obtain ⟨pool, hp, hpp⟩ : ∃ pool : List Int, sortD r = IsD pool ∧ ∀ x ∈ pool, 0 ≤ x := ints_of fun d m => by
    have m2 := sortD_mem m
    rw [hr] at m2
    obtain ⟨i, mi, rfl⟩ := List.mem_map.mp m2
    obtain ⟨t, mt, rfl⟩ := List.mem_map.mp mi
    exact ⟨_, rfl, Int.natCast_nonneg t⟩
  have hpl : pool.length ≤ 8 := by
    have e : (sortD r).length = r.length := sortD_len
    rw [hp, List.length_map] at e
    omega
  have c1 : vCall [true, false, false] m__law_drawn_order (aCons (vVar 0) (aCons (vLRg (aCons (vC (.int 61)) aNil)) (aCons (vVar 2) aNil))) (mkG 9 [true, false, false] [encT s, .int 6, .int 8]) = .ok (.pv (.tuple r)) [.ce true (encT s1), .va (.int 6), .va (.int 8), .un, .un, .un, .un, .un, .un] :=
    Eq.trans (call_any (γ1 := mkG 9 [true, false, false] [encT s, .int 6, .int 8]) (hs := [.cl 0, .nw (.list (rangeD 0 61)), .pv (.int 8)]) (ds := [encT s, .list (rangeD 0 61), .int 8]) (acons_at rfl (acons_at (lr_at (n := 61) rfl (by decide)) rfl)) rfl k5 rfl) rfl
  have a1 : sAsgF 3 (vFn nSorted (aCons (vCall [true, false, false] m__law_drawn_order (aCons (vVar 0) (aCons (vLRg (aCons (vC (.int 61)) aNil)) (aCons (vVar 2) aNil)))) aNil)) (mkG 9 [true, false, false] [encT s, .int 6, .int 8]) = .ok .nx (encH 6 8 pool s1 .un .un .un .un .un) := by
    refine Eq.trans (asgF_nw (γ1 := [.ce true (encT s1), .va (.int 6), .va (.int 8), .un, .un, .un, .un, .un, .un]) (ds := IsD pool) (fn_at (ds := [.tuple r]) (acons_at c1 rfl) rfl ?_) rfl) rfl
    have o : okSort r = true := by
      rw [hr]
      exact okSort_ints _
    simp only [nSorted]
    rw [if_pos o, hp]
  have a2 : sAsg 4 (vLst aNil) (encH 6 8 pool s1 .un .un .un .un .un) = .ok .nx (encH 6 8 pool s1 (.ce false (.list [])) .un .un .un .un) := rfl
  -- the orders
  obtain ⟨r2, s2, q1, q2, q3, q4⟩ := take_in (most := 6) (many := 8) (pool := pool) s1 k1 (s4 := .ce false (.list [])) (s5 := .un) (s6 := .un) (s7 := .un) (s8 := .un) (fb := vVar 1) (b := 6) (by decide) rfl
  have hn : ((1 + r2).toNat : Int) = 1 + r2 := by omega
  have a3 : iRange1 (aCons (vBin dAdd (vC (.int 1)) (vCall [true, false] m__law_take (aCons (vVar 0) (aCons (vVar 1) aNil)))) aNil) (encH 6 8 pool s1 (.ce false (.list [])) .un .un .un .un) = .ok (rangeD 0 (1 + r2).toNat) (encH 6 8 pool s2 (.ce false (.list [])) .un .un .un .un) := by
    have e : aCons (vBin dAdd (vC (.int 1)) (vCall [true, false] m__law_take (aCons (vVar 0) (aCons (vVar 1) aNil)))) aNil (encH 6 8 pool s1 (.ce false (.list [])) .un .un .un .un) = .ok [.pv (.int (1 + r2))] (encH 6 8 pool s2 (.ce false (.list [])) .un .un .un .un) :=
      acons_at (bin_at (x := .int 1) (y := .int r2) rfl q4 rfl rfl rfl) rfl
    unfold iRange1
    rw [e]
    simp only [R.bind]
    rw [if_pos (by omega)]
  obtain ⟨a', ⟨i1, i2, i3⟩, e4⟩ := forL_all (g := GL.gName 5) (b := sSeq (sAsgF 6 (vBin dIx (vLst (aCons (vFn nLen (aCons (vVar 3) aNil)) (aCons (vFn nLen (aCons (vVar 3) aNil)) (aCons (vCall [true, false] m__law_take (aCons (vVar 0) (aCons (vBin dAdd (vFn nLen (aCons (vVar 3) aNil)) (vC (.int 1))) aNil))) (aCons (vC (.int 1)) aNil))))) (vCall [true, false] m__law_take (aCons (vVar 0) (aCons (vC (.int 4)) aNil)))))
    (sExpr (vMt mAppend (vVar 4) (aCons (vCall [true, false, false] m__law_drawn_order (aCons (vVar 0) (aCons (vVar 3) (aCons (vVar 6) aNil)))) aNil)))) (fg := [5, 6]) (fun a : Th => encH 6 8 pool a.st (.ce false (.list (encO a.os))) .un .un .un .un)
    (fun k a => okT a.st ∧ a.os.length = k ∧ ∀ o ∈ a.os, o.length ≤ 8 ∧ ∀ w ∈ o, 0 ≤ w) (rangeD 0 (1 + r2).toNat) 0 ⟨s2, [], []⟩ (encH 6 8 pool s2 (.ce false (.list [])) .un .un .un .un) ⟨q3, rfl, fun o m => nomatch m⟩ rfl fun i a d hd0 ⟨j1, j2, j3⟩ => by
      obtain ⟨x1, rfl⟩ := range_get hd0
      let v : Sl := .va (.int (0 + ((i : Nat) : Int)))
      let os4 : Sl := .ce false (.list (encO a.os))
      have nl : ∀ st, vFn nLen (aCons (vVar 3) aNil) (encH 6 8 pool st os4 v .un .un .un) = .ok (.pv (.int ((pool.length : Nat) : Int))) (encH 6 8 pool st os4 v .un .un .un) := fun st => fn_at (ds := [.list (IsD pool)]) (acons_at rfl rfl) rfl (by simp only [nLen, List.length_map])
      obtain ⟨t1, st1, u1, u2, u3, u4⟩ := take_in (most := 6) (many := 8) (pool := pool) a.st j1 (s4 := os4) (s5 := v) (s6 := .un) (s7 := .un) (s8 := .un) (fb := vBin dAdd (vFn nLen (aCons (vVar 3) aNil)) (vC (.int 1))) (b := ((pool.length : Nat) : Int) + 1) (by omega) (bin_at (x := .int ((pool.length : Nat) : Int)) (y := .int 1) (nl _) rfl rfl rfl rfl)
      obtain ⟨t2, st2, w1, w2, w3, w4⟩ := take_in (most := 6) (many := 8) (pool := pool) st1 u3 (s4 := os4) (s5 := v) (s6 := .un) (s7 := .un) (s8 := .un) (fb := vC (.int 4)) (b := 4) (by decide) rfl
      let four : List D := [.int ((pool.length : Nat) : Int), .int ((pool.length : Nat) : Int), .int t1, .int 1]
      obtain ⟨sz, z1, z2, z3⟩ : ∃ sz : Int, four[t2.toNat]? = some (.int sz) ∧ 0 ≤ sz ∧ sz ≤ 8 := by
        have c : t2.toNat = 0 ∨ t2.toNat = 1 ∨ t2.toNat = 2 ∨ t2.toNat = 3 := by omega
        rcases c with c | c | c | c <;> rw [c]
        · exact ⟨_, rfl, by omega, by omega⟩
        · exact ⟨_, rfl, by omega, by omega⟩
        · exact ⟨t1, rfl, by omega, by omega⟩
        · exact ⟨1, rfl, by decide, by decide⟩
      have y1 : sAsgF 6 (vBin dIx (vLst (aCons (vFn nLen (aCons (vVar 3) aNil)) (aCons (vFn nLen (aCons (vVar 3) aNil)) (aCons (vCall [true, false] m__law_take (aCons (vVar 0) (aCons (vBin dAdd (vFn nLen (aCons (vVar 3) aNil)) (vC (.int 1))) aNil))) (aCons (vC (.int 1)) aNil))))) (vCall [true, false] m__law_take (aCons (vVar 0) (aCons (vC (.int 4)) aNil)))) (encH 6 8 pool a.st os4 v .un .un .un) =
          .ok .nx (encH 6 8 pool st2 os4 v (.va (.int sz)) .un .un) := by
        refine Eq.trans (asgF_pv (γ1 := encH 6 8 pool st2 os4 v .un .un .un) (d := .int sz) (bin_at (x := .list four) (y := .int t2) (lst_at' (acons_at (nl _) (acons_at (nl _) (acons_at u4 (acons_at rfl rfl)))) rfl (by simp)) w4 rfl rfl ?_) rfl) rfl
        have et : ((t2.toNat : Nat) : Int) = t2 := by omega
        have := dIx_lst z1
        rw [et] at this
        exact this
      obtain ⟨rd, st3, v1, v2, v3, v4, v5⟩ := e_drawn_order st2 w3 false (IsD pool) (by rw [List.length_map]; omega) (many := sz) (by omega)
      obtain ⟨xs, hxs, hx0⟩ : ∃ xs : List Int, rd = IsD xs ∧ ∀ x ∈ xs, 0 ≤ x := ints_of fun d m => by
        obtain ⟨i, mi, rfl⟩ := List.mem_map.mp (v2 d m)
        exact ⟨i, rfl, hpp i mi⟩
      subst hxs
      have y2 : vCall [true, false, false] m__law_drawn_order (aCons (vVar 0) (aCons (vVar 3) (aCons (vVar 6) aNil))) (encH 6 8 pool st2 os4 v (.va (.int sz)) .un .un) = .ok (.pv (.tuple (IsD xs))) (encH 6 8 pool st3 os4 v (.va (.int sz)) .un .un) :=
        Eq.trans (call_any (γ1 := encH 6 8 pool st2 os4 v (.va (.int sz)) .un .un) (hs := [.cl 0, .pv (.list (IsD pool)), .pv (.int sz)]) (ds := [encT st2, .list (IsD pool), .int sz]) rfl rfl v5 rfl) rfl
      have hb : (encO a.os).length < big := by
        simp only [encO, List.length_map]
        unfold big
        omega
      have eo : encO (a.os ++ [xs]) = encO a.os ++ [.tuple (IsD xs)] := by simp [encO]
      refine ⟨encH 6 8 pool a.st os4 v .un .un .un, encH 6 8 pool st3 (.ce false (.list (encO (a.os ++ [xs])))) v (.va (.int sz)) .un .un, ⟨st3, a.os ++ [xs], []⟩, rfl, (seq_nx y1).trans ?_, rfl, v1, ?_, ?_⟩
      · rw [eo]
        exact Eq.trans (expr_at (mt_at (b := false) (cs := encO a.os) (cs' := encO a.os ++ [.tuple (IsD xs)]) rfl rfl (acons_at y2 rfl) rfl rfl (by simp only [mAppend, if_pos hb]; rfl))) rfl
      · show (a.os ++ [xs]).length = _
        rw [List.length_append, List.length_singleton, j2]
      · intro o m
        rcases List.mem_append.mp m with m | m
        · exact j3 o m
        · rw [List.mem_singleton.mp m]
          refine ⟨?_, hx0⟩
          rw [List.length_map] at v4
          omega
  rw [range_len, Nat.zero_add] at i2
  have hlo : 1 ≤ a'.os.length ∧ a'.os.length ≤ 6 := by omega
  have a5 : sAsg 7 (vLst aNil) (encH 6 8 pool a'.st (.ce false (.list (encO a'.os))) .un .un .un .un) = .ok .nx (encH 6 8 pool a'.st (.ce false (.list (encO a'.os))) .un .un (.ce false (.list (encW []))) .un) := rfl
  let os4 : Sl := .ce false (.list (encO a'.os))
  obtain ⟨b', ⟨p1, p2⟩, e6⟩ := forL_all (g := GL.gName 8) (b := sIf (cV (vBin dGt (vCall [true, false] m__law_take (aCons (vVar 0) (aCons (vC (.int 8)) aNil))) (vC (.int 0)))) (sSeq (sAsgF 6 (vBin dIx (vLst (aCons (vFn nLen (aCons (vVar 4) aNil)) (aCons (vFn nLen (aCons (vVar 4) aNil)) (aCons (vCall [true, false] m__law_take (aCons (vVar 0) (aCons (vBin dAdd (vFn nLen (aCons (vVar 4) aNil)) (vC (.int 1))) aNil))) aNil)))) (vCall [true, false] m__law_take (aCons (vVar 0) (aCons (vC (.int 3)) aNil)))))
    (sExpr (vMt mAppend (vVar 7) (aCons (vTup (aCons (vVar 8) (aCons (vCall [true, false, false] m__law_drawn_order (aCons (vVar 0) (aCons (vLRg (aCons (vFn nLen (aCons (vVar 4) aNil)) aNil)) (aCons (vVar 6) aNil)))) aNil))) aNil)))) sNx) (fg := [6, 8]) (fun a : Th => encH 6 8 pool a.st os4 .un .un (.ce false (.list (encW a.ws))) .un)
    (fun k a => okT a.st ∧ a.ws.length ≤ k) (IsD pool) 0 ⟨a'.st, [], []⟩ (encH 6 8 pool a'.st os4 .un .un (.ce false (.list (encW []))) .un) ⟨i1, Nat.le_refl _⟩ rfl fun i a d hd0 ⟨j1, j2⟩ => by
      have hi : i < pool.length := by
        have := (List.getElem?_eq_some_iff.mp hd0).1
        rwa [List.length_map] at this
      obtain ⟨who, _, rfl⟩ := List.mem_map.mp (List.mem_iff_getElem?.mpr ⟨i, hd0⟩)
      let v : Sl := .va (.int who)
      let w7 : Sl := .ce false (.list (encW a.ws))
      obtain ⟨t0, st0, u1, u2, u3, u4⟩ := take_in (most := 6) (many := 8) (pool := pool) a.st j1 (s4 := os4) (s5 := .un) (s6 := .un) (s7 := w7) (s8 := v) (fb := vC (.int 8)) (b := 8) (by decide) rfl
      have cc : cV (vBin dGt (vCall [true, false] m__law_take (aCons (vVar 0) (aCons (vC (.int 8)) aNil))) (vC (.int 0))) (encH 6 8 pool a.st os4 .un .un w7 v) = .ok (decide (0 < t0)) (encH 6 8 pool st0 os4 .un .un w7 v) := cV_at (bin_at (x := .int t0) (y := .int 0) u4 rfl rfl rfl rfl)
      by_cases h0 : 0 < t0
      · rw [decide_eq_true h0] at cc
        have nl : ∀ st s6, vFn nLen (aCons (vVar 4) aNil) (encH 6 8 pool st os4 .un s6 w7 v) = .ok (.pv (.int ((a'.os.length : Nat) : Int))) (encH 6 8 pool st os4 .un s6 w7 v) := fun st s6 => fn_at (ds := [.list (encO a'.os)]) (acons_at rfl rfl) rfl (by simp only [nLen, encO, List.length_map])
        obtain ⟨t1, st1, x1, x2, x3, x4⟩ := take_in (most := 6) (many := 8) (pool := pool) st0 u3 (s4 := os4) (s5 := .un) (s6 := .un) (s7 := w7) (s8 := v) (fb := vBin dAdd (vFn nLen (aCons (vVar 4) aNil)) (vC (.int 1))) (b := ((a'.os.length : Nat) : Int) + 1) (by omega) (bin_at (x := .int ((a'.os.length : Nat) : Int)) (y := .int 1) (nl _ _) rfl rfl rfl rfl)
        obtain ⟨t2, st2, w1, w2, w3, w4⟩ := take_in (most := 6) (many := 8) (pool := pool) st1 x3 (s4 := os4) (s5 := .un) (s6 := .un) (s7 := w7) (s8 := v) (fb := vC (.int 3)) (b := 3) (by decide) rfl
        let three : List D := [.int ((a'.os.length : Nat) : Int), .int ((a'.os.length : Nat) : Int), .int t1]
        obtain ⟨sz, z1, z2, z3⟩ : ∃ sz : Int, three[t2.toNat]? = some (.int sz) ∧ 0 ≤ sz ∧ sz ≤ 8 := by
          have c : t2.toNat = 0 ∨ t2.toNat = 1 ∨ t2.toNat = 2 := by omega
          rcases c with c | c | c <;> rw [c]
          · exact ⟨_, rfl, by omega, by omega⟩
          · exact ⟨_, rfl, by omega, by omega⟩
          · exact ⟨t1, rfl, by omega, by omega⟩
        have y1 : sAsgF 6 (vBin dIx (vLst (aCons (vFn nLen (aCons (vVar 4) aNil)) (aCons (vFn nLen (aCons (vVar 4) aNil)) (aCons (vCall [true, false] m__law_take (aCons (vVar 0) (aCons (vBin dAdd (vFn nLen (aCons (vVar 4) aNil)) (vC (.int 1))) aNil))) aNil)))) (vCall [true, false] m__law_take (aCons (vVar 0) (aCons (vC (.int 3)) aNil)))) (encH 6 8 pool st0 os4 .un .un w7 v) =
            .ok .nx (encH 6 8 pool st2 os4 .un (.va (.int sz)) w7 v) := by
          refine Eq.trans (asgF_pv (γ1 := encH 6 8 pool st2 os4 .un .un w7 v) (d := .int sz) (bin_at (x := .list three) (y := .int t2) (lst_at' (acons_at (nl _ _) (acons_at (nl _ _) (acons_at x4 rfl))) rfl (by simp)) w4 rfl rfl ?_) rfl) rfl
          have et : ((t2.toNat : Nat) : Int) = t2 := by omega
          have := dIx_lst z1
          rw [et] at this
          exact this
        obtain ⟨rd, st3, v1, v2, v3, v4, v5⟩ := e_drawn_order st2 w3 false (rangeD 0 a'.os.length) (by rw [range_len]; omega) (many := sz) (by omega)
        obtain ⟨ts, hts, _⟩ := natsOf v2
        subst hts
        have y2 : vCall [true, false, false] m__law_drawn_order (aCons (vVar 0) (aCons (vLRg (aCons (vFn nLen (aCons (vVar 4) aNil)) aNil)) (aCons (vVar 6) aNil))) (encH 6 8 pool st2 os4 .un (.va (.int sz)) w7 v) = .ok (.pv (.tuple (IsD (natI ts)))) (encH 6 8 pool st3 os4 .un (.va (.int sz)) w7 v) :=
          Eq.trans (call_any (γ1 := encH 6 8 pool st2 os4 .un (.va (.int sz)) w7 v) (hs := [.cl 0, .nw (.list (rangeD 0 a'.os.length)), .pv (.int sz)]) (ds := [encT st2, .list (rangeD 0 a'.os.length), .int sz]) (acons_at rfl (acons_at (lr_at (n := a'.os.length) (acons_at (nl _ _) rfl) (by omega)) rfl)) rfl v5 rfl) rfl
        have hb : (encW a.ws).length < big := by
          simp only [encW, List.length_map]
          unfold big
          omega
        have ew : encW (a.ws ++ [(who, natI ts)]) = encW a.ws ++ [.tuple [.int who, .tuple (IsD (natI ts))]] := by simp [encW]
        refine ⟨encH 6 8 pool a.st os4 .un .un w7 v, encH 6 8 pool st3 os4 .un (.va (.int sz)) (.ce false (.list (encW (a.ws ++ [(who, natI ts)])))) v, ⟨st3, [], a.ws ++ [(who, natI ts)]⟩, rfl, (if_tt cc).trans ((seq_nx y1).trans ?_), rfl, v1, ?_⟩
        · rw [ew]
          exact Eq.trans (expr_at (mt_at (b := false) (cs := encW a.ws) (cs' := encW a.ws ++ [.tuple [.int who, .tuple (IsD (natI ts))]]) rfl rfl (acons_at (tup_at (acons_at rfl (acons_at y2 rfl)) rfl (by simp)) rfl) rfl rfl (by simp only [mAppend, if_pos hb]; rfl))) rfl
        · show (a.ws ++ [(who, natI ts)]).length ≤ _
          rw [List.length_append, List.length_singleton]
          omega
      · rw [decide_eq_false h0] at cc
        exact ⟨encH 6 8 pool a.st os4 .un .un w7 v, encH 6 8 pool st0 os4 .un .un w7 v, ⟨st0, [], a.ws⟩, rfl, (if_ff cc).trans rfl, rfl, u3, Nat.le_succ_of_le j2⟩
  have e6b : sFor (iSeq (vVar 3)) (GL.gName 8) (sIf (cV (vBin dGt (vCall [true, false] m__law_take (aCons (vVar 0) (aCons (vC (.int 8)) aNil))) (vC (.int 0)))) (sSeq (sAsgF 6 (vBin dIx (vLst (aCons (vFn nLen (aCons (vVar 4) aNil)) (aCons (vFn nLen (aCons (vVar 4) aNil)) (aCons (vCall [true, false] m__law_take (aCons (vVar 0) (aCons (vBin dAdd (vFn nLen (aCons (vVar 4) aNil)) (vC (.int 1))) aNil))) aNil)))) (vCall [true, false] m__law_take (aCons (vVar 0) (aCons (vC (.int 3)) aNil)))))
    (sExpr (vMt mAppend (vVar 7) (aCons (vTup (aCons (vVar 8) (aCons (vCall [true, false, false] m__law_drawn_order (aCons (vVar 0) (aCons (vLRg (aCons (vFn nLen (aCons (vVar 4) aNil)) aNil)) (aCons (vVar 6) aNil)))) aNil))) aNil)))) sNx) [6, 8] (encH 6 8 pool a'.st os4 .un .un (.ce false (.list (encW []))) .un) = .ok .nx (encH 6 8 pool b'.st os4 .un .un (.ce false (.list (encW b'.ws))) .un) := (for_at rfl).trans e6
  have hw : b'.ws.length ≤ 1000 := by
    rw [List.length_map] at p2
    omega
  refine ⟨a'.os, b'.ws, b'.st, p1, hlo.1, hlo.2, i3, hw, ?_⟩
  exact runB_rt ((seq_nx a1).trans ((seq_nx a2).trans ((seq_nx ((for_at a3).trans e4)).trans ((seq_nx a5).trans ((seq_nx e6b).trans rfl))))) rfl
end WK

set_option Elab.async false
set_option linter.all false
set_option autoImplicit false
set_option maxRecDepth 100000
set_option maxHeartbeats 2000000
namespace WK
open PySem GL
/-! ### law -/
def encL (st : TS) (ns : List Int) (s2 s3 s4 s5 s6 s7 s8 : Sl) : List Sl := [.va (.list (IsD ns)), .ce false (encT st), s2, s3, s4, s5, s6, s7, s8]
theorem mem_natsOf {n : Nat} {r : List D} (h : ∀ d ∈ r, d ∈ rangeD 0 n) : ∀ d ∈ r, ∃ ts : Int, d = .int ts := fun d m => by
  obtain ⟨i, e⟩ := List.mem_iff_getElem?.mp (h d m)
  exact ⟨_, (range_get e).2⟩
theorem sumL_le : ∀ (os : List (List Int)) (k : Nat), (∀ o ∈ os, o.length ≤ k) → (os.map List.length).sum ≤ os.length * k
  | [], k, _ => by simp
  | o :: os, k, h => by
    have h1 := h o List.mem_cons_self
    have h2 := sumL_le os k fun o m => h o (List.mem_cons_of_mem _ m)
    rw [List.map_cons, List.sum_cons, List.length_cons, Nat.succ_mul]
    omega
noncomputable abbrev f_dr : SE := vCall [true, false, false] m__law_drawn_order (aCons (vVar 1) (aCons (vLRg (aCons (vVar 5) aNil)) (aCons (vVar 5) aNil)))
theorem dr_at (st : TS) (hs : okT st) (ns : List Int) (n : Nat) (hn : n ≤ 6) (s2 s3 s4 s6 s7 s8 : Sl) : ∃ (ts : List Nat) (st' : TS), okT st' ∧ (∀ t ∈ ts, t < n) ∧ f_dr (encL st ns s2 s3 s4 (.va (.int ((n : Nat) : Int))) s6 s7 s8) = .ok (.pv (.tuple (IsD (natI ts)))) (encL st' ns s2 s3 s4 (.va (.int ((n : Nat) : Int))) s6 s7 s8) := by
  obtain ⟨r, st', v1, v2, v3, v4, v5⟩ := e_drawn_order st hs false (rangeD 0 n) (by rw [range_len]; omega) (many := ((n : Nat) : Int)) (by omega)
  obtain ⟨ts, rfl, hts⟩ := natsOf v2
  exact ⟨ts, st', v1, hts, Eq.trans (call_any (γ1 := encL st ns s2 s3 s4 (.va (.int ((n : Nat) : Int))) s6 s7 s8) (hs := [.cl 1, .nw (.list (rangeD 0 n)), .pv (.int ((n : Nat) : Int))]) (ds := [encT st, .list (rangeD 0 n), .int ((n : Nat) : Int)]) (acons_at rfl (acons_at (lr_at (n := n) rfl (by omega)) rfl)) rfl v5 rfl) rfl⟩
theorem lc2 (st : TS) (hs : okT st) (ns : List Int) (n : Nat) (hn : n ≤ 6) (s2 s3 s4 : Sl) : ∃ (t1 t2 : List Nat) (st' : TS), okT st' ∧ (∀ t ∈ t1, t < n) ∧ (∀ t ∈ t2, t < n) ∧
    vLc (iRange1 (aCons (vC (.int 2)) aNil)) (GL.gName 7) cYes f_dr [7] (encL st ns s2 s3 s4 (.va (.int ((n : Nat) : Int))) .un .un .un) = .ok (.nw (.list [.tuple (IsD (natI t1)), .tuple (IsD (natI t2))])) (encL st' ns s2 s3 s4 (.va (.int ((n : Nat) : Int))) .un .un .un) := by
  obtain ⟨t1, s1, a1, a2, a3⟩ := dr_at st hs ns n hn s2 s3 s4 .un (.va (.int 0)) .un
  obtain ⟨t2, s2', b1, b2, b3⟩ := dr_at s1 a1 ns n hn s2 s3 s4 .un (.va (.int 1)) .un
  refine ⟨t1, t2, s2', b1, a2, b2, ?_⟩
  have hi : iRange1 (aCons (vC (.int 2)) aNil) (encL st ns s2 s3 s4 (.va (.int ((n : Nat) : Int))) .un .un .un) = .ok [.int 0, .int 1] (encL st ns s2 s3 s4 (.va (.int ((n : Nat) : Int))) .un .un .un) := rfl
  have l3 : lcL (GL.gName 7) cYes f_dr [7] [] ([] ++ [.tuple (IsD (natI t1))] ++ [.tuple (IsD (natI t2))]) (encL s2' ns s2 s3 s4 (.va (.int ((n : Nat) : Int))) .un (.va (.int 1)) .un) = .ok ([] ++ [.tuple (IsD (natI t1))] ++ [.tuple (IsD (natI t2))]) (encL s2' ns s2 s3 s4 (.va (.int ((n : Nat) : Int))) .un (.va (.int 1)) .un) := rfl
  have l2 : lcL (GL.gName 7) cYes f_dr [7] [.int 1] ([] ++ [.tuple (IsD (natI t1))]) (encL s1 ns s2 s3 s4 (.va (.int ((n : Nat) : Int))) .un (.va (.int 0)) .un) = .ok ([] ++ [.tuple (IsD (natI t1))] ++ [.tuple (IsD (natI t2))]) (encL s2' ns s2 s3 s4 (.va (.int ((n : Nat) : Int))) .un (.va (.int 1)) .un) := by
    show (R.bx (f_dr (encL s1 ns s2 s3 s4 (.va (.int ((n : Nat) : Int))) .un (.va (.int 1)) .un)) _) = _
    rw [b3]
    exact l3
  have l1 : lcL (GL.gName 7) cYes f_dr [7] [.int 0, .int 1] [] (encL st ns s2 s3 s4 (.va (.int ((n : Nat) : Int))) .un .un .un) = .ok ([] ++ [.tuple (IsD (natI t1))] ++ [.tuple (IsD (natI t2))]) (encL s2' ns s2 s3 s4 (.va (.int ((n : Nat) : Int))) .un (.va (.int 1)) .un) := by
    show (R.bx (f_dr (encL st ns s2 s3 s4 (.va (.int ((n : Nat) : Int))) .un (.va (.int 0)) .un)) _) = _
    rw [a3]
    exact l2
  unfold vLc
  rw [hi]
  simp only [R.bind]
  rw [l1]
  rfl
theorem e_law (ns : List Int) : ∃ os, m_law [.list (IsD ns)] = .ok (.pv (.bool true)) os := by
  unfold m_law s_law
  have a1 : sAsg 1 (vLst (aCons (vVar 0) (aCons (vC (.int 0)) (aCons (vC (.int 0)) (aCons (vC (.int 72)) aNil))))) (mkG 9 [false] [.list (IsD ns)]) = .ok .nx (encL ⟨ns, 0, 0, 72⟩ ns .un .un .un .un .un .un .un) := rfl
  obtain ⟨b, p1, e2⟩ := forL_all (g := GL.gName 2) (b := sSeq (sAsgT (GL.gTup 2 (gsCons (GL.gName 3) (gsCons (GL.gName 4) gsNil))) (vCall [true, false, false] m__law_thrones (aCons (vVar 1) (aCons (vC (.int 6)) (aCons (vC (.int 8)) aNil)))))
    (sSeq (sAsgF 5 (vFn nLen (aCons (vVar 3) aNil)))
    (sSeq (sAsgF 6 (vLc (iRange1 (aCons (vC (.int 2)) aNil)) (GL.gName 7) cYes (vCall [true, false, false] m__law_drawn_order (aCons (vVar 1) (aCons (vLRg (aCons (vVar 5) aNil)) (aCons (vVar 5) aNil)))) [7]))
    (sFor (iSeq (vBin dAdd (vVar 6) (vSl (vVar 6) oNone (oSome (vC (.int 1)))))) (GL.gName 8) (sIf (cNot (cV (vCall [false, false, false] m__law_right (aCons (vVar 3) (aCons (vVar 4) (aCons (vVar 8) aNil)))))) (sRet (vC (.bool false))) sNx) [8])))) (fg := [2, 3, 4, 5, 6, 8]) (fun st : TS => encL st ns .un .un .un .un .un .un .un)
    (fun _ st => okT st) [.int 0, .int 1, .int 2, .int 3] 0 ⟨ns, 0, 0, 72⟩ (encL ⟨ns, 0, 0, 72⟩ ns .un .un .un .un .un .un .un) ⟨show (0 : Int) ≤ 72 by decide, show (72 : Int) < 2147483648 by decide⟩ rfl fun i st d hd0 j1 => by
      let v : Sl := .va d
      obtain ⟨os, ws, s1, k1, k2, k3, k4, k5, k6⟩ := e_thrones st j1
      let vo : Sl := .va (.tuple (encO os))
      let vw : Sl := .va (.tuple (encW ws))
      have b1 : sAsgT (GL.gTup 2 (gsCons (GL.gName 3) (gsCons (GL.gName 4) gsNil))) (vCall [true, false, false] m__law_thrones (aCons (vVar 1) (aCons (vC (.int 6)) (aCons (vC (.int 8)) aNil)))) (encL st ns v .un .un .un .un .un .un) = .ok .nx (encL s1 ns v vo vw .un .un .un .un) := by
        have c : vCall [true, false, false] m__law_thrones (aCons (vVar 1) (aCons (vC (.int 6)) (aCons (vC (.int 8)) aNil))) (encL st ns v .un .un .un .un .un .un) = .ok (.nw (.list [.tuple (encO os), .tuple (encW ws)])) (encL s1 ns v .un .un .un .un .un .un) :=
          Eq.trans (call_any (γ1 := encL st ns v .un .un .un .un .un .un) (hs := [.cl 1, .pv (.int 6), .pv (.int 8)]) (ds := [encT st, .int 6, .int 8]) rfl rfl k6 rfl) rfl
        unfold sAsgT
        rw [c]
        rfl
      have b2 : sAsgF 5 (vFn nLen (aCons (vVar 3) aNil)) (encL s1 ns v vo vw .un .un .un .un) = .ok .nx (encL s1 ns v vo vw (.va (.int ((os.length : Nat) : Int))) .un .un .un) :=
        Eq.trans (asgF_pv (γ1 := encL s1 ns v vo vw .un .un .un .un) (d := .int ((os.length : Nat) : Int)) (fn_at (ds := [.tuple (encO os)]) (acons_at rfl rfl) rfl (by simp only [nLen, encO, List.length_map])) rfl) rfl
      obtain ⟨t1, t2, s2, q1, q2, q3, q4⟩ := lc2 s1 k1 ns os.length k3 v vo vw
      let many : Sl := .va (.int ((os.length : Nat) : Int))
      let tw : List D := [.tuple (IsD (natI t1)), .tuple (IsD (natI t2))]
      have b3 : sAsgF 6 (vLc (iRange1 (aCons (vC (.int 2)) aNil)) (GL.gName 7) cYes f_dr [7]) (encL s1 ns v vo vw many .un .un .un) = .ok .nx (encL s2 ns v vo vw many (.va (.list tw)) .un .un) :=
        Eq.trans (asgF_nw (γ1 := encL s2 ns v vo vw many .un .un .un) (ds := tw) q4 rfl) rfl
      have okd : ∀ t, (∀ x ∈ t, x < os.length) → Okd os t := fun t h => ⟨h, fun o m w mw e => by have := (k4 o m).2 w mw; omega, Nat.le_trans (sumL_le os 8 fun o m => (k4 o m).1) (by omega)⟩
      have rt : ∀ t, (∀ x ∈ t, x < os.length) → m__law_right [.tuple (encO os), .tuple (encW ws), .tuple (IsD (natI t))] = .ok (.pv (.bool true)) [] := fun t h => e_right (ws := ws) (okd t h) k3 k5 true
      have step : ∀ (t : List Nat), (∀ x ∈ t, x < os.length) → sIf (cNot (cV (vCall [false, false, false] m__law_right (aCons (vVar 3) (aCons (vVar 4) (aCons (vVar 8) aNil)))))) (sRet (vC (.bool false))) sNx (encL s2 ns v vo vw many (.va (.list tw)) .un (.va (.tuple (IsD (natI t))))) = .ok .nx (encL s2 ns v vo vw many (.va (.list tw)) .un (.va (.tuple (IsD (natI t))))) := fun t h => by
        have c : vCall [false, false, false] m__law_right (aCons (vVar 3) (aCons (vVar 4) (aCons (vVar 8) aNil))) (encL s2 ns v vo vw many (.va (.list tw)) .un (.va (.tuple (IsD (natI t))))) = .ok (.pv (.bool true)) (encL s2 ns v vo vw many (.va (.list tw)) .un (.va (.tuple (IsD (natI t))))) :=
          Eq.trans (call_any (γ1 := encL s2 ns v vo vw many (.va (.list tw)) .un (.va (.tuple (IsD (natI t))))) (hs := [.pv (.tuple (encO os)), .pv (.tuple (encW ws)), .pv (.tuple (IsD (natI t)))]) (ds := [.tuple (encO os), .tuple (encW ws), .tuple (IsD (natI t))]) rfl rfl (rt t h) rfl) rfl
        exact (if_ff (cNot_at (cV_at c))).trans rfl
      have b4 : sFor (iSeq (vBin dAdd (vVar 6) (vSl (vVar 6) oNone (oSome (vC (.int 1)))))) (GL.gName 8) (sIf (cNot (cV (vCall [false, false, false] m__law_right (aCons (vVar 3) (aCons (vVar 4) (aCons (vVar 8) aNil)))))) (sRet (vC (.bool false))) sNx) [8] (encL s2 ns v vo vw many (.va (.list tw)) .un .un) = .ok .nx (encL s2 ns v vo vw many (.va (.list tw)) .un .un) := by
        refine (for_at (γ1 := encL s2 ns v vo vw many (.va (.list tw)) .un .un) (ds := [.tuple (IsD (natI t1)), .tuple (IsD (natI t2)), .tuple (IsD (natI t1))]) rfl).trans ?_
        exact (forL_go rfl (step t1 q2)).trans ((forL_go rfl (step t2 q3)).trans ((forL_go rfl (step t1 q2)).trans rfl))
      exact ⟨encL st ns v .un .un .un .un .un .un, encL s2 ns v vo vw many (.va (.list tw)) .un .un, s2, rfl, (seq_nx b1).trans ((seq_nx b2).trans ((seq_nx b3).trans b4)), rfl, q1⟩
  exact ⟨_, runB_rt ((seq_nx a1).trans ((seq_nx ((for_at rfl).trans e2)).trans rfl)) rfl⟩
end WK

set_option Elab.async false
set_option linter.all false
set_option autoImplicit false
set_option maxRecDepth 100000
set_option maxHeartbeats 0
namespace WK
open PySem PySem.Spec PyProof.Rows L2 GL
abbrev RR : PySem.W.OpenRow := PySem.W.OpenLaw.row PySem.Challenge.rw_thronewalk_k72_thrones_ask
abbrev hook : PySem.W.Hook := He.hookD 4 fa fn
def sees (s : PySem.W.SharedT) : He.AlD := He.obsDG 4 fa fn (HandSHeadRun.getT s)
theorem sees_eq (s : PySem.W.SharedT) : sees s = hook.obs s.abs := He.obsDG_eq (HandSHeadRun.getT_eq s)
def loose : List PySem.Str := ["wished_by", "throne_of", "would_take", "next_throne", "answer_of", "by_thrones", "_law_take", "_law_is_plain", "_law_drawn_order", "_law_thrones", "_law_wished", "_law_asked_by_thrones", "_law_right"]
theorem ran (w : World) : HandSHeadRun.RunEq RR (PySem.W.view RR.prog [16]) hook sees 3000 loose w := by
  intro os
  kernel_rfl
/-- a law whose written part hangs on the world -/
theorem walk_ofW {l : PySem.W.OpenLaw} {n k : Nat} {q : Program} {loose : List Str} {XP : (Str → Option Value) → Heap → Prop} {YP : World → Heap → Prop} {d : DefRec} {x : Str} {m : Fn} (hn : l.most = some n) (hn2 : n ≤ sizeLine) (hdf : d.params.defaults = []) (hr : Room k callerA)
    (hm : ∀ ns : List Int, ns.length ≤ n → (ns.map PyData.int).length ≤ sizeLine → ∃ os, m [.list (ns.map PyData.int)] = .ok (.pv (.bool true)) os)
    (F : ∀ (w : World) (mg : Str → Option Value) (fa : Addr) (h : Heap), YP w h → h.Ns mainGlobals mg → mg d.name = some (.ref fa) → ∃ (K : PySem.W.Frag) (fd : FuncData), K.In h ∧ (∀ (s : Shared) (u : Value), BindsTo s fd ⟨[u], []⟩ [(x, u)]) ∧ ∀ base : Heap, K.In base → base.Ns mainGlobals mg → FnOk l.prog w K mg base (L2.CX l.prog w) k fa fd [x] (spF K [false] m)) :
    PySem.W.WalkO q loose XP YP l.row.toRowW d [] (fun f vs => PySem.call f vs) := by
  refine Att.attach_call hn hdf fun w s0 s1 mg mb f o pm cd doc a vs ns G Y ho hd hcd hmg hobj hints hlen hg => ?_
  obtain ⟨K, fd, KX, hb, hF⟩ := F w mg f _ Y G.T.g hmg
  exact law_call KX G.T.g G.T.b G.T.builtins G.T.nolimit hg hobj hints (Nat.le_trans hlen hn2) hr hF hb (fun H _ hS => sp_law hm hlen hn2 hS) fun H e s' z => by
    obtain ⟨_, _, _, _, _, _, _, _, _, _, _, _, z⟩ := z
    exact z
theorem law_says {P : Program} {w : World} {K : PySem.W.Frag} {h : Heap} {mg : Str → Option Value} {f : Addr} (X : K.In h) (G : h.Ns mainGlobals mg) (hfa : mg ("law" : Str) = some (.ref f)) (c : He.SaysD fa fn K) :
    ∃ fd : FuncData, (∀ (s : Shared) (u : Value), BindsTo s fd ⟨[u], []⟩ [("_law_script", u)]) ∧ ∀ base : Heap, K.In base → base.Ns mainGlobals mg → FnOk P w K mg base (L2.CX P w) 8 f fd ["_law_script"] (spF K [false] m_law) := by
  obtain ⟨fd, F⟩ := c.def_ 13 (d := df "law" 16) rfl
  have e := hfa.symm.trans (mglo 13 "law" X G c)
  cases e
  have b := FunD.bindsA (ps := ["_law_script"]) F fun _ _ _ _ _ _ us hl => match us, hl with | [_], _ => rfl
  exact ⟨fd, fun s u => b s [u] rfl, fun base _ _ => fn_ok F sc_law rfl (b_law X G c)⟩
end WK
open PySem PySem.W PySem.Calls PyProof.Rows
theorem PySem.Challenge.cw_thronewalk_k72_thrones_ask_holds : PySem.Challenge.rw_thronewalk_k72_thrones_ask.Holds := by
  w_on; o_law
  refine HandSHeadRun.head_any (r := WK.RR) (q := view WK.RR.prog [16]) (H := WK.hook) (ob := WK.sees) (M := 3000) (loose := WK.loose) (d := HandSHeadRun.topDef WK.RR.prog 16) (kwd := []) WK.sees_eq (by kernel_rfl) (fun s => by kernel_rfl) WK.ran
    (by kernel_rfl) (by kernel_rfl) (by kernel_rfl) (by rfl) (by first | assumption | decide +kernel) (by decide +kernel) ⟨rfl, rfl, rfl, rfl, rfl, by decide +kernel⟩ ?hw ?hc
  case hw => w_witness2
  case hc =>
    refine WK.walk_ofW (l := PySem.Challenge.rw_thronewalk_k72_thrones_ask) (n := 63) (k := 8) (x := "_law_script") (m := WK.m_law) rfl (by decide) (by kernel_rfl) ⟨rfl, by decide, by decide⟩ (fun ns _ _ => WK.e_law ns) ?F
    intro w mg f h Y G hmg0
    obtain ⟨K, KX, c⟩ := Y
    have hmg : mg ("law" : PySem.Str) = some (.ref f) := by
      have e : (HandSHeadRun.topDef WK.RR.prog 16).name = ("law" : PySem.Str) := by kernel_rfl
      rw [← e]; exact hmg0
    obtain ⟨fd, hb, hF⟩ := WK.law_says (P := (PySem.Challenge.rw_thronewalk_k72_thrones_ask).prog) (w := w) KX G hmg c
    exact ⟨K, fd, KX, hb, hF⟩

