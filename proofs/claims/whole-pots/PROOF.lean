import PyProof.Rows.All
import Wide.All
import OpenK.AllK
import Wide.FinOn
import HandS.ForMost
import HandS.TupAny
import HandS.IsInst
import HandS.Star
import KE.GoesEnum
import HandS.Iter
import HandS.Strs
import HandS.ListItems
import KE.KDictPairs
import KE.KIndexOf
import KE.SortData
import PyProof.ReprRoads
import HandS.EndTab
import PyProof.CallFns
import HandS.Property
import HandS.OwnEq
import PyProof.InstNe
import KE.KWithOwn
import HandS.Nested
import PyProof.Rows.FactsN_divmod
import PyProof.Rows.FactsN_isinstance
import PyProof.Rows.FactsT1
import PyProof.Rows.FactsT2
import PyProof.Rows.FactsT3
import PyProof.Rows.SeqCalls
import PyProof.Rows.SeqGen
import PyProof.Rows.RegReprOcc
import PyProof.Rows.StrFin3
import KE.KCallOwn
import PyProof.FitsInt
import PyProof.Rows.RegFStrParts
import PyProof.Rows.StrMeet
import HandS.Replace
import PySem.Challenge.RW_stairpay_k20_whole_pots
set_option Elab.async false
set_option linter.all false
set_option maxRecDepth 100000
set_option maxHeartbeats 4000000
/-! D0 -/
namespace SP
open PySem L2

/-! ### immutable data -/
inductive Dt where
  | non | bl (b : Bool) | int (i : Int) | str (s : Str)
  | lst (xs : List Dt) | tp (x : Bool) (xs : List Dt) | dic (kvs : List (Key × V)) | raw (v : V)
/-- a tuple; one whose object is known to have no dict of its own -/
abbrev Dt.tup (xs : List Dt) : Dt := .tp false xs
abbrev Dt.tux (xs : List Dt) : Dt := .tp true xs
abbrev Ex (H H' : Hp) : Prop := ∀ a o, H a = some o → H' a = some o
theorem Ex.refl (H : Hp) : Ex H H := fun _ _ h => h
theorem Ex.trans {H H1 H2 : Hp} (a : Ex H H1) (b : Ex H1 H2) : Ex H H2 := fun x o h => b x o (a x o h)
theorem Ex.new {H : Hp} {p : Addr} {o : HO} (h : H p = none) : Ex H (upd H p o) := fun a u e => by
  rw [upd_ne (ne_of_none e h)]
  exact e
theorem ex_rd {H H' : Hp} {a : Addr} {u : HO} (e : Ex H H') (h : Rd H a u) : Rd H' a u := by
  rcases h with h | ⟨o, h⟩
  · exact Or.inl (e a _ h)
  · exact Or.inr ⟨o, e a _ h⟩
theorem ex_l {K : PySem.W.Frag} {H H' : Hp} {a : Addr} {xs : List V} (e : Ex H H') (h : SqL K H a xs) : SqL K H' a xs := by
  rcases h with h | h
  · exact Or.inl (ex_rd e h)
  · exact Or.inr h
theorem ex_t {K : PySem.W.Frag} {H H' : Hp} {a : Addr} {xs : List V} (e : Ex H H') (h : SqT K H a xs) : SqT K H' a xs := by
  rcases h with h | h
  · exact Or.inl (ex_rd e h)
  · exact Or.inr h

mutual
inductive Im (K : PySem.W.Frag) (H : Hp) : V → Dt → Prop
  | non : Im K H .non .non
  | bl (b : Bool) : Im K H (.bl b) (.bl b)
  | int (i : Int) : Im K H (.int i) (.int i)
  | str (s : Str) : Im K H (.str s) (.str s)
  | lst {a : Addr} {xs : List V} {ds : List Dt} : H a = some (.lst xs) → ImA K H xs ds → Im K H (.ref a) (.lst ds)
  | tp {a : Addr} {xs : List V} {ds : List Dt} (x : Bool) : Rd H a (.tup xs) → (x = true → ∃ o : Obj, H a = some (.frz o (.tup xs)) ∧ o.dict = none) → ImA K H xs ds → Im K H (.ref a) (.tp x ds)
  | dic {a : Addr} {kvs : List (Key × V)} : H a = some (.dK kvs) → Im K H (.ref a) (.dic kvs)
  | raw (v : V) : Im K H v (.raw v)
inductive ImA (K : PySem.W.Frag) (H : Hp) : List V → List Dt → Prop
  | nil : ImA K H [] []
  | cons {v : V} {vs : List V} {d : Dt} {ds : List Dt} : Im K H v d → ImA K H vs ds → ImA K H (v :: vs) (d :: ds)
end
mutual
theorem Im.mono {K : PySem.W.Frag} {H H' : Hp} (e : Ex H H') : ∀ {v : V} {d : Dt}, Im K H v d → Im K H' v d
  | _, _, .non => .non
  | _, _, .bl b => .bl b
  | _, _, .int i => .int i
  | _, _, .str s => .str s
  | _, _, .lst h a => .lst (e _ _ h) (ImA.mono e a)
  | _, _, .tp x h q a => .tp x (ex_rd e h) (fun z => let ⟨o, h1, h2⟩ := q z; ⟨o, e _ _ h1, h2⟩) (ImA.mono e a)
  | _, _, .dic h => .dic (e _ _ h)
  | _, _, .raw v => .raw v
theorem ImA.mono {K : PySem.W.Frag} {H H' : Hp} (e : Ex H H') : ∀ {vs : List V} {ds : List Dt}, ImA K H vs ds → ImA K H' vs ds
  | _, _, .nil => .nil
  | _, _, .cons h t => .cons (Im.mono e h) (ImA.mono e t)
end
section
variable {K : PySem.W.Frag} {H H' : Hp} {v : V} {vs : List V} {ds : List Dt} {d : Dt}
theorem ImA.length : ∀ {vs : List V} {ds : List Dt}, ImA K H vs ds → vs.length = ds.length
  | _, _, .nil => rfl
  | _, _, .cons _ t => by rw [List.length_cons, List.length_cons, ImA.length t]
theorem ImA.get : ∀ {vs : List V} {ds : List Dt} {i : Nat} {d : Dt}, ImA K H vs ds → ds[i]? = some d → ∃ v, vs[i]? = some v ∧ Im K H v d
  | _, _, _, _, .nil, e => by simp at e
  | _, _, 0, _, .cons r _, e => by simp at e; subst e; exact ⟨_, rfl, r⟩
  | _, _, i + 1, _, .cons _ t, e => by
    obtain ⟨v, h1, h2⟩ := ImA.get (i := i) t (by simpa using e)
    exact ⟨v, by simpa using h1, h2⟩
theorem ImA.get' : ∀ {vs : List V} {ds : List Dt} {i : Nat} {v : V}, ImA K H vs ds → vs[i]? = some v → ∃ d, ds[i]? = some d ∧ Im K H v d
  | _, _, _, _, .nil, e => by simp at e
  | _, _, 0, _, .cons r _, e => by simp at e; subst e; exact ⟨_, rfl, r⟩
  | _, _, i + 1, _, .cons _ t, e => by
    obtain ⟨d, h1, h2⟩ := ImA.get' (i := i) t (by simpa using e)
    exact ⟨d, by simpa using h1, h2⟩
theorem ImA.append : ∀ {vs us : List V} {ds es : List Dt}, ImA K H vs ds → ImA K H us es → ImA K H (vs ++ us) (ds ++ es)
  | _, _, _, _, .nil, q => q
  | _, _, _, _, .cons r t, q => .cons r (ImA.append t q)
theorem ImA.drop : ∀ (n : Nat) {vs : List V} {ds : List Dt}, ImA K H vs ds → ImA K H (vs.drop n) (ds.drop n)
  | 0, _, _, r => r
  | _ + 1, _, _, .nil => .nil
  | n + 1, _, _, .cons _ t => ImA.drop n t
theorem ImA.take : ∀ (n : Nat) {vs : List V} {ds : List Dt}, ImA K H vs ds → ImA K H (vs.take n) (ds.take n)
  | 0, _, _, _ => .nil
  | _ + 1, _, _, .nil => .nil
  | n + 1, _, _, .cons r t => .cons r (ImA.take n t)
theorem ImA.cons_inv {d : Dt} {ds : List Dt} (h : ImA K H vs (d :: ds)) : ∃ v us, vs = v :: us ∧ Im K H v d ∧ ImA K H us ds := by
  cases h with
  | cons r t => exact ⟨_, _, rfl, r, t⟩
theorem ImA.nil_inv (h : ImA K H vs []) : vs = [] := by
  cases h
  rfl
theorem Im.int_inv {i : Int} (h : Im K H v (.int i)) : v = .int i := by cases h; rfl
theorem Im.bl_inv {b : Bool} (h : Im K H v (.bl b)) : v = .bl b := by cases h; rfl
theorem Im.str_inv {s : Str} (h : Im K H v (.str s)) : v = .str s := by cases h; rfl
theorem Im.non_inv (h : Im K H v .non) : v = .non := by cases h; rfl
theorem Im.raw_inv {u : V} (h : Im K H v (.raw u)) : v = u := by cases h; rfl
theorem Im.tp_inv {ds : List Dt} {x : Bool} (h : Im K H v (.tp x ds)) : ∃ a xs, v = .ref a ∧ Rd H a (.tup xs) ∧ ImA K H xs ds := by
  cases h with
  | tp _ q _ a => exact ⟨_, _, rfl, q, a⟩
theorem Im.tux_inv {ds : List Dt} (h : Im K H v (.tp true ds)) : ∃ a xs o, v = .ref a ∧ H a = some (.frz o (.tup xs)) ∧ o.dict = none ∧ ImA K H xs ds := by
  cases h with
  | tp _ _ q a =>
    obtain ⟨o, h1, h2⟩ := q rfl
    exact ⟨_, _, o, rfl, h1, h2, a⟩
theorem Im.tup {a : Addr} {xs : List V} {ds : List Dt} (h : H a = some (.tup xs)) (r : ImA K H xs ds) : Im K H (.ref a) (.tup ds) := .tp false (.inl h) (fun z => nomatch z) r
theorem Im.tux {a : Addr} {xs : List V} {ds : List Dt} {o : Obj} (h : H a = some (.frz o (.tup xs))) (hd : o.dict = none) (r : ImA K H xs ds) : Im K H (.ref a) (.tux ds) := .tp true (.inr ⟨o, h⟩) (fun _ => ⟨o, h, hd⟩) r
/-- less is known -/
theorem Im.untux {ds : List Dt} (h : Im K H v (.tp true ds)) : Im K H v (.tup ds) := by
  cases h with
  | tp _ q _ a => exact .tp false q (fun z => nomatch z) a
theorem Im.lst_inv {ds : List Dt} (h : Im K H v (.lst ds)) : ∃ a xs, v = .ref a ∧ H a = some (.lst xs) ∧ ImA K H xs ds := by
  cases h with
  | lst q a => exact ⟨_, _, rfl, q, a⟩
theorem Im.dic_inv {kvs : List (Key × V)} (h : Im K H v (.dic kvs)) : ∃ a, v = .ref a ∧ H a = some (.dK kvs) := by
  cases h with
  | dic q => exact ⟨_, rfl, q⟩
theorem ImA.ints : ∀ {ns : List Int} {vs : List V}, ImA K H vs (ns.map Dt.int) → vs = ns.map V.int
  | [], _, .nil => rfl
  | n :: ns, _, .cons r t => by rw [Im.int_inv r, ImA.ints t]; rfl
theorem ImA.strs : ∀ {ns : List Str} {vs : List V}, ImA K H vs (ns.map Dt.str) → vs = ns.map V.str
  | [], _, .nil => rfl
  | n :: ns, _, .cons r t => by rw [Im.str_inv r, ImA.strs t]; rfl
theorem ImA.bls : ∀ {ns : List Bool} {vs : List V}, ImA K H vs (ns.map Dt.bl) → vs = ns.map V.bl
  | [], _, .nil => rfl
  | n :: ns, _, .cons r t => by rw [Im.bl_inv r, ImA.bls t]; rfl
theorem ImA.of_ints : ∀ (ns : List Int), ImA K H (ns.map V.int) (ns.map Dt.int)
  | [] => .nil
  | _ :: ns => .cons (.int _) (ImA.of_ints ns)
theorem ImA.of_strs : ∀ (ns : List Str), ImA K H (ns.map V.str) (ns.map Dt.str)
  | [] => .nil
  | _ :: ns => .cons (.str _) (ImA.of_strs ns)
end

/-! ### a step: Hd the data heap within H; M may change -/
def NoM : Addr → Prop := fun _ => False
structure Stp (M : Addr → Prop) (Hd H Hd' H' : Hp) : Prop where
  up : ∀ a o, H a = some o → ¬ M a → H' a = some o
  al : ∀ a, H a ≠ none → H' a ≠ none
  ud : Ex Hd Hd'
  sub : Ex Hd' H'
  sep : ∀ a, H a ≠ none → Hd a = none → Hd' a = none
  nt : ∀ a ps, Hd' a = some (.tbl ps) → Hd a = some (.tbl ps)
section
variable {M N : Addr → Prop} {Hd H Hd1 H1 Hd2 H2 : Hp} {p : Addr} {o : HO}
theorem Stp.refl (e : Ex Hd H) : Stp M Hd H Hd H := ⟨fun _ _ h _ => h, fun _ h => h, Ex.refl _, e, fun _ _ h => h, fun _ _ h => h⟩
theorem Stp.trans (a : Stp M Hd H Hd1 H1) (b : Stp M Hd1 H1 Hd2 H2) : Stp M Hd H Hd2 H2 :=
  ⟨fun x o h n => b.up x o (a.up x o h n) n, fun x h => b.al x (a.al x h), a.ud.trans b.ud, b.sub, fun x h n => b.sep x (a.al x h) (a.sep x h n), fun x ps h => a.nt x ps (b.nt x ps h)⟩
theorem Stp.ex (a : Stp NoM Hd H Hd1 H1) : Ex H H1 := fun x o h => a.up x o h fun z => z
theorem Stp.mono (a : Stp M Hd H Hd1 H1) (h : ∀ x, M x → N x) : Stp N Hd H Hd1 H1 := ⟨fun x o e n => a.up x o e fun z => n (h x z), a.al, a.ud, a.sub, a.sep, a.nt⟩
theorem Stp.nom (a : Stp NoM Hd H Hd1 H1) : Stp M Hd H Hd1 H1 := a.mono fun _ z => z.elim
theorem sub_none (e : Ex Hd H) (h : H p = none) : Hd p = none := by
  cases q : Hd p with
  | none => rfl
  | some u =>
    have := e p u q
    rw [h] at this
    cases this
/-- a new immutable object -/
theorem Stp.new (e : Ex Hd H) (h : H p = none) (hT : ∀ ps, o ≠ .tbl ps := by intro _ z; cases z) : Stp M Hd H (upd Hd p o) (upd H p o) := by
  refine ⟨fun x u q _ => by rw [upd_ne (ne_of_none q h)]; exact q, fun x q => ?_, Ex.new (sub_none e h), fun x u q => ?_, fun x q n => ?_, fun x ps q => ?_⟩
  · by_cases hx : x = p
    · rw [hx, h] at q; exact absurd rfl q
    · rw [upd_ne hx]; exact q
  · by_cases hx : x = p
    · rw [hx, upd_same] at q ⊢; exact q
    · rw [upd_ne hx] at q ⊢; exact e x u q
  · by_cases hx : x = p
    · rw [hx, h] at q; exact absurd rfl q
    · rw [upd_ne hx]; exact n
  · by_cases hx : x = p
    · rw [hx, upd_same] at q; exact absurd (Option.some.inj q) (hT ps)
    · rw [upd_ne hx] at q; exact q
/-- a new mutable object -/
theorem Stp.newM (e : Ex Hd H) (h : H p = none) : Stp M Hd H Hd (upd H p o) := by
  refine ⟨fun x u q _ => by rw [upd_ne (ne_of_none q h)]; exact q, fun x q => ?_, Ex.refl _, e.trans (Ex.new h), fun x q n => n, fun _ _ q => q⟩
  by_cases hx : x = p
  · rw [hx, h] at q; exact absurd rfl q
  · rw [upd_ne hx]; exact q
/-- a mutable object is changed -/
theorem Stp.mut (e : Ex Hd H) (hm : M p) (hd : Hd p = none) : Stp M Hd H Hd (upd H p o) := by
  have ne : ∀ x, ¬ M x → x ≠ p := fun x n z => n (by rw [z]; exact hm)
  refine ⟨fun x u q n => by rw [upd_ne (ne x n)]; exact q, fun x q => ?_, Ex.refl _, fun x u q => ?_, fun x q n => n, fun _ _ q => q⟩
  · by_cases hx : x = p
    · rw [hx, upd_same]; intro z; cases z
    · rw [upd_ne hx]; exact q
  · have hx : x ≠ p := fun z => by rw [z, hd] at q; cases q
    rw [upd_ne hx]; exact e x u q
/-- an object that was new is changed -/
theorem Stp.mutNew (a : Stp M Hd H Hd1 H1) (h : H p = none) (hd : Hd1 p = none) : Stp M Hd H Hd1 (upd H1 p o) := by
  refine ⟨fun x u q n => by rw [upd_ne (ne_of_none q h)]; exact a.up x u q n, fun x q => ?_, a.ud, fun x u q => ?_, a.sep, a.nt⟩
  · have hx : x ≠ p := fun z => q (by rw [z]; exact h)
    rw [upd_ne hx]; exact a.al x q
  · have hx : x ≠ p := fun z => by rw [z, hd] at q; cases q
    rw [upd_ne hx]; exact a.sub x u q
/-- a new object becomes data -/
theorem Stp.freeze (a : Stp M Hd H Hd1 H1) (h : H p = none) (hd : Hd1 p = none) (ho : H1 p = some o) (hT : ∀ ps, o ≠ .tbl ps := by intro _ z; cases z) : Stp M Hd H (upd Hd1 p o) H1 := by
  refine ⟨a.up, a.al, a.ud.trans (Ex.new hd), fun x u q => ?_, fun x q n => ?_, fun x ps q => ?_⟩
  · by_cases hx : x = p
    · rw [hx, upd_same] at q; rw [hx, ho]; exact q
    · rw [upd_ne hx] at q; exact a.sub x u q
  · have hx : x ≠ p := fun z => q (by rw [z]; exact h)
    rw [upd_ne hx]; exact a.sep x q n
  · by_cases hx : x = p
    · rw [hx, upd_same] at q; exact absurd (Option.some.inj q) (hT ps)
    · rw [upd_ne hx] at q; exact a.nt x ps q
end
/-- what is known besides the data, kept by every step -/
structure MP where
  p : Hp → Hp → Prop
  mono : ∀ {Hd H Hd' H' : Hp}, Stp NoM Hd H Hd' H' → p Hd H → p Hd' H'
def MP.tt : MP := ⟨fun _ _ => True, fun _ _ => True.intro⟩

/-! ### slots -/
abbrev Rho := List (Option Dt)
def EnvD (K : PySem.W.Frag) (Hd : Hp) (σ : L2.St) (ρ : Rho) : Prop := σ.length = ρ.length ∧ ∀ (i : Nat) (d : Dt), ρ[i]? = some (some d) → ∃ v, σ[i]? = some (some v) ∧ Im K Hd v d
section
variable {K : PySem.W.Frag} {Hd Hd' : Hp} {σ : L2.St} {ρ : Rho} {v : V} {d : Dt} {i : Nat}
theorem EnvD.mono (e : Ex Hd Hd') (h : EnvD K Hd σ ρ) : EnvD K Hd' σ ρ := ⟨h.1, fun i d q => let ⟨v, a, b⟩ := h.2 i d q; ⟨v, a, b.mono e⟩⟩
theorem EnvD.set (h : EnvD K Hd σ ρ) (r : Im K Hd v d) : EnvD K Hd (σ.set i (some v)) (ρ.set i (some d)) := by
  refine ⟨by rw [List.length_set, List.length_set, h.1], fun j e q => ?_⟩
  by_cases hj : i = j
  · subst hj
    by_cases hl : i < ρ.length
    · rw [List.getElem?_set_self hl] at q
      cases q
      exact ⟨v, by rw [List.getElem?_set_self (by rw [h.1]; exact hl)], r⟩
    · rw [List.getElem?_eq_none (by simpa using hl)] at q; cases q
  · rw [List.getElem?_set_ne hj] at q
    obtain ⟨w, a, b⟩ := h.2 j e q
    exact ⟨w, by rw [List.getElem?_set_ne hj]; exact a, b⟩
theorem EnvD.forget (h : EnvD K Hd σ ρ) {o : Option V} : EnvD K Hd (σ.set i o) (ρ.set i none) := by
  refine ⟨by rw [List.length_set, List.length_set, h.1], fun j e q => ?_⟩
  by_cases hj : i = j
  · subst hj
    by_cases hl : i < ρ.length
    · rw [List.getElem?_set_self hl] at q; cases q
    · rw [List.getElem?_eq_none (by simpa using hl)] at q; cases q
  · rw [List.getElem?_set_ne hj] at q
    obtain ⟨w, a, b⟩ := h.2 j e q
    exact ⟨w, by rw [List.getElem?_set_ne hj]; exact a, b⟩
def wipeD (ρ : Rho) : List Nat → Rho
  | [] => ρ
  | v :: vs => (wipeD ρ vs).set v none
theorem EnvD.wipe (h : EnvD K Hd σ ρ) : ∀ vs : List Nat, EnvD K Hd (L2.wipe σ vs) (wipeD ρ vs)
  | [] => h
  | v :: vs => (EnvD.wipe h vs).forget
theorem EnvD.weak {ρ' : Rho} (h : EnvD K Hd σ ρ) (hl : ρ'.length = ρ.length) (hw : ∀ (i : Nat) (d : Dt), ρ'[i]? = some (some d) → ρ[i]? = some (some d)) : EnvD K Hd σ ρ' := ⟨h.1.trans hl.symm, fun i d q => h.2 i d (hw i d q)⟩
end
theorem set_get {σ : L2.St} {i : Nat} {a b : Option V} : (σ.set i a).set i b = σ.set i b := by
  rw [List.set_set]
theorem wipe_set {σ : L2.St} {j : Nat} {x : Option V} : ∀ {vs : List Nat}, j ∈ vs → L2.wipe (σ.set j x) vs = L2.wipe σ vs
  | v :: vs, h => by
    unfold L2.wipe
    by_cases hm : j ∈ vs
    · rw [wipe_set hm]
    · have e : v = j := by
        rcases List.mem_cons.mp h with e | e
        · exact e.symm
        · exact absurd e hm
      subst e
      have q : L2.wipe (σ.set v x) vs = (L2.wipe σ vs).set v x := by
        clear h
        induction vs with
        | nil => rfl
        | cons w ws ih =>
          have n1 : v ∉ ws := fun z => hm (List.mem_cons_of_mem _ z)
          have n2 : v ≠ w := fun z => hm (by rw [z]; exact List.mem_cons_self)
          unfold L2.wipe
          rw [ih n1, List.set_comm _ _ n2]
      rw [q, List.set_set]
theorem wipe_wipe {σ : L2.St} : ∀ {vs ws : List Nat}, (∀ j ∈ ws, j ∈ vs) → L2.wipe (L2.wipe σ ws) vs = L2.wipe σ vs
  | vs, [], _ => rfl
  | vs, w :: ws, h => by
    show L2.wipe ((L2.wipe σ ws).set w none) vs = _
    rw [wipe_set (h w List.mem_cons_self), wipe_wipe fun j hj => h j (List.mem_cons_of_mem _ hj)]

/-! ### judgements -/
section
variable (K : PySem.W.Frag) (Φ : MP)
def EvD (te : TE) (ρ : Rho) (d : Dt) : Prop := ∀ (σ : L2.St) (Hd H : Hp), Ex Hd H → EnvD K Hd σ ρ → Φ.p Hd H → ∀ Q : VK, (∀ v Hd' H', Stp NoM Hd H Hd' H' → Im K Hd' v d → Q v H') → te σ H Q
def EvT (tt : TT) (ρ : Rho) (b : Bool) : Prop := ∀ (σ : L2.St) (Hd H : Hp), Ex Hd H → EnvD K Hd σ ρ → Φ.p Hd H → ∀ Q : Bool → Hp → Prop, (∀ Hd' H', Stp NoM Hd H Hd' H' → Q b H') → tt σ H Q
def EvA (ta : TA) (ρ : Rho) (ds : List Dt) : Prop := ∀ (σ : L2.St) (Hd H : Hp), Ex Hd H → EnvD K Hd σ ρ → Φ.p Hd H → ∀ Q : List V → Hp → Prop, (∀ vs Hd' H', Stp NoM Hd H Hd' H' → ImA K Hd' vs ds → Q vs H') → ta σ H Q
def EvO (to : TO) (ρ : Rho) (o : Option Int) : Prop := ∀ (σ : L2.St) (Hd H : Hp), Ex Hd H → EnvD K Hd σ ρ → Φ.p Hd H → ∀ Q : Option Int → Hp → Prop, (∀ Hd' H', Stp NoM Hd H Hd' H' → Q o H') → to σ H Q
/-- operations by values -/
def RD2 (r : R2) (x y z : Dt) : Prop := ∀ (Hd H : Hp) (v u : V), Ex Hd H → Im K Hd v x → Im K Hd u y → Φ.p Hd H → ∀ Q : VK, (∀ w Hd' H', Stp NoM Hd H Hd' H' → Im K Hd' w z → Q w H') → r v u H Q
def RDC (r : List V → Hp → VK → Prop) (xs : List Dt) (z : Dt) : Prop := ∀ (Hd H : Hp) (vs : List V), Ex Hd H → ImA K Hd vs xs → Φ.p Hd H → ∀ Q : VK, (∀ w Hd' H', Stp NoM Hd H Hd' H' → Im K Hd' w z → Q w H') → r vs H Q
def RDM (r : V → List V → Hp → VK → Prop) (x : Dt) (xs : List Dt) (z : Dt) : Prop := ∀ (Hd H : Hp) (v : V) (vs : List V), Ex Hd H → Im K Hd v x → ImA K Hd vs xs → Φ.p Hd H → ∀ Q : VK, (∀ w Hd' H', Stp NoM Hd H Hd' H' → Im K Hd' w z → Q w H') → r v vs H Q
inductive Out where
  | nx (ρ : Rho)
  | rt (d : Dt)
def OutOk (Hd H : Hp) (D : Ends) : Out → Prop
  | .nx ρ' => ∀ σ' Hd' H', Stp NoM Hd H Hd' H' → EnvD K Hd' σ' ρ' → D.nx σ' H'
  | .rt d => ∀ v Hd' H', Stp NoM Hd H Hd' H' → Im K Hd' v d → D.rt v H'
def SvD (t : TS) (ρ : Rho) (o : Out) : Prop := ∀ (σ : L2.St) (Hd H : Hp), Ex Hd H → EnvD K Hd σ ρ → Φ.p Hd H → ∀ D : Ends, OutOk K Hd H D o → t D σ H
/-- targets: the slots js are written -/
def GvD (g : TG) (d : Dt) (ρ ρ' : Rho) (js : List Nat) : Prop := ∀ (σ : L2.St) (Hd H : Hp) (v : V), Ex Hd H → EnvD K Hd σ ρ → Im K Hd v d → ∀ Q : L2.St → Hp → Prop, (∀ σ', EnvD K Hd σ' ρ' → (∀ vs : List Nat, (∀ j ∈ js, j ∈ vs) → L2.wipe σ' vs = L2.wipe σ vs) → Q σ' H) → g v σ H Q
def GsD (g : TGs) (ds : List Dt) (ρ ρ' : Rho) (js : List Nat) : Prop := ∀ (σ : L2.St) (Hd H : Hp) (us : List V), Ex Hd H → EnvD K Hd σ ρ → ImA K Hd us ds → ∀ Q : L2.St → Hp → Prop, (∀ σ', EnvD K Hd σ' ρ' → (∀ vs : List Nat, (∀ j ∈ js, j ∈ vs) → L2.wipe σ' vs = L2.wipe σ vs) → Q σ' H) → g us σ H Q
/-- what is walked: the items -/
structure ItOk (J : It) (Hd : Hp) (items : List Dt) : Prop where
  go : ∀ (i : Nat) H, Ex Hd H → i < items.length → J.go i H
  stop : ∀ H, Ex Hd H → J.stop items.length H
  yld : ∀ (i : Nat) d H x H', Ex Hd H → items[i]? = some d → J.yld i H x H' → ∀ Hd2, Ex Hd Hd2 → Ex Hd2 H → ∃ Hd3, Stp NoM Hd2 H Hd3 H' ∧ Im K Hd3 x d
def ItD (wi : TI) (ρ : Rho) (items : List Dt) : Prop := ∀ (σ : L2.St) (Hd H : Hp), Ex Hd H → EnvD K Hd σ ρ → Φ.p Hd H → ∀ R : It → Hp → Prop, (∀ J Hd' H', Stp NoM Hd H Hd' H' → ItOk K J Hd' items → R J H') → wi σ H R
end
end SP
/-! D1 -/
namespace SP
open PySem L2
section
variable {K : PySem.W.Frag} {Φ : MP} {ρ ρ' ρ1 : Rho} {ta tb tc te : TE} {x y z d : Dt} {r r' : R2} {i : Nat} {v : V}

/-! ### names, constants, operators -/
theorem ed_var (h : ρ[i]? = some (some d) := by rfl) : EvD K Φ (tVar i) ρ d := fun σ Hd H e en _ Q q => by
  obtain ⟨v, a, b⟩ := en.2 i d h
  exact ⟨v, a, q v Hd H (.refl e) b⟩
theorem ed_c (h : ∀ Hd, Im K Hd v d) : EvD K Φ (tC v) ρ d := fun σ Hd H e en _ Q q => q v Hd H (.refl e) (h Hd)
theorem ed_int {n : Int} : EvD K Φ (tC (.int n)) ρ (.int n) := ed_c fun _ => .int n
theorem ed_str {n : Str} : EvD K Φ (tC (.str n)) ρ (.str n) := ed_c fun _ => .str n
theorem ed_bl {n : Bool} : EvD K Φ (tC (.bl n)) ρ (.bl n) := ed_c fun _ => .bl n
theorem ed_non : EvD K Φ (tC .non) ρ .non := ed_c fun _ => .non
theorem ed_raw : EvD K Φ (tC v) ρ (.raw v) := ed_c fun _ => .raw v
theorem ed_is (h : EvD K Φ te ρ x) (e : x = y) : EvD K Φ te ρ y := e ▸ h
theorem et_is {t : TT} {b c : Bool} (h : EvT K Φ t ρ b) (e : b = c) : EvT K Φ t ρ c := e ▸ h
theorem ed_op (ha : EvD K Φ ta ρ x) (hb : EvD K Φ tb ρ y) (hr : RD2 K Φ r x y z) : EvD K Φ (tOp r ta tb) ρ z := fun σ Hd H e en p Q q =>
  ha σ Hd H e en p _ fun v Hd1 H1 s1 i1 => hb σ Hd1 H1 s1.sub (en.mono s1.ud) (Φ.mono s1 p) _ fun u Hd2 H2 s2 i2 =>
    hr Hd2 H2 v u s2.sub (i1.mono s2.ud) i2 (Φ.mono s2 (Φ.mono s1 p)) Q fun w Hd3 H3 s3 i3 => q w Hd3 H3 (s1.trans (s2.trans s3)) i3
theorem ed_un {f : V → Hp → VK → Prop} (ha : EvD K Φ ta ρ x) (hr : ∀ (Hd H : Hp) (v : V), Ex Hd H → Im K Hd v x → ∀ Q : VK, (∀ w, Im K Hd w z → Q w H) → f v H Q) : EvD K Φ (tUn f ta) ρ z := fun σ Hd H e en p Q q =>
  ha σ Hd H e en p _ fun v Hd1 H1 s1 i1 => hr Hd1 H1 v s1.sub i1 Q fun w iw => q w Hd1 H1 s1 iw
theorem rd_ii {g : Int → Int → Int} {i j : Int} : RD2 K Φ (rI0 fun i j => .int (g i j)) (.int i) (.int j) (.int (g i j)) := fun Hd H v u e i1 i2 _ Q q => by
  rw [i1.int_inv, i2.int_inv]
  exact ⟨i, j, rfl, rfl, q _ Hd H (.refl e) (.int _)⟩
theorem rd_ib {g : Int → Int → Bool} {i j : Int} : RD2 K Φ (rI0 fun i j => .bl (g i j)) (.int i) (.int j) (.bl (g i j)) := fun Hd H v u e i1 i2 _ Q q => by
  rw [i1.int_inv, i2.int_inv]
  exact ⟨i, j, rfl, rfl, q _ Hd H (.refl e) (.bl _)⟩
theorem rd_iic {C : Int → Int → Prop} {g : Int → Int → Int} {i j : Int} (hc : C i j) : RD2 K Φ (rI C fun i j => .int (g i j)) (.int i) (.int j) (.int (g i j)) := fun Hd H v u e i1 i2 _ Q q => by
  rw [i1.int_inv, i2.int_inv]
  exact ⟨i, j, rfl, rfl, hc, q _ Hd H (.refl e) (.int _)⟩
theorem dec_vi {i j : Int} : decide (V.int i = V.int j) = decide (i = j) := by
  by_cases h : i = j
  · subst h; simp
  · have : ¬ V.int i = V.int j := fun z => h (V.int.inj z)
    rw [decide_eq_false h, decide_eq_false this]
theorem dec_vs {i j : Str} : decide (V.str i = V.str j) = decide (i = j) := by
  by_cases h : i = j
  · subst h; simp
  · have : ¬ V.str i = V.str j := fun z => h (V.str.inj z)
    rw [decide_eq_false h, decide_eq_false this]
theorem rd_eqi {i j : Int} : RD2 K Φ rEq (.int i) (.int j) (.bl (decide (i = j))) := fun Hd H v u e i1 i2 _ Q q => by
  rw [i1.int_inv, i2.int_inv]
  exact ⟨rfl, by rw [dec_vi]; exact q _ Hd H (.refl e) (.bl _)⟩
theorem rd_nei {i j : Int} : RD2 K Φ rNe (.int i) (.int j) (.bl (!decide (i = j))) := fun Hd H v u e i1 i2 _ Q q => by
  rw [i1.int_inv, i2.int_inv]
  exact ⟨rfl, by rw [dec_vi]; exact q _ Hd H (.refl e) (.bl _)⟩
theorem rd_eqs {i j : Str} : RD2 K Φ rEq (.str i) (.str j) (.bl (decide (i = j))) := fun Hd H v u e i1 i2 _ Q q => by
  rw [i1.str_inv, i2.str_inv]
  exact ⟨rfl, by rw [dec_vs]; exact q _ Hd H (.refl e) (.bl _)⟩
theorem rd_nes {i j : Str} : RD2 K Φ rNe (.str i) (.str j) (.bl (!decide (i = j))) := fun Hd H v u e i1 i2 _ Q q => by
  rw [i1.str_inv, i2.str_inv]
  exact ⟨rfl, by rw [dec_vs]; exact q _ Hd H (.refl e) (.bl _)⟩
theorem rd_lts {i j : Str} : RD2 K Φ (fun x y H Q => ∃ i j, x = .str i ∧ y = .str j ∧ Q (.bl (decide (i.cps.toList < j.cps.toList))) H) (.str i) (.str j) (.bl (decide (i.cps.toList < j.cps.toList))) := fun Hd H v u e i1 i2 _ Q q => by
  rw [i1.str_inv, i2.str_inv]
  exact ⟨i, j, rfl, rfl, q _ Hd H (.refl e) (.bl _)⟩
/-- is None of a thing that is no raw value -/
def Dt.isNon : Dt → Bool
  | .non => true
  | _ => false
def Dt.isRaw : Dt → Bool
  | .raw _ => true
  | _ => false
theorem Im.isNon {Hd : Hp} {v : V} {x : Dt} (h : Im K Hd v x) (hr : x.isRaw = false) : decide (v = V.non) = x.isNon := by
  cases h with
  | non => rfl
  | raw => cases hr
  | _ => rfl
theorem rd_isn (hr : x.isRaw = false) : RD2 K Φ (fun x y H Q => y = .non ∧ Q (.bl (decide (x = .non))) H) x .non (.bl x.isNon) := fun Hd H v u e i1 i2 _ Q q => by
  rw [i2.non_inv]
  exact ⟨rfl, by rw [i1.isNon hr]; exact q _ Hd H (.refl e) (.bl _)⟩
theorem rd_nisn (hr : x.isRaw = false) : RD2 K Φ (fun x y H Q => y = .non ∧ Q (.bl (!decide (x = .non))) H) x .non (.bl (!x.isNon)) := fun Hd H v u e i1 i2 _ Q q => by
  rw [i2.non_inv]
  exact ⟨rfl, by rw [i1.isNon hr]; exact q _ Hd H (.refl e) (.bl _)⟩
theorem rd_inS {c : Nat} {w : Str} : RD2 K Φ (fun x y H Q => ∃ (c : Nat) (z : Str), x = .str ⟨#[c]⟩ ∧ y = .str z ∧ Q (.bl (decide (c ∈ z.cps.toList))) H) (.str ⟨#[c]⟩) (.str w) (.bl (decide (c ∈ w.cps.toList))) := fun Hd H v u e i1 i2 _ Q q => by
  rw [i1.str_inv, i2.str_inv]
  exact ⟨c, w, rfl, rfl, q _ Hd H (.refl e) (.bl _)⟩
theorem inV_strs (s : Str) : ∀ ns : List Str, inV (.str s) (ns.map V.str) = decide (s ∈ ns)
  | [] => by simp [inV]
  | n :: ns => by
    have ih := inV_strs s ns
    unfold inV at ih ⊢
    rw [List.map_cons, List.any_cons, ih]
    show ((n == s) || decide (s ∈ ns)) = decide (s ∈ n :: ns)
    by_cases h : n = s
    · subst h; simp
    · have h' : ¬ s = n := fun z => h z.symm
      simp [h, h']
theorem flat_strs : ∀ ns : List Str, (ns.map V.str).all flatV = true
  | [] => rfl
  | n :: ns => by rw [List.map_cons, List.all_cons, flat_strs ns]; rfl
theorem rd_inT {neg : Bool} {s : Str} {ns : List Str} {b : Bool} : RD2 K Φ (rIn K neg) (.str s) (.tp b (ns.map Dt.str)) (.bl (if neg then !decide (s ∈ ns) else decide (s ∈ ns))) := fun Hd H v u e i1 i2 _ Q q => by
  obtain ⟨a, xs, rfl, h, ia⟩ := i2.tp_inv
  rw [i1.str_inv]
  rw [ia.strs] at h
  refine ⟨a, _, rfl, .inr (.inl (ex_rd e h)), rfl, flat_strs _, ?_⟩
  rw [inV_strs]
  exact q _ Hd H (.refl e) (.bl _)
theorem rd_inL {neg : Bool} {s : Str} {ns : List Str} : RD2 K Φ (rIn K neg) (.str s) (.lst (ns.map Dt.str)) (.bl (if neg then !decide (s ∈ ns) else decide (s ∈ ns))) := fun Hd H v u e i1 i2 _ Q q => by
  obtain ⟨a, xs, rfl, h, ia⟩ := i2.lst_inv
  rw [i1.str_inv]
  rw [ia.strs] at h
  refine ⟨a, _, rfl, .inl (.inl (.inl (e _ _ h))), rfl, flat_strs _, ?_⟩
  rw [inV_strs]
  exact q _ Hd H (.refl e) (.bl _)
theorem rd_cat {xs ys : List Dt} (hl : xs.length + ys.length ≤ 100000) : RD2 K Φ rCat (.lst xs) (.lst ys) (.lst (xs ++ ys)) := fun Hd H v u e i1 i2 _ Q q => by
  obtain ⟨a, us, rfl, h, ia⟩ := i1.lst_inv
  obtain ⟨b, ws, rfl, h', ib⟩ := i2.lst_inv
  refine ⟨a, b, us, ws, rfl, rfl, e _ _ h, e _ _ h', by rw [ia.length, ib.length]; exact Nat.le_trans hl (by decide), fun p hp => ?_⟩
  have s := Stp.new (M := NoM) (o := .lst (us ++ ws)) e hp
  exact q _ _ _ s (.lst upd_same ((ia.append ib).mono s.ud))
theorem ImA.rep {Hd : Hp} {v : V} {d : Dt} (h : Im K Hd v d) : ∀ n : Nat, ImA K Hd (List.replicate n v) (List.replicate n d)
  | 0 => .nil
  | n + 1 => .cons h (ImA.rep h n)
theorem rd_rep1 {x : Dt} {n : Nat} (hl : n ≤ 100000) : RD2 K Φ rRep (.lst [x]) (.int (n : Int)) (.lst (List.replicate n x)) := fun Hd H v u e i1 i2 _ Q q => by
  obtain ⟨a, us, rfl, h, ia⟩ := i1.lst_inv
  obtain ⟨w, ws, rfl, iw, it⟩ := ia.cons_inv
  rw [it.nil_inv] at h
  rw [i2.int_inv]
  refine ⟨a, n, [w], rfl, rfl, e _ _ h, by omega, by omega, by simp; exact Nat.le_trans hl (by decide), fun p hp => ?_⟩
  have e1 : (List.replicate (n : Int).toNat [w]).flatten = List.replicate n w := by
    have : ∀ m : Nat, (List.replicate m [w]).flatten = List.replicate m w := fun m => by
      induction m with
      | zero => rfl
      | succ m ih => rw [List.replicate_succ, List.flatten_cons, ih]; rfl
    rw [Int.toNat_natCast]
    exact this n
  rw [e1]
  have s := Stp.new (M := NoM) (o := .lst (List.replicate n w)) e hp
  exact q _ _ _ s (.lst upd_same ((ImA.rep iw n).mono s.ud))

/-! ### subscripts -/
theorem ixN_nat {n j : Nat} (hj : j < n) : ixN n (j : Int) = some j := by
  unfold ixN
  rw [if_pos (by omega), if_pos (by omega)]
  simp
theorem atI_nat' {α : Type} {xs : List α} {j : Nat} {a : α} (h : xs[j]? = some a) : atI xs (j : Int) = some a := by
  have hj := (List.getElem?_eq_some_iff.mp h).1
  unfold atI
  rw [ixN_nat hj]
  exact h
theorem rd_ixT {xs : List Dt} {j : Int} {b : Bool} (n : Nat) (hj : j = (n : Int)) (h : xs[n]? = some d) : RD2 K Φ (rIxT K) (.tp b xs) (.int j) d := fun Hd H v u e i1 i2 _ Q q => by
  obtain ⟨a, us, rfl, h', ia⟩ := i1.tp_inv
  obtain ⟨w, hw, iw⟩ := ia.get h
  rw [i2.int_inv, hj]
  exact ⟨a, us, n, w, rfl, rfl, .inl (ex_rd e h'), atI_nat' hw, q _ Hd H (.refl e) iw⟩
theorem rd_ixL {xs : List Dt} {j : Int} (n : Nat) (hj : j = (n : Int)) (h : xs[n]? = some d) : RD2 K Φ (rIxL K) (.lst xs) (.int j) d := fun Hd H v u e i1 i2 _ Q q => by
  obtain ⟨a, us, rfl, h', ia⟩ := i1.lst_inv
  obtain ⟨w, hw, iw⟩ := ia.get h
  rw [i2.int_inv, hj]
  exact ⟨a, us, n, w, rfl, rfl, .inl (.inl (e _ _ h')), atI_nat' hw, q _ Hd H (.refl e) iw⟩
theorem rd_ixS {w : Str} {j : Int} {c : Nat} (n : Nat) (hj : j = (n : Int)) (hl : w.length ≤ 100000) (h : w.cps.toList[n]? = some c) : RD2 K Φ rIxS (.str w) (.int j) (.str ⟨#[c]⟩) := fun Hd H v u e i1 i2 _ Q q => by
  rw [i1.str_inv, i2.int_inv, hj]
  exact ⟨w, n, c, rfl, rfl, Nat.le_trans hl (by decide), atI_nat' h, q _ Hd H (.refl e) (.str _)⟩
theorem eo_none : EvO K Φ tNoPart ρ none := fun σ Hd H e en p Q q => q Hd H (.refl e)
theorem eo_some {i : Int} (h : EvD K Φ te ρ (.int i)) : EvO K Φ (tPart te) ρ (some i) := fun σ Hd H e en p Q q =>
  h σ Hd H e en p _ fun v Hd1 H1 s1 i1 => ⟨i, i1.int_inv, q Hd1 H1 s1⟩
def cutD {α : Type} (xs : List α) (lo hi : Option Int) : List α := (xs.drop (HT.sIx xs.length 0 lo)).take (HT.sIx xs.length xs.length hi - HT.sIx xs.length 0 lo)
theorem ImA.cut {Hd : Hp} {us : List V} {xs : List Dt} (h : ImA K Hd us xs) (lo hi : Option Int) : ImA K Hd (cutV us lo hi) (cutD xs lo hi) := by
  unfold cutV cutD
  rw [h.length]
  exact (h.drop _).take _
theorem ed_sl {rs : V → Option Int → Option Int → Hp → VK → Prop} {tl th : TO} {lo hi : Option Int} (h : EvD K Φ te ρ x) (h1 : EvO K Φ tl ρ lo) (h2 : EvO K Φ th ρ hi)
    (hr : ∀ (Hd H : Hp) (v : V), Ex Hd H → Im K Hd v x → ∀ Q : VK, (∀ w Hd' H', Stp NoM Hd H Hd' H' → Im K Hd' w z → Q w H') → rs v lo hi H Q) : EvD K Φ (tSl rs te tl th) ρ z := fun σ Hd H e en p Q q =>
  h σ Hd H e en p _ fun v Hd1 H1 s1 i1 => h1 σ Hd1 H1 s1.sub (en.mono s1.ud) (Φ.mono s1 p) _ fun Hd2 H2 s2 => h2 σ Hd2 H2 s2.sub (en.mono (s1.ud.trans s2.ud)) (Φ.mono s2 (Φ.mono s1 p)) _ fun Hd3 H3 s3 =>
    hr Hd3 H3 v s3.sub (i1.mono (s2.ud.trans s3.ud)) Q fun w Hd4 H4 s4 iw => q w Hd4 H4 (s1.trans (s2.trans (s3.trans s4))) iw
theorem ed_slL {tl th : TO} {lo hi : Option Int} {xs : List Dt} (h : EvD K Φ te ρ (.lst xs)) (h1 : EvO K Φ tl ρ lo) (h2 : EvO K Φ th ρ hi) : EvD K Φ (tSl (rSlL K) te tl th) ρ (.lst (cutD xs lo hi)) :=
  ed_sl h h1 h2 fun Hd H v e i1 Q q => by
    obtain ⟨a, us, rfl, h', ia⟩ := i1.lst_inv
    refine ⟨a, us, rfl, .inl (.inl (e _ _ h')), fun p hp => ?_⟩
    have s := Stp.new (M := NoM) (o := .lst (cutV us lo hi)) e hp
    exact q _ _ _ s (.lst upd_same ((ia.cut lo hi).mono s.ud))
theorem cut_full {α : Type} {xs : List α} {lo hi : Option Int} (h : HT.sIx xs.length 0 lo = 0 ∧ HT.sIx xs.length xs.length hi = xs.length) : cutD xs lo hi = xs := by
  unfold cutD
  rw [h.1, h.2, List.drop_zero, Nat.sub_zero, List.take_length]
theorem ed_slT {tl th : TO} {lo hi : Option Int} {xs : List Dt} {b : Bool} (h : EvD K Φ te ρ (.tp b xs)) (h1 : EvO K Φ tl ρ lo) (h2 : EvO K Φ th ρ hi) : EvD K Φ (tSl (rSlA K) te tl th) ρ (.tup (cutD xs lo hi)) :=
  ed_sl h h1 h2 fun Hd H v e i1 Q q => by
    obtain ⟨a, us, rfl, h', ia⟩ := i1.tp_inv
    refine ⟨a, us, rfl, .inl (ex_rd e h'), fun hf => ?_, fun _ p hp => ?_⟩
    · rw [ia.length] at hf
      refine q _ Hd H (.refl e) ?_
      rw [cut_full hf]
      exact .tp false h' (fun z => nomatch z) ia
    · have s := Stp.new (M := NoM) (o := .tup (cutV us lo hi)) e hp
      exact q _ _ _ s (.tup upd_same ((ia.cut lo hi).mono s.ud))
theorem ed_slS {tl th : TO} {lo hi : Option Int} {w : Str} (h : EvD K Φ te ρ (.str w)) (h1 : EvO K Φ tl ρ lo) (h2 : EvO K Φ th ρ hi) (hl : w.length ≤ 100000) : EvD K Φ (tSl rSlS te tl th) ρ (.str (cutS w lo hi)) :=
  ed_sl h h1 h2 fun Hd H v e i1 Q q => by
    rw [i1.str_inv]
    exact ⟨w, rfl, Nat.le_trans hl (by decide), q _ Hd H (.refl e) (.str _)⟩

/-! ### argument lists, displays, calls -/
theorem ea_nil : EvA K Φ tNil ρ [] := fun σ Hd H e en p Q q => q [] Hd H (.refl e) .nil
theorem ea_cons {tr : TA} {ds : List Dt} (h : EvD K Φ ta ρ d) (hr : EvA K Φ tr ρ ds) : EvA K Φ (tCons ta tr) ρ (d :: ds) := fun σ Hd H e en p Q q =>
  h σ Hd H e en p _ fun v Hd1 H1 s1 i1 => hr σ Hd1 H1 s1.sub (en.mono s1.ud) (Φ.mono s1 p) _ fun vs Hd2 H2 s2 i2 => q _ Hd2 H2 (s1.trans s2) (.cons (i1.mono s2.ud) i2)
theorem ed_tup {t : TA} {ds : List Dt} (h : EvA K Φ t ρ ds) (hl : ds.length ≤ 100000 := by decide) : EvD K Φ (tTup t) ρ (.tup ds) := fun σ Hd H e en p Q q =>
  h σ Hd H e en p _ fun vs Hd1 H1 s1 i1 => ⟨by rw [i1.length]; exact Nat.le_trans hl (by decide), fun p' hp => by
    have s := Stp.new (M := NoM) (o := .tup vs) s1.sub hp
    exact q _ _ _ (s1.trans s) (.tup upd_same (i1.mono s.ud))⟩
theorem ed_lst {t : TA} {ds : List Dt} (h : EvA K Φ t ρ ds) (hl : ds.length ≤ 100000 := by decide) : EvD K Φ (tLst t) ρ (.lst ds) := fun σ Hd H e en p Q q =>
  h σ Hd H e en p _ fun vs Hd1 H1 s1 i1 => ⟨by rw [i1.length]; exact Nat.le_trans hl (by decide), fun p' hp => by
    have s := Stp.new (M := NoM) (o := .lst vs) s1.sub hp
    exact q _ _ _ (s1.trans s) (.lst upd_same (i1.mono s.ud))⟩
theorem ed_cb {rr : List V → Hp → VK → Prop} {t : TA} {ds : List Dt} (h : EvA K Φ t ρ ds) (hr : RDC K Φ rr ds z) : EvD K Φ (tCB rr t) ρ z := fun σ Hd H e en p Q q =>
  h σ Hd H e en p _ fun vs Hd1 H1 s1 i1 => hr Hd1 H1 vs s1.sub i1 (Φ.mono s1 p) Q fun w Hd2 H2 s2 i2 => q w Hd2 H2 (s1.trans s2) i2
/-- a def over data -/
def spD (K : PySem.W.Frag) (R : List Dt → Dt → Prop) : Sp := fun vs H Q _ => ∃ (Hd : Hp) (ts : List Dt) (r : Dt), Ex Hd H ∧ ImA K Hd vs ts ∧ R ts r ∧ ∀ v Hd' H', Stp NoM Hd H Hd' H' → Im K Hd' v r → Q v H'
theorem ed_call {R : List Dt → Dt → Prop} {E : XK} {t : TA} {ds : List Dt} (h : EvA K Φ t ρ ds) (hR : R ds z) : EvD K Φ (tCall (spD K R) [] E t) ρ z := fun σ Hd H e en p Q q =>
  h σ Hd H e en p _ fun vs Hd1 H1 s1 i1 => ⟨Hd1, ds, z, s1.sub, by rw [List.append_nil]; exact i1, hR, fun v Hd2 H2 s2 i2 => q v Hd2 H2 (s1.trans s2) i2⟩
theorem ed_bmS {rr : V → List V → Hp → VK → Prop} {to : TE} {t : TA} {w : Str} {ds : List Dt} (ho : EvD K Φ to ρ (.str w)) (h : EvA K Φ t ρ ds) (hr : RDM K Φ rr (.str w) ds z) : EvD K Φ (tBM K "str" rr to t) ρ z := fun σ Hd H e en p Q q =>
  ho σ Hd H e en p _ fun v Hd1 H1 s1 i1 => by
    rw [i1.str_inv]
    exact ⟨rfl, h σ Hd1 H1 s1.sub (en.mono s1.ud) (Φ.mono s1 p) _ fun vs Hd2 H2 s2 i2 => hr Hd2 H2 (.str w) vs s2.sub (.str w) i2 (Φ.mono s2 (Φ.mono s1 p)) Q fun u Hd3 H3 s3 i3 => q u Hd3 H3 (s1.trans (s2.trans s3)) i3⟩
theorem ed_m1 {rr : V → List V → Hp → VK → Prop} {to : TE} {w : Str} (ho : EvD K Φ to ρ (.str w)) (h : EvD K Φ te ρ x) (hr : RDM K Φ rr (.str w) [x] z) : EvD K Φ (tM1 rr to te) ρ z := fun σ Hd H e en p Q q =>
  ho σ Hd H e en p _ fun v Hd1 H1 s1 i1 => ⟨⟨w, i1.str_inv⟩, h σ Hd1 H1 s1.sub (en.mono s1.ud) (Φ.mono s1 p) _ fun u Hd2 H2 s2 i2 =>
    hr Hd2 H2 v [u] s2.sub (i1.mono s2.ud) (.cons i2 .nil) (Φ.mono s2 (Φ.mono s1 p)) Q fun u Hd3 H3 s3 i3 => q u Hd3 H3 (s1.trans (s2.trans s3)) i3⟩
theorem rc_lenS {w : Str} (hl : w.length ≤ 100000) : RDC K Φ (fun xs H Q => ∃ x n, xs = [x] ∧ LenV K x H n ∧ Q (.int n) H) [.str w] (.int w.length) := fun Hd H vs e i1 _ Q q => by
  obtain ⟨v, us, rfl, iv, it⟩ := i1.cons_inv
  rw [it.nil_inv, iv.str_inv]
  exact ⟨_, w.length, rfl, ⟨Nat.le_trans hl (by decide), rfl⟩, q _ Hd H (.refl e) (.int _)⟩
theorem rc_lenT {xs : List Dt} {b : Bool} : RDC K Φ (fun xs H Q => ∃ x n, xs = [x] ∧ LenV K x H n ∧ Q (.int n) H) [.tp b xs] (.int xs.length) := fun Hd H vs e i1 _ Q q => by
  obtain ⟨v, us, rfl, iv, it⟩ := i1.cons_inv
  obtain ⟨a, ws, rfl, h, ia⟩ := iv.tp_inv
  rw [it.nil_inv]
  exact ⟨_, xs.length, rfl, .inr ⟨ws, .inl (ex_rd e h), ia.length.symm⟩, q _ Hd H (.refl e) (.int _)⟩
theorem rc_lenL {xs : List Dt} : RDC K Φ (fun xs H Q => ∃ x n, xs = [x] ∧ LenV K x H n ∧ Q (.int n) H) [.lst xs] (.int xs.length) := fun Hd H vs e i1 _ Q q => by
  obtain ⟨v, us, rfl, iv, it⟩ := i1.cons_inv
  obtain ⟨a, ws, rfl, h, ia⟩ := iv.lst_inv
  rw [it.nil_inv]
  exact ⟨_, xs.length, rfl, .inl ⟨ws, .inl (.inl (e _ _ h)), ia.length.symm⟩, q _ Hd H (.refl e) (.int _)⟩
theorem rc_divmod {i j : Int} (hj : 0 < j) (hj2 : j < 1073741824) : RDC K Φ (fun xs H Q => ∃ i j, xs = [.int i, .int j] ∧ CDiv i j ∧ ∀ p, H p = none → Q (.ref p) (upd H p (.tup [.int (i / j), .int (i % j)]))) [.int i, .int j] (.tup [.int (i / j), .int (i % j)]) := fun Hd H vs e i1 _ Q q => by
  obtain ⟨v, us, rfl, iv, it⟩ := i1.cons_inv
  obtain ⟨v', us', rfl, iv', it'⟩ := it.cons_inv
  rw [it'.nil_inv, iv.int_inv, iv'.int_inv]
  refine ⟨i, j, rfl, ⟨hj, hj2⟩, fun p hp => ?_⟩
  exact q _ _ _ (Stp.new e hp) (.tup upd_same (.cons (.int _) (.cons (.int _) .nil)))
theorem rc_min2 {i j : Int} : RDC K Φ (fun xs H Q => ∃ i j, xs = [.int i, .int j] ∧ Q (.int (if j < i then j else i)) H) [.int i, .int j] (.int (min i j)) := fun Hd H vs e i1 _ Q q => by
  obtain ⟨v, us, rfl, iv, it⟩ := i1.cons_inv
  obtain ⟨v', us', rfl, iv', it'⟩ := it.cons_inv
  rw [it'.nil_inv, iv.int_inv, iv'.int_inv]
  refine ⟨i, j, rfl, ?_⟩
  have em : (if j < i then j else i) = min i j := by
    by_cases h : j < i
    · rw [if_pos h]; omega
    · rw [if_neg h]; omega
  rw [em]
  exact q _ Hd H (.refl e) (.int _)
theorem rc_int {i : Int} : RDC K Φ (fun xs H Q => (∃ i, xs = [.int i] ∧ Q (.int i) H) ∨ ∃ k, xs = [.bl k] ∧ Q (.int (if k then 1 else 0)) H) [.int i] (.int i) := fun Hd H vs e i1 _ Q q => by
  obtain ⟨v, us, rfl, iv, it⟩ := i1.cons_inv
  rw [it.nil_inv, iv.int_inv]
  exact .inl ⟨i, rfl, q _ Hd H (.refl e) (.int _)⟩
theorem rc_all {bs : List Bool} : RDC K Φ (rAll K) [.lst (bs.map Dt.bl)] (.bl (bs.all id)) := fun Hd H vs e i1 _ Q q => by
  obtain ⟨v, us, rfl, iv, it⟩ := i1.cons_inv
  obtain ⟨a, ws, rfl, h, ia⟩ := iv.lst_inv
  rw [it.nil_inv]
  rw [ia.bls] at h
  exact ⟨a, bs, rfl, .inl (.inl (e _ _ h)), q _ Hd H (.refl e) (.bl _)⟩
theorem rc_any {bs : List Bool} : RDC K Φ (rAny K) [.lst (bs.map Dt.bl)] (.bl (bs.any id)) := fun Hd H vs e i1 _ Q q => by
  obtain ⟨v, us, rfl, iv, it⟩ := i1.cons_inv
  obtain ⟨a, ws, rfl, h, ia⟩ := iv.lst_inv
  rw [it.nil_inv]
  rw [ia.bls] at h
  exact ⟨a, bs, rfl, .inl (.inl (e _ _ h)), q _ Hd H (.refl e) (.bl _)⟩
theorem rc_sum {ns : List Int} : RDC K Φ (rSum K) [.lst (ns.map Dt.int)] (.int ns.sum) := fun Hd H vs e i1 _ Q q => by
  obtain ⟨v, us, rfl, iv, it⟩ := i1.cons_inv
  obtain ⟨a, ws, rfl, h, ia⟩ := iv.lst_inv
  rw [it.nil_inv]
  rw [ia.ints] at h
  exact ⟨a, ns, rfl, .inl (.inl (e _ _ h)), q _ Hd H (.refl e) (.int _)⟩
/-- tuple(list) -/
theorem rc_tuple {xs : List Dt} : RDC K Φ (fun xs H Q => ∃ p ys, xs = [.ref p] ∧ ((SqL K H p ys ∧ ∀ l, H l = none → Q (.ref l) (upd H l (.tup ys))) ∨ (SqT K H p ys ∧ Q (.ref p) H))) [.lst xs] (.tup xs) := fun Hd H vs e i1 _ Q q => by
  obtain ⟨v, us, rfl, iv, it⟩ := i1.cons_inv
  obtain ⟨a, ws, rfl, h, ia⟩ := iv.lst_inv
  rw [it.nil_inv]
  refine ⟨a, ws, rfl, .inl ⟨.inl (.inl (e _ _ h)), fun p hp => ?_⟩⟩
  have s := Stp.new (M := NoM) (o := .tup ws) e hp
  exact q _ _ _ s (.tup upd_same (ia.mono s.ud))
theorem rc_sorted {ns ms : List Str} (hl : ns.length < 64) (hu : ∀ ys : List Str, ys.Perm ns → PyProof.Rows.sortedS ys = true → ys = ms) : RDC K Φ (rSortedS K) [.lst (ns.map Dt.str)] (.lst (ms.map Dt.str)) := fun Hd H vs e i1 _ Q q => by
  obtain ⟨v, us, rfl, iv, it⟩ := i1.cons_inv
  obtain ⟨a, ws, rfl, h, ia⟩ := iv.lst_inv
  rw [it.nil_inv]
  rw [ia.strs] at h
  refine ⟨a, ns, rfl, .inl (.inl (e _ _ h)), hl, fun ys p hp hs hn => ?_⟩
  rw [hu ys hp hs]
  exact q _ _ _ (Stp.new e hn) (.lst upd_same (ImA.of_strs _))
theorem rm_count {w c : Str} : RDM K Φ (fun x xs H Q => ∃ a b, x = .str a ∧ xs = [.str b] ∧ Q (.int (Txt.count a b)) H) (.str w) [.str c] (.int (Txt.count w c)) := fun Hd H v vs e i1 i2 _ Q q => by
  obtain ⟨u, us, rfl, iu, it⟩ := i2.cons_inv
  rw [it.nil_inv, i1.str_inv, iu.str_inv]
  exact ⟨w, c, rfl, rfl, q _ Hd H (.refl e) (.int _)⟩
theorem rm_join {w : Str} {ys : List Str} (hl : (ys.map (·.length)).sum + ys.length * w.length ≤ 16777216) : RDM K Φ (fun x xs H Q => ∃ a p, ∃ ys : List Str, x = .str a ∧ xs = [.ref p] ∧ (SqL K H p (ys.map V.str) ∨ SqT K H p (ys.map V.str)) ∧ (ys.map (·.length)).sum + ys.length * a.length ≤ 16777216 ∧ Q (.str (Txt.join a ys)) H) (.str w) [.lst (ys.map Dt.str)] (.str (Txt.join w ys)) := fun Hd H v vs e i1 i2 _ Q q => by
  obtain ⟨u, us, rfl, iu, it⟩ := i2.cons_inv
  obtain ⟨a, ws, rfl, h, ia⟩ := iu.lst_inv
  rw [it.nil_inv, i1.str_inv]
  rw [ia.strs] at h
  exact ⟨w, a, ys, rfl, rfl, .inl (.inl (.inl (e _ _ h))), hl, q _ Hd H (.refl e) (.str _)⟩

/-! ### tests, and, or, not, if -/
variable {t u : TT} {a b c : Bool}
theorem et_B (h : EvD K Φ te ρ (.bl b)) : EvT K Φ (tB te) ρ b := fun σ Hd H e en p Q q => h σ Hd H e en p _ fun v Hd1 H1 s1 i1 => ⟨b, i1.bl_inv, q Hd1 H1 s1⟩
theorem et_test (h : EvD K Φ te ρ (.bl b)) : EvT K Φ (tTest te) ρ b := fun σ Hd H e en p Q q => h σ Hd H e en p _ fun v Hd1 H1 s1 i1 => ⟨b, i1.bl_inv, q Hd1 H1 s1⟩
theorem et_yes : EvT K Φ tYes ρ true := fun σ Hd H e en p Q q => q Hd H (.refl e)
theorem et_not (h : EvT K Φ t ρ a) : EvT K Φ (tNot t) ρ (!a) := fun σ Hd H e en p Q q => h σ Hd H e en p _ q
theorem et_and (h1 : EvT K Φ t ρ a) (h2 : a = true → EvT K Φ u ρ b) : EvT K Φ (tAnd t u) ρ (a && b) := fun σ Hd H e en p Q q => h1 σ Hd H e en p _ fun Hd1 H1 s1 => by
  cases a with
  | true =>
    show u σ H1 Q
    exact h2 rfl σ Hd1 H1 s1.sub (en.mono s1.ud) (Φ.mono s1 p) Q fun Hd2 H2 s2 => q Hd2 H2 (s1.trans s2)
  | false =>
    show Q false H1
    exact q Hd1 H1 s1
theorem et_or (h1 : EvT K Φ t ρ a) (h2 : a = false → EvT K Φ u ρ b) : EvT K Φ (tOr t u) ρ (a || b) := fun σ Hd H e en p Q q => h1 σ Hd H e en p _ fun Hd1 H1 s1 => by
  cases a with
  | true =>
    show Q true H1
    exact q Hd1 H1 s1
  | false =>
    show u σ H1 Q
    exact h2 rfl σ Hd1 H1 s1.sub (en.mono s1.ud) (Φ.mono s1 p) Q fun Hd2 H2 s2 => q Hd2 H2 (s1.trans s2)
theorem ed_and (h1 : EvD K Φ ta ρ (.bl a)) (h2 : a = true → EvD K Φ tb ρ (.bl b)) : EvD K Φ (tAndV ta tb) ρ (.bl (a && b)) := fun σ Hd H e en p Q q => h1 σ Hd H e en p _ fun v Hd1 H1 s1 i1 => ⟨a, i1.bl_inv, by
  cases a with
  | true =>
    show tb σ H1 Q
    exact h2 rfl σ Hd1 H1 s1.sub (en.mono s1.ud) (Φ.mono s1 p) Q fun w Hd2 H2 s2 i2 => q w Hd2 H2 (s1.trans s2) i2
  | false =>
    show Q (.bl false) H1
    exact q _ Hd1 H1 s1 (.bl _)⟩
theorem ed_or (h1 : EvD K Φ ta ρ (.bl a)) (h2 : a = false → EvD K Φ tb ρ (.bl b)) : EvD K Φ (tOrV ta tb) ρ (.bl (a || b)) := fun σ Hd H e en p Q q => h1 σ Hd H e en p _ fun v Hd1 H1 s1 i1 => ⟨a, i1.bl_inv, by
  cases a with
  | true =>
    show Q (.bl true) H1
    exact q _ Hd1 H1 s1 (.bl _)
  | false =>
    show tb σ H1 Q
    exact h2 rfl σ Hd1 H1 s1.sub (en.mono s1.ud) (Φ.mono s1 p) Q fun w Hd2 H2 s2 i2 => q w Hd2 H2 (s1.trans s2) i2⟩
theorem ed_not (h1 : EvD K Φ ta ρ (.bl a)) : EvD K Φ (tNotV ta) ρ (.bl (!a)) := fun σ Hd H e en p Q q => h1 σ Hd H e en p _ fun v Hd1 H1 s1 i1 => ⟨a, i1.bl_inv, q _ Hd1 H1 s1 (.bl _)⟩
theorem ed_if (h : EvT K Φ t ρ b) (h1 : b = true → EvD K Φ ta ρ x) (h2 : b = false → EvD K Φ tb ρ x) : EvD K Φ (tIf t ta tb) ρ x := fun σ Hd H e en p Q q => h σ Hd H e en p _ fun Hd1 H1 s1 => by
  cases b with
  | true =>
    show ta σ H1 Q
    exact h1 rfl σ Hd1 H1 s1.sub (en.mono s1.ud) (Φ.mono s1 p) Q fun w Hd2 H2 s2 i2 => q w Hd2 H2 (s1.trans s2) i2
  | false =>
    show tb σ H1 Q
    exact h2 rfl σ Hd1 H1 s1.sub (en.mono s1.ud) (Φ.mono s1 p) Q fun w Hd2 H2 s2 i2 => q w Hd2 H2 (s1.trans s2) i2
theorem ed_chain (ha : EvD K Φ ta ρ x) (hb : EvD K Φ tb ρ y) (hc : a = true → EvD K Φ tc ρ z) (h1 : RD2 K Φ r x y (.bl a)) (h2 : a = true → RD2 K Φ r' y z (.bl b)) : EvD K Φ (tChain r r' ta tb tc) ρ (.bl (a && b)) := fun σ Hd H e en p Q q =>
  ha σ Hd H e en p _ fun v Hd1 H1 s1 i1 => hb σ Hd1 H1 s1.sub (en.mono s1.ud) (Φ.mono s1 p) _ fun w Hd2 H2 s2 i2 => h1 Hd2 H2 v w s2.sub (i1.mono s2.ud) i2 (Φ.mono s2 (Φ.mono s1 p)) _ fun k Hd3 H3 s3 i3 => ⟨a, i3.bl_inv, by
    have p3 := Φ.mono s3 (Φ.mono s2 (Φ.mono s1 p))
    cases a with
    | true =>
      show tc σ H3 fun w' H4 => r' w w' H4 Q
      exact hc rfl σ Hd3 H3 s3.sub (en.mono (s1.ud.trans (s2.ud.trans s3.ud))) p3 _ fun w' Hd4 H4 s4 i4 => h2 rfl Hd4 H4 w w' s4.sub (i2.mono (s3.ud.trans s4.ud)) i4 (Φ.mono s4 p3) Q fun k Hd5 H5 s5 i5 => q k Hd5 H5 (s1.trans (s2.trans (s3.trans (s4.trans s5)))) i5
    | false =>
      show Q (.bl false) H3
      exact q _ Hd3 H3 (s1.trans (s2.trans s3)) (.bl _)⟩

/-! ### statements -/
variable {ts tu tw : TS} {o : Out} {g : TG} {gs : TGs} {js ks : List Nat}
theorem sv_seq (h : SvD K Φ ts ρ (.nx ρ1)) (k : SvD K Φ tu ρ1 o) : SvD K Φ (tSeq ts tu) ρ o := fun σ Hd H e en p D q =>
  h σ Hd H e en p { D with nx := tu D } fun σ' Hd' H' s1 en1 => k σ' Hd' H' s1.sub en1 (Φ.mono s1 p) D (by
    cases o with
    | nx ρ2 => exact fun σ2 Hd2 H2 s2 en2 => q σ2 Hd2 H2 (s1.trans s2) en2
    | rt r => exact fun w Hd2 H2 s2 i2 => q w Hd2 H2 (s1.trans s2) i2)
theorem sv_seqR (h : SvD K Φ ts ρ (.rt x)) : SvD K Φ (tSeq ts tu) ρ (.rt x) := fun σ Hd H e en p D q =>
  h σ Hd H e en p { D with nx := tu D } q
theorem sv_next : SvD K Φ tNext ρ (.nx ρ) := fun σ Hd H e en p D q => q σ Hd H (.refl e) en
theorem sv_is {o' : Out} (h : SvD K Φ ts ρ o) (e : o = o') : SvD K Φ ts ρ o' := e ▸ h
theorem sv_ret (h : EvD K Φ te ρ x) : SvD K Φ (tRet te) ρ (.rt x) := fun σ Hd H e en p D q => h σ Hd H e en p _ q
theorem sv_drop (h : EvD K Φ te ρ x) : SvD K Φ (tDrop te) ρ (.nx ρ) := fun σ Hd H e en p D q => h σ Hd H e en p _ fun v Hd1 H1 s1 i1 => q σ Hd1 H1 s1 (en.mono s1.ud)
theorem sv_set (h : EvD K Φ te ρ x) : SvD K Φ (tAsg te (gName i)) ρ (.nx (ρ.set i (some x))) := fun σ Hd H e en p D q => h σ Hd H e en p _ fun v Hd1 H1 s1 i1 => q _ Hd1 H1 s1 ((en.mono s1.ud).set i1)
theorem sv_asg (h : EvD K Φ te ρ x) (hg : GvD K g x ρ ρ' js) : SvD K Φ (tAsg te g) ρ (.nx ρ') := fun σ Hd H e en p D q => h σ Hd H e en p _ fun v Hd1 H1 s1 i1 =>
  hg σ Hd1 H1 v s1.sub (en.mono s1.ud) i1 _ fun σ' en' _ => q σ' Hd1 H1 s1 en'
theorem sv_par {j : Nat} {ta : TA} {d1 d2 : Dt} (h : EvA K Φ ta ρ [d1, d2]) : SvD K Φ (tPar i j ta) ρ (.nx ((ρ.set i (some d1)).set j (some d2))) := fun σ Hd H e en p D q => h σ Hd H e en p _ fun vs Hd1 H1 s1 i1 => by
  obtain ⟨v, us, rfl, iv, it⟩ := i1.cons_inv
  obtain ⟨w, us', rfl, iw, it'⟩ := it.cons_inv
  rw [it'.nil_inv]
  exact ⟨v, w, rfl, q _ Hd1 H1 s1 (((en.mono s1.ud).set iv).set iw)⟩
theorem sv_if (h : EvT K Φ t ρ b) (h1 : b = true → SvD K Φ tu ρ o) (h2 : b = false → SvD K Φ tw ρ o) : SvD K Φ (tIfS t tu tw) ρ o := fun σ Hd H e en p D q => h σ Hd H e en p _ fun Hd1 H1 s1 => by
  have q' : OutOk K Hd1 H1 D o := by
    cases o with
    | nx ρ2 => exact fun σ2 Hd2 H2 s2 en2 => q σ2 Hd2 H2 (s1.trans s2) en2
    | rt r => exact fun w Hd2 H2 s2 i2 => q w Hd2 H2 (s1.trans s2) i2
  cases b with
  | true =>
    show tu D σ H1
    exact h1 rfl σ Hd1 H1 s1.sub (en.mono s1.ud) (Φ.mono s1 p) D q'
  | false =>
    show tw D σ H1
    exact h2 rfl σ Hd1 H1 s1.sub (en.mono s1.ud) (Φ.mono s1 p) D q'
theorem sv_ifF (h : EvT K Φ t ρ false) : (SvD K Φ tw ρ o) → SvD K Φ (tIfS t tu tw) ρ o := fun h2 => sv_if h (fun z => nomatch z) fun _ => h2
theorem sv_ifT (h : EvT K Φ t ρ true) : (SvD K Φ tu ρ o) → SvD K Φ (tIfS t tu tw) ρ o := fun h2 => sv_if h (fun _ => h2) fun z => nomatch z
theorem sv_aug {f : Int → Int → Int} {m n : Int} (hx : ρ[i]? = some (some (.int m)) := by rfl) (h : EvD K Φ te ρ (.int n)) : SvD K Φ (tAug i te (ipI f)) ρ (.nx (ρ.set i (some (.int (f m n))))) := fun σ Hd H e en p D q => by
  obtain ⟨v, a, iv⟩ := en.2 i _ hx
  rw [iv.int_inv] at a
  exact ⟨_, a, h σ Hd H e en p _ fun w Hd1 H1 s1 i1 => ⟨m, n, rfl, i1.int_inv, q _ Hd1 H1 s1 ((en.mono s1.ud).set (.int _))⟩⟩

/-! ### targets -/
theorem gv_name : GvD K (gName i) d ρ (ρ.set i (some d)) [i] := fun σ Hd H v e en iv Q q => q _ (en.set iv) fun vs h => wipe_set (h i (by simp))
theorem gs_nil : GsD K gNil [] ρ ρ [] := fun σ Hd H us e en iu Q q => ⟨iu.nil_inv, q σ en fun _ _ => rfl⟩
theorem gs_cons {ds : List Dt} (h : GvD K g d ρ ρ1 js) (k : GsD K gs ds ρ1 ρ' ks) : GsD K (gCons g gs) (d :: ds) ρ ρ' (js ++ ks) := fun σ Hd H us e en iu Q q => by
  obtain ⟨v, r, rfl, iv, it⟩ := iu.cons_inv
  exact ⟨v, r, rfl, h σ Hd H v e en iv _ fun σ1 en1 w1 => k σ1 Hd H r e en1 it Q fun σ2 en2 w2 => q σ2 en2 fun vs hv => (w2 vs fun j hj => hv j (List.mem_append_right _ hj)).trans (w1 vs fun j hj => hv j (List.mem_append_left _ hj))⟩
theorem gv_tup {ds : List Dt} {n : Nat} {b : Bool} (h : GsD K gs ds ρ ρ' js) (hn : ds.length = n := by rfl) : GvD K (gTup K n gs) (.tp b ds) ρ ρ' js := fun σ Hd H v e en iv Q q => by
  obtain ⟨a, xs, rfl, ha, ia⟩ := iv.tp_inv
  exact ⟨a, xs, rfl, .inl (ex_rd e ha), ia.length.trans hn, h σ Hd H xs e en ia Q q⟩
end
end SP
/-! D2 -/
namespace SP
open PySem L2
section
variable {K : PySem.W.Frag} {Φ : MP} {ρ ρ' ρ1 : Rho} {te : TE} {tb : TS} {tt : TT} {g : TG} {wi : TI} {vs : List Nat} {α : Type}
theorem OutOk.trans {Hd H Hd' H' : Hp} {D : Ends} {o : Out} (s : Stp NoM Hd H Hd' H') (q : OutOk K Hd H D o) : OutOk K Hd' H' D o := by
  cases o with
  | nx ρ2 => exact fun σ2 Hd2 H2 s2 en2 => q σ2 Hd2 H2 (s.trans s2) en2
  | rt r => exact fun w Hd2 H2 s2 i2 => q w Hd2 H2 (s.trans s2) i2
/-- one turn: the item bound, the body to the next slots (or out) -/
def TurnD (K : PySem.W.Frag) (Φ : MP) (g : TG) (tb : TS) (d : Dt) (ρ : Rho) (o : Out) : Prop := ∃ ρ1 js, GvD K g d ρ ρ1 js ∧ SvD K Φ tb ρ1 o
theorem sv_forG (l : List α) (enc : α → Dt) (hi : ItD K Φ wi ρ (l.map enc)) (R : Nat → Rho) (k : Nat) (o : Out) (h0 : R 0 = ρ) (hk : k ≤ l.length)
    (hs : ∀ (i : Nat) a, i < k → l[i]? = some a → TurnD K Φ g tb (enc a) (R i) (.nx (R (i + 1))))
    (he : (k = l.length ∧ o = .nx (R k)) ∨ ∃ a r, l[k]? = some a ∧ o = .rt r ∧ TurnD K Φ g tb (enc a) (R k) (.rt r)) : SvD K Φ (tFor wi g tb) ρ o := by
  intro σ Hd H e en p D q
  refine hi σ Hd H e en p _ fun J Hd1 H1 s1 ok => ?_
  have hlen : (l.map enc).length = l.length := List.length_map ..
  refine ⟨fun i m σ' H' => i ≤ k ∧ m = k - i ∧ ∃ Hd', Stp NoM Hd1 H1 Hd' H' ∧ EnvD K Hd' σ' (R i), ⟨k, Nat.zero_le _, rfl, Hd1, .refl s1.sub, by rw [h0]; exact en.mono s1.ud⟩, ?_⟩
  rintro i m σ' H' ⟨hik, rfl, Hd', s2, en2⟩
  have ex1 : Ex Hd1 H' := s2.ud.trans s2.sub
  have p2 : Φ.p Hd' H' := Φ.mono s2 (Φ.mono s1 p)
  by_cases hlt : i < k
  · have hil : i < l.length := Nat.lt_of_lt_of_le hlt hk
    obtain ⟨ρ1, js, hg, hb⟩ := hs i l[i] hlt (List.getElem?_eq_getElem hil)
    refine .inr ⟨ok.go i H' ex1 (by rw [hlen]; exact hil), fun σ2 H2 => ∃ Hd2, Stp NoM Hd1 H1 Hd2 H2 ∧ EnvD K Hd2 σ2 (R (i + 1)), fun σ2 H2 ⟨Hd2, s3, en3⟩ => ⟨k - (i + 1), by omega, hlt, rfl, Hd2, s3, en3⟩, fun x H2 y => ?_⟩
    obtain ⟨Hd3, s3, ix⟩ := ok.yld i (enc l[i]) H' x H2 ex1 (by rw [List.getElem?_map, List.getElem?_eq_getElem hil]; rfl) y Hd' s2.ud s2.sub
    refine hg σ' Hd3 H2 x s3.sub (en2.mono s3.ud) ix _ fun σ3 en3 _ => ?_
    exact hb σ3 Hd3 H2 s3.sub en3 (Φ.mono s3 p2) _ fun σ4 Hd4 H4 s4 en4 => ⟨Hd4, s2.trans (s3.trans s4), en4⟩
  · have hik' : i = k := by omega
    subst hik'
    rcases he with ⟨h1, h2⟩ | ⟨a, r, ha, h2, ρ1, js, hg, hb⟩
    · subst h2
      refine .inl ⟨by have := ok.stop H' ex1; rw [hlen] at this; rw [h1]; exact this, q σ' Hd' H' (s1.trans s2) en2⟩
    · subst h2
      have hil : i < l.length := (List.getElem?_eq_some_iff.mp ha).1
      refine .inr ⟨ok.go i H' ex1 (by rw [hlen]; exact hil), fun σ2 H2 => False, fun σ2 H2 z => z.elim, fun x H2 y => ?_⟩
      obtain ⟨Hd3, s3, ix⟩ := ok.yld i (enc a) H' x H2 ex1 (by rw [List.getElem?_map, ha]; rfl) y Hd' s2.ud s2.sub
      refine hg σ' Hd3 H2 x s3.sub (en2.mono s3.ud) ix _ fun σ3 en3 _ => ?_
      exact hb σ3 Hd3 H2 s3.sub en3 (Φ.mono s3 p2) _ fun v Hd4 H4 s4 i4 => q v Hd4 H4 (s1.trans (s2.trans (s3.trans s4))) i4
/-- the loop to its end -/
theorem sv_for (l : List α) (enc : α → Dt) (hi : ItD K Φ wi ρ (l.map enc)) (R : Nat → Rho) (h0 : R 0 = ρ) (hs : ∀ (i : Nat) a, l[i]? = some a → TurnD K Φ g tb (enc a) (R i) (.nx (R (i + 1)))) : SvD K Φ (tFor wi g tb) ρ (.nx (R l.length)) :=
  sv_forG l enc hi R l.length _ h0 (Nat.le_refl _) (fun i a _ => hs i a) (.inl ⟨rfl, rfl⟩)
/-- .. left by a return in turn k -/
theorem sv_forR (l : List α) (enc : α → Dt) (hi : ItD K Φ wi ρ (l.map enc)) (R : Nat → Rho) (k : Nat) {a : α} {r : Dt} (h0 : R 0 = ρ) (ha : l[k]? = some a) (hs : ∀ (i : Nat) a, i < k → l[i]? = some a → TurnD K Φ g tb (enc a) (R i) (.nx (R (i + 1))))
    (he : TurnD K Φ g tb (enc a) (R k) (.rt r)) : SvD K Φ (tFor wi g tb) ρ (.rt r) :=
  sv_forG l enc hi R k _ h0 (Nat.le_of_lt (List.getElem?_eq_some_iff.mp ha).1) hs (.inr ⟨a, r, ha, rfl, he⟩)

/-- a comprehension -/
theorem ed_lc (l : List α) (enc : α → Dt) (hi : ItD K Φ wi ρ (l.map enc)) (f : α → Bool) (v : α → Dt) (hn : l.length ≤ 100000)
    (hs : ∀ a, a ∈ l → ∃ ρ1 js, GvD K g (enc a) (wipeD ρ vs) ρ1 js ∧ (∀ j ∈ js, j ∈ vs) ∧ EvT K Φ tt ρ1 (f a) ∧ (f a = true → EvD K Φ te ρ1 (v a))) : EvD K Φ (tLc wi g tt te vs) ρ (.lst ((l.filter f).map v)) := by
  intro σ Hd H e en p Q q
  refine hi σ Hd H e en p _ fun J Hd1 H1 s1 ok => fun Dl hD => ?_
  have hlen : (l.map enc).length = l.length := List.length_map ..
  have sz : ∀ i : Nat, (((l.take i).filter f).map v).length ≤ i := fun i => by
    rw [List.length_map]
    have h1 := List.length_filter_le f (l.take i)
    have h2 := List.length_take_le i l
    omega
  have hDn : Hd1 Dl = none := sub_none s1.sub hD
  refine ⟨fun i m H' => i ≤ l.length ∧ m = l.length - i ∧ ∃ Hd' acc, Stp NoM Hd1 H1 Hd' H' ∧ Hd' Dl = none ∧ H' Dl = some (.lst acc) ∧ ImA K Hd' acc (((l.take i).filter f).map v),
    ⟨l.length, Nat.zero_le _, rfl, Hd1, [], .newM s1.sub hD, hDn, upd_same, by rw [List.take_zero]; exact .nil⟩, ?_⟩
  rintro i m H' ⟨hil, rfl, Hd', acc, s2, hd, hacc, iacc⟩
  have ex1 : Ex Hd1 H' := s2.ud.trans s2.sub
  have p2 : Φ.p Hd' H' := Φ.mono s2 (Φ.mono s1 p)
  by_cases hlt : i < l.length
  · have hget : l[i]? = some l[i] := List.getElem?_eq_getElem hlt
    obtain ⟨ρ1, js, hg, hj, ht, he⟩ := hs l[i] (List.getElem_mem hlt)
    refine .inr ⟨ok.go i H' ex1 (by rw [hlen]; exact hlt), fun H2 => ∃ Hd2 acc2, Stp NoM Hd1 H1 Hd2 H2 ∧ Hd2 Dl = none ∧ H2 Dl = some (.lst acc2) ∧ ImA K Hd2 acc2 (((l.take (i + 1)).filter f).map v), fun H2 ⟨Hd2, acc2, a, b, c, d⟩ => ⟨l.length - (i + 1), by omega, hlt, rfl, Hd2, acc2, a, b, c, d⟩, fun x H2 y => ?_⟩
    obtain ⟨Hd3, s3, ix⟩ := ok.yld i (enc l[i]) H' x H2 ex1 (by rw [List.getElem?_map, hget]; rfl) y Hd' s2.ud s2.sub
    refine hg (L2.wipe σ vs) Hd3 H2 x s3.sub ((en.mono (s1.ud.trans (s2.ud.trans s3.ud))).wipe vs) ix _ fun σ3 en3 hw => ⟨?_, ?_⟩
    · rw [hw vs hj]
      exact wipe_wipe fun j h => h
    have hne : H' Dl ≠ none := by rw [hacc]; intro z; cases z
    refine ht σ3 Hd3 H2 s3.sub en3 (Φ.mono s3 p2) _ fun Hd4 H4 s4 => ?_
    have s34 := s3.trans s4
    cases hf : f l[i] with
    | true =>
      show te σ3 H4 _
      refine he hf σ3 Hd4 H4 s4.sub (en3.mono s4.ud) (Φ.mono s34 p2) _ fun w Hd5 H5 s5 iw => ?_
      have s35 := s34.trans s5
      have hd5 : Hd5 Dl = none := s35.sep Dl hne hd
      refine ⟨acc, s35.ex Dl _ hacc, ?_, Hd5, acc ++ [w], (s2.trans s35).mutNew hD hd5, hd5, upd_same, ?_⟩
      · rw [iacc.length]
        have := sz i
        exact Nat.lt_of_lt_of_le (show (((l.take i).filter f).map v).length < 100001 by omega) (by decide)
      · rw [List.take_add_one, hget]
        show ImA K Hd5 (acc ++ [w]) (((l.take i ++ [l[i]]).filter f).map v)
        rw [List.filter_append, List.map_append, List.filter_cons, hf]
        exact (iacc.mono s35.ud).append (.cons iw .nil)
    | false =>
      show _
      refine ⟨Hd4, acc, s2.trans s34, s34.sep Dl hne hd, s34.ex Dl _ hacc, ?_⟩
      rw [List.take_add_one, hget]
      show ImA K Hd4 acc (((l.take i ++ [l[i]]).filter f).map v)
      rw [List.filter_append, List.map_append, List.filter_cons, hf]
      show ImA K Hd4 acc (((l.take i).filter f).map v ++ [])
      rw [List.append_nil]
      exact iacc.mono s34.ud
  · have hik' : i = l.length := by omega
    subst hik'
    refine .inl ⟨by have := ok.stop H' ex1; rw [hlen] at this; exact this, ?_⟩
    rw [List.take_length] at iacc
    exact q _ (upd Hd' Dl (.lst acc)) H' (s1.trans (s2.freeze hD hd hacc)) (.lst upd_same (iacc.mono (Ex.new hd)))
/-- .. all items kept -/
theorem filter_true (l : List α) : l.filter (fun _ => true) = l := List.filter_eq_self.mpr fun _ _ => rfl
theorem ed_lcA (l : List α) (enc : α → Dt) (hi : ItD K Φ wi ρ (l.map enc)) (v : α → Dt) (hn : l.length ≤ 100000)
    (hs : ∀ a, a ∈ l → ∃ ρ1 js, GvD K g (enc a) (wipeD ρ vs) ρ1 js ∧ (∀ j ∈ js, j ∈ vs) ∧ EvD K Φ te ρ1 (v a)) : EvD K Φ (tLc wi g tYes te vs) ρ (.lst (l.map v)) := by
  have h := ed_lc (tt := tYes) (te := te) (g := g) (vs := vs) l enc hi (fun _ => true) v hn fun a ha => by
    obtain ⟨ρ1, js, h1, h2, h3⟩ := hs a ha
    exact ⟨ρ1, js, h1, h2, et_yes, fun _ => h3⟩
  rw [filter_true] at h
  exact h

/-! ### what is walked -/
theorem it_tup {ds : List Dt} {b : Bool} (h : EvD K Φ te ρ (.tp b ds)) : ItD K Φ (iTup K te) ρ ds := fun σ Hd H e en p R q =>
  h σ Hd H e en p _ fun v Hd1 H1 s1 i1 => by
    obtain ⟨a, xs, rfl, ha, ia⟩ := i1.tp_inv
    have at_ : ∀ H2, Ex Hd1 H2 → SqT K H2 a xs := fun H2 e2 => .inl (ex_rd e2 ha)
    refine ⟨a, rfl, ⟨xs, at_ _ s1.sub⟩, q _ Hd1 H1 s1 ⟨fun i H2 e2 hi => ?_, fun H2 e2 => ⟨xs, at_ _ e2, Nat.le_of_eq ia.length⟩, fun i d H2 x H3 e2 hd y Hd2 e3 e4 => ?_⟩⟩
    · have hx : i < xs.length := by rw [ia.length]; exact hi
      exact ⟨xs, xs[i], at_ _ e2, List.getElem?_eq_getElem hx⟩
    · obtain ⟨rfl, y⟩ := y
      obtain ⟨w, hw, iw⟩ := ia.get hd
      have : x = w := Option.some.inj ((y xs (at_ _ e2)).symm.trans hw)
      subst this
      exact ⟨Hd2, .refl e4, iw.mono e3⟩
theorem it_lst {ds : List Dt} (h : EvD K Φ te ρ (.lst ds)) : ItD K Φ (iList K te) ρ ds := fun σ Hd H e en p R q =>
  h σ Hd H e en p _ fun v Hd1 H1 s1 i1 => by
    obtain ⟨a, xs, rfl, ha, ia⟩ := i1.lst_inv
    have at_ : ∀ H2, Ex Hd1 H2 → SqL K H2 a xs := fun H2 e2 => .inl (.inl (e2 _ _ ha))
    refine ⟨a, rfl, ⟨xs, at_ _ s1.sub⟩, q _ Hd1 H1 s1 ⟨fun i H2 e2 hi => ?_, fun H2 e2 => ⟨xs, at_ _ e2, Nat.le_of_eq ia.length⟩, fun i d H2 x H3 e2 hd y Hd2 e3 e4 => ?_⟩⟩
    · have hx : i < xs.length := by rw [ia.length]; exact hi
      exact ⟨xs, xs[i], at_ _ e2, List.getElem?_eq_getElem hx⟩
    · obtain ⟨rfl, y⟩ := y
      obtain ⟨w, hw, iw⟩ := ia.get hd
      have : x = w := Option.some.inj ((y xs (at_ _ e2)).symm.trans hw)
      subst this
      exact ⟨Hd2, .refl e4, iw.mono e3⟩
def sg (c : Nat) : Str := ⟨#[c]⟩
theorem it_str {w : Str} (h : EvD K Φ te ρ (.str w)) : ItD K Φ (iStr te) ρ (w.cps.toList.map fun c => .str (sg c)) := fun σ Hd H e en p R q =>
  h σ Hd H e en p _ fun v Hd1 H1 s1 i1 => by
    rw [i1.str_inv]
    refine ⟨w, rfl, q _ Hd1 H1 s1 ⟨fun i H2 e2 hi => ?_, fun H2 e2 => ?_, fun i d H2 x H3 e2 hd y Hd2 e3 e4 => ?_⟩⟩
    · show i < w.cps.size
      rw [List.length_map, Array.length_toList] at hi
      exact hi
    · show w.cps.size ≤ _
      rw [List.length_map, Array.length_toList]
      exact Nat.le_refl _
    · obtain ⟨rfl, c, hc, rfl⟩ := y
      rw [List.getElem?_map, Array.getElem?_toList, hc] at hd
      cases hd
      exact ⟨Hd2, .refl e4, .str _⟩
theorem it_rng {ta : TA} {n : Int} (h : EvA K Φ ta ρ [.int n]) (hn : -(2 ^ 62) ≤ n ∧ n < 2 ^ 62) : ItD K Φ (iRng1 ta) ρ ((List.range n.toNat).map fun (k : Nat) => Dt.int (k : Int)) := fun σ Hd H e en p R q =>
  h σ Hd H e en p _ fun vs Hd1 H1 s1 i1 => by
    obtain ⟨v, us, rfl, iv, it⟩ := i1.cons_inv
    rw [it.nil_inv, iv.int_inv]
    refine ⟨n, rfl, hn.1, hn.2, q _ Hd1 H1 s1 ⟨fun i H2 e2 hi => ?_, fun H2 e2 => ?_, fun i d H2 x H3 e2 hd y Hd2 e3 e4 => ?_⟩⟩
    · show i < n.toNat
      rw [List.length_map, List.length_range] at hi
      exact hi
    · show n.toNat ≤ _
      rw [List.length_map, List.length_range]
      exact Nat.le_refl _
    · obtain ⟨rfl, rfl⟩ := y
      rw [List.getElem?_map] at hd
      obtain ⟨k, hk, rfl⟩ := Option.map_eq_some_iff.mp hd
      obtain ⟨hk1, hk2⟩ := List.getElem?_eq_some_iff.mp hk
      rw [List.getElem_range] at hk2
      subst hk2
      rw [Int.zero_add]
      exact ⟨Hd2, .refl e4, .int _⟩
end

/-! ### a def over data: its promise by its reading -/
def startD (N : List Str) (ts : List Dt) : Rho := ts.map some ++ List.replicate (N.length - ts.length) none
theorem env_start {K : PySem.W.Frag} {Hd : Hp} {vs : List V} {ts : List Dt} (N : List Str) (h : ImA K Hd vs ts) : EnvD K Hd (L2.start N vs) (startD N ts) := by
  unfold L2.start startD
  refine ⟨by simp [h.length], fun i d q => ?_⟩
  by_cases hi : i < ts.length
  · have hi' : i < vs.length := by rw [h.length]; exact hi
    rw [List.getElem?_append_left (by rw [List.length_map]; exact hi), List.getElem?_map] at q
    obtain ⟨d', h1, h2⟩ := Option.map_eq_some_iff.mp q
    cases h2
    obtain ⟨v, hv, iv⟩ := h.get h1
    refine ⟨v, ?_, iv⟩
    rw [List.getElem?_append_left (by rw [List.length_map]; exact hi'), List.getElem?_map, hv]
    rfl
  · rw [List.getElem?_append_right (by rw [List.length_map]; omega)] at q
    rw [List.getElem?_replicate] at q
    split at q <;> cases q
/-- the outcome gives r back -/
def Gives (o : Out) (r : Dt) : Prop := o = .rt r ∨ ((∃ ρ, o = .nx ρ) ∧ r = .non)
theorem fn_data {P : Program} {w : World} {K : PySem.W.Frag} {mg : Str → Option Value} {base : Heap} {x qual : Str} {st : Stmt} {f : Addr} {fd : FuncData} {N ps : List Str} {k : Nat} {R : List Dt → Dt → Prop} (F : Fun K x qual st f fd) (S : FnScope N ps (defScope st))
    (len : ∀ ts r, R ts r → ts.length = ps.length)
    (hbody : ∀ (cdv : Value) (A : Around) (outer : List Env) (s : Shared) (H : Hp) (E : XK), Room k (A.deeper (PyProof.Rows.envOfC qual (defScope st) s.heap.objs.size f cdv)) →
      ∃ t, PSs (cxOf CX0 P w K mg base N qual (defScope st) f cdv A outer s H E).nox (defBody st) t ∧ ∀ ts r, R ts r → ∃ o, SvD K MP.tt t (startD N ts) o ∧ Gives o r) : FnOk P w K mg base CX0 (k + 1) f fd ps (spD K R) := by
  refine F.ok S (fun vs H Q E h => ?_) (fun cdv A outer s H vs Q E hr h => ?_)
  · obtain ⟨Hd, ts, r, _, ia, hR, _⟩ := h
    rw [ia.length]
    exact len ts r hR
  · obtain ⟨Hd, ts, r, e, ia, hR, q⟩ := h
    obtain ⟨t, ht, hs⟩ := hbody cdv A outer s H E hr
    obtain ⟨o, ho, hg⟩ := hs ts r hR
    refine ⟨t, ht, ho _ Hd H e (env_start N ia) True.intro _ ?_⟩
    rcases hg with rfl | ⟨⟨ρ, rfl⟩, rfl⟩
    · exact fun v Hd' H' s' i' => q v Hd' H' s' i'
    · exact fun σ' Hd' H' s' _ => q .non Hd' H' s' .non
end SP
/-! P1 -/
namespace SP
open PySem PySem.Spec PyProof.Rows L2

/-- enumerate(v), one argument, over whatever begins -/
theorem meets_enum1 {v : Value} {o : Obj} {H : Heap → Prop} (B : Begins v o H) :
    Meets (Builtin.«enumerate.__new__» ⟨[.type "enumerate", v], []⟩) (fun _ R s => H s.heap ∧
      R (.ok (.ret (.ref (s.heap.push o).objs.size))) { s with heap := (s.heap.push o).push { cls := .type "enumerate", data := .fields #[.none, .bool false, .ref s.heap.objs.size, rawInt 0, .none, .none] } }) :=
  .of_wp fun prog w A R s h => by
    obtain ⟨hp, g, d, tk, os⟩ := s
    obtain ⟨h1, h⟩ := h
    have hsub := sub_enumerate
    have q1 : ∀ {A' : Around} {E : Value → Shared → Prop} {Q : Value → Shared → Prop}, Q (.ref hp.objs.size) ⟨hp.push o, g, d, tk, os⟩ → wpAny (model prog w) A' (pyIter v) Q E ⟨hp, g, d, tk, os⟩ :=
      fun q => B.iter prog w _ _ ⟨hp, g, d, tk, os⟩ _ h1 q
    wp_walk using q1
    refine wpAny_stack_any fun st => wpAny_pure ?_
    split
    · rename_i c _ _ _ _ _
      cases (c == Value.type "enumerate")
      · wp_walk using q1
        exact ⟨_, rfl, h⟩
      · wp_walk using q1
        exact ⟨_, rfl, h⟩
    · wp_walk using q1
      exact ⟨_, rfl, h⟩
theorem enum1_begins {prog : Program} {w : World} {A : Around} {E : Value → Shared → Prop} {s : Shared} {v : Value} {o : Obj} {H : Heap → Prop} {Q : Value → Shared → Prop} (B : Begins v o H) (h1 : H s.heap)
    (h : ∀ h', IsEnum h' (s.heap.objs.size + 1) s.heap.objs.size 0 .none → h'.get? s.heap.objs.size = some o → (∀ b o, s.heap.get? b = some o → h'.get? b = some o) → Q (.ref (s.heap.objs.size + 1)) { s with heap := h' }) :
    wpAny (model prog w) A (call (.type "enumerate") [v]) Q E s := by
  refine callType_new F.called_enumerate (by decide) (F.typeCall_enumerate_1 _) (F.newCall_enumerate_1 _) (fun obj => F.args_object_init_2 obj _) F.entry_enumerate_new (meets_enum1 B) ⟨h1, ?_⟩
  have hz : (s.heap.push o).objs.size = s.heap.objs.size + 1 := Heap.size_push ..
  show _ ∧ _
  rw [hz]
  have he : IsEnum ((s.heap.push o).push { cls := .type "enumerate", data := .fields #[.none, .bool false, .ref s.heap.objs.size, rawInt 0, .none, .none] }) (s.heap.objs.size + 1) s.heap.objs.size 0 .none := by
    have := Heap.get?_push_size (s.heap.push o) (o := { cls := .type "enumerate", data := .fields #[.none, .bool false, .ref s.heap.objs.size, rawInt 0, .none, .none] }) rfl
    rw [hz] at this
    exact this
  exact ⟨⟨_, he, rfl⟩, h _ he (Heap.get?_push_of_some _ (Heap.get?_push_size _ B.free)) fun b o x => Heap.get?_push_of_some _ (Heap.get?_push_of_some _ x)⟩

/-! ### sources -/
inductive Sk where
  | l (a : Addr) | t (a : Addr) | s (z : Str) (tk : Tok)
def Sk.own (k : Sk) (it : Addr) (i : Nat) (h : Heap) : Prop := match k with
  | .l a => h.IsListIter it a i
  | .t a => h.IsTupleIter it a i
  | .s z tk => h.IsStrIter it (strIterType z) z tk i
def Sk.valOf (k : Sk) (u : Value) : Prop := match k with
  | .l a => u = .ref a
  | .t a => u = .ref a
  | .s z tk => u = .str z tk
def signs (z : Str) : List V := z.cps.toList.map fun c => V.str ⟨#[c]⟩
def Sk.con (k : Sk) (xs : List V) (H : Hp) : Prop := match k with
  | .l a => Rd H a (.lst xs)
  | .t a => Rd H a (.tup xs)
  | .s z _ => xs = signs z
theorem Sk.own_keep {k : Sk} {it : Addr} {i : Nat} {h h' : Heap} (st : k.own it i h) (q : ∀ o, h.get? it = some o → h'.get? it = some o) : k.own it i h' := by
  cases k with
  | l a => exact Heap.IsListIter.at st fun o e => q o e
  | t a => exact Heap.IsTupleIter.at st fun o e => q o e
  | s z tk =>
    obtain ⟨o, e, r⟩ := (show h.IsStrIter it (strIterType z) z tk i from st)
    exact ⟨o, q o e, r⟩
theorem Sk.own_obj {k : Sk} {it : Addr} {i : Nat} {h : Heap} (st : k.own it i h) : ∃ o, h.get? it = some o ∧ ∀ v, o.data ≠ .cell v := by
  cases k with
  | l a =>
    obtain ⟨o, e, _, d⟩ := (show h.IsListIter it a i from st)
    exact ⟨o, e, fun v z => by rw [d] at z; cases z⟩
  | t a =>
    obtain ⟨o, e, _, d⟩ := (show h.IsTupleIter it a i from st)
    exact ⟨o, e, fun v z => by rw [d] at z; cases z⟩
  | s z tk =>
    obtain ⟨o, e, _, d⟩ := (show h.IsStrIter it (strIterType z) z tk i from st)
    exact ⟨o, e, fun v z => by rw [d] at z; cases z⟩
section
variable {X : Cx} {pins : List (Addr × Obj)} {σ : L2.St} {H : Hp} {s : Shared} {it : Addr} {xs : List V}
theorem rd_ne {a : Addr} {u : HO} (r : Rd H a u) : H a ≠ none := by
  rcases r with r | ⟨o, r⟩ <;> rw [r] <;> intro z <;> cases z
theorem Sk.draws {A : Around} (k : Sk) (I : Inv X pins σ H s) (hc : k.con xs H) (hit : H it = none) (hh : A.handled = none) :
    ∃ (fp : List Addr) (P : Nat → Value → Prop) (St : Nat → Heap → Prop), Draws X.prog X.w A it fp xs.length P St ∧ it ∈ fp ∧ (∀ b ∈ fp, b ≠ it → H b ≠ none) ∧ (∀ i, k.own it i s.heap → St i s.heap) ∧ (∀ i h, St i h → k.own it i h) ∧ ∀ i u, P i u → ∃ x, xs[i]? = some x ∧ RelV x u := by
  cases k with
  | l a =>
    have hc : Rd H a (.lst xs) := hc
    obtain ⟨its, rv, p, _⟩ := I.list (.inl hc)
    have ne : a ≠ it := fun z => rd_ne hc (by rw [z]; exact hit)
    have D := Draws.list (prog := X.prog) (w := X.w) (A := A) hh it a ne its.toArray
    rw [List.size_toArray, ← rv.length] at D
    refine ⟨[it, a], _, _, D, by simp, fun b hb hn => ?_, fun i st => ⟨st, p.isList⟩, fun i h st => st.1, fun i u hu => ?_⟩
    · rcases List.mem_cons.mp hb with z | z
      · exact absurd z hn
      · rw [List.mem_singleton.mp z]; exact rd_ne hc
    · have hu : its.toArray[i]? = some u := hu
      have hu' : its[i]? = some u := by simpa using hu
      have hi : i < xs.length := by rw [rv.length]; exact (List.getElem?_eq_some_iff.mp hu').1
      obtain ⟨u2, h1, h2⟩ := rv.get (List.getElem?_eq_getElem hi)
      rw [hu'] at h1
      cases h1
      exact ⟨_, List.getElem?_eq_getElem hi, h2⟩
  | t a =>
    have hc : Rd H a (.tup xs) := hc
    obtain ⟨its, rv, p, _⟩ := I.tuple (.inl hc)
    have ne : a ≠ it := fun z => rd_ne hc (by rw [z]; exact hit)
    have D := Draws.tuple (prog := X.prog) (w := X.w) (A := A) hh it a ne its.toArray
    rw [List.size_toArray, ← rv.length] at D
    refine ⟨[it, a], _, _, D, by simp, fun b hb hn => ?_, fun i st => ⟨st, p⟩, fun i h st => st.1, fun i u hu => ?_⟩
    · rcases List.mem_cons.mp hb with z | z
      · exact absurd z hn
      · rw [List.mem_singleton.mp z]; exact rd_ne hc
    · have hu : its.toArray[i]? = some u := hu
      have hu' : its[i]? = some u := by simpa using hu
      have hi : i < xs.length := by rw [rv.length]; exact (List.getElem?_eq_some_iff.mp hu').1
      obtain ⟨u2, h1, h2⟩ := rv.get (List.getElem?_eq_getElem hi)
      rw [hu'] at h1
      cases h1
      exact ⟨_, List.getElem?_eq_getElem hi, h2⟩
  | s z tk =>
    have hc : xs = signs z := hc
    have D := Draws.text (prog := X.prog) (w := X.w) (A := A) hh it z tk
    have e : z.cps.size = xs.length := by rw [hc]; unfold signs; rw [List.length_map, Array.length_toList]
    rw [e] at D
    refine ⟨[it], _, _, D, by simp, fun b hb hn => absurd (List.mem_singleton.mp hb) hn, fun i st => st, fun i h st => st, fun i u hu => ?_⟩
    obtain ⟨c, t, h1, rfl⟩ := hu
    refine ⟨.str ⟨#[c]⟩, ?_, ⟨t, rfl⟩⟩
    rw [hc]
    unfold signs
    rw [List.getElem?_map, Array.getElem?_toList, h1]
    rfl
/-- iter(v) -/
theorem Sk.begins (k : Sk) {u : Value} (I : Inv X pins σ H s) (hc : k.con xs H) (hu : k.valOf u) :
    ∃ (o : Obj) (Hc : Heap → Prop), Begins u o Hc ∧ Hc s.heap ∧ ∀ (h' : Heap) (i : Addr), h'.get? i = some o → k.own i 0 h' := by
  cases k with
  | l a =>
    have hc : Rd H a (.lst xs) := hc
    obtain ⟨its, rv, p, _⟩ := I.list (.inl hc)
    have hu : u = .ref a := hu
    subst hu
    exact ⟨_, _, begins_list a its.toArray, p.isList, fun h' i e => ⟨_, e, rfl, rfl⟩⟩
  | t a =>
    have hc : Rd H a (.tup xs) := hc
    obtain ⟨its, rv, p, _⟩ := I.tuple (.inl hc)
    have hu : u = .ref a := hu
    subst hu
    exact ⟨_, _, begins_tuple a its.toArray, p, fun h' i e => ⟨_, e, rfl, rfl⟩⟩
  | s z tk =>
    have hu : u = .str z tk := hu
    subst hu
    exact ⟨_, _, begins_text z tk, True.intro, fun h' i e => ⟨_, e, rfl, rfl⟩⟩
end

/-! ### enumerate -/
def ItEn (xs : List V) (C : Hp → Prop) : It :=
  ⟨fun i H => i < xs.length ∧ C H, fun i H v H' => ∃ T x, v = .ref T ∧ H T = none ∧ H' = upd H T (.tup [.int (i : Nat), x]) ∧ xs[i]? = some x, fun i H => i = xs.length ∧ C H⟩
theorem turn_enG {P : Program} {w : World} {K : PySem.W.Frag} {elts : List Expr} {kk : Nat} {tpos : Pos} (k : Sk) (xs : List V) (e it : Addr) (hei : e ≠ it) :
    Turn P w K (.Tuple elts kk tpos) (ItEn xs (k.con xs)) [e, it] e (fun i h => (∃ old, IsEnum h e it (0 + (i : Int)) old) ∧ k.own it i h) where
  mem := by simp
  obj := fun i h st b hb => by
    obtain ⟨⟨old, he⟩, ho⟩ := st
    rcases List.mem_cons.mp hb with z | z
    · rw [z]; exact ⟨_, he, fun v q => nomatch q⟩
    · rw [List.mem_singleton.mp z]; exact Sk.own_obj ho
  keep := fun i h h' st q => by
    obtain ⟨⟨old, he⟩, ho⟩ := st
    exact ⟨⟨old, q e (by simp) _ he⟩, Sk.own_keep ho fun o x => q it (by simp) o x⟩
  item := by
    intro X hP hw hK hc i pins s σ H E I hf st hg
    subst hP hw hK
    obtain ⟨⟨old, he⟩, ho⟩ := st
    obtain ⟨hi, hcon⟩ := hg
    obtain ⟨fp, P, St, D, hm, hfp, h1, h2, hP⟩ := k.draws (A := X.A.in1) I hcon (hf it (by simp)).1 (I.ok.hd hc)
    have hef : e ∉ fp := fun z => (hfp e z hei) (hf e (by simp)).1
    refine (WalksT.enumFrom 0 D e hei hef hm).item i s _ _ hi ⟨⟨old, he⟩, h1 i ho⟩ fun T vals h' tk hPt hT htup hmid hk => ?_
    obtain ⟨tt, u, hpu, hv⟩ := hPt
    subst hv
    obtain ⟨x, hx, rx⟩ := hP i u hpu
    refine ⟨.ref T, rfl, (WalksT.enumFrom 0 D e hei hef hm).go elts kk tpos i T _ _ _ hmid fun h'' st'' hk'' => ?_⟩
    have hTw : T ∉ [e, it] := (WalksT.enumFrom 0 D e hei hef hm).apart i T h' hmid
    have htup2 : h''.IsTuple T #[.int (0 + (i : Int)) tt, u] := htup.at fun o q => hk'' T o hTw q
    have new : ObjOk X.prog X.w (upd H T (.tup [.int (i : Nat), x])) h'' T (.tup [.int (i : Nat), x]) :=
      ⟨by show 2 ≤ sizeLine; decide, [.int (0 + (i : Int)) tt, u], .cons ⟨tt, by rw [Int.zero_add]⟩ (.cons rx .nil), htup2⟩
    have I1 := I.turnedNew (t' := tk) (h' := h'') (ch := [e, it]) (fun c o hb q => hk'' c o hb (hk c o hb q)) hf hT new
    refine ⟨.ref T, _, I1, rfl, ⟨T, x, rfl, I.hok.fresh hT, rfl, hx⟩, ⟨st''.1, h2 _ _ st''.2⟩, fun b hb => ?_⟩
    have hlt : b < s.heap.objs.size := by
      rcases List.mem_cons.mp hb with z | z
      · rw [z]; exact Heap.lt_size he
      · rw [List.mem_singleton.mp z]
        obtain ⟨o, q, _⟩ := Sk.own_obj ho
        exact Heap.lt_size q
    rw [upd_ne (Nat.ne_of_lt (Nat.lt_of_lt_of_le hlt hT))]
    exact (hf b hb).1
  done := by
    intro X hP hw hK hc i pins s σ H E I hf st hg
    subst hP hw hK
    obtain ⟨⟨old, he⟩, ho⟩ := st
    obtain ⟨hi, hcon⟩ := hg
    obtain ⟨fp, P, St, D, hm, hfp, h1, h2, hP⟩ := k.draws (A := X.A.in1) I hcon (hf it (by simp)).1 (I.ok.hd hc)
    have hef : e ∉ fp := fun z => (hfp e z hei) (hf e (by simp)).1
    subst hi
    exact (WalksT.enumFrom 0 D e hei hef hm).done s _ _ ⟨⟨old, he⟩, h1 _ ho⟩ fun h' tk hk => ⟨rfl, I.turnedL (t' := tk) (ch := [e, it]) (fun c o hb q => hk c o hb q) hf⟩
  self := fun A i s Q E st h => by
    obtain ⟨⟨old, he⟩, _⟩ := st
    exact wpAny_pyIter_enum he h
/-- a source by its value -/
inductive SkC (H : Hp) : V → List V → (Hp → Prop) → Prop
  | l {a : Addr} {xs : List V} : Rd H a (.lst xs) → SkC H (.ref a) xs (fun H => Rd H a (.lst xs))
  | t {a : Addr} {xs : List V} : Rd H a (.tup xs) → SkC H (.ref a) xs (fun H => Rd H a (.tup xs))
  | s (z : Str) : SkC H (.str z) (signs z) (fun _ => signs z = signs z)
theorem SkC.sk {H : Hp} {v : V} {xs : List V} {C : Hp → Prop} {u : Value} (h : SkC H v xs C) (r : RelV v u) : ∃ k : Sk, C = k.con xs ∧ k.con xs H ∧ k.valOf u := by
  cases h with
  | @l a xs h => exact ⟨.l a, rfl, h, r⟩
  | @t a xs h => exact ⟨.t a, rfl, h, r⟩
  | s z =>
    obtain ⟨tk, e⟩ := r
    exact ⟨.s z tk, rfl, rfl, e⟩
def iEnG (ta : TA) : TI := fun σ H R => ta σ H fun vs H1 => ∃ v xs C, vs = [v] ∧ SkC H1 v xs C ∧ R (ItEn xs C) H1
theorem pi_enG {X : Cx} {e : Expr} {ta : TA} {p pos tpos : Pos} {elts : List Expr} {kk : Nat} (hg : Gl X "enumerate") (hm : X.mg "enumerate" = none) (ha : PA X [e] ta) (hs : starEach [e] X.env = [(false, eval e X.env)] := by rfl) :
    PI X (.Tuple elts kk tpos) (.Call (.Name "enumerate" p) [e] [] pos) (iEnG ta) := by
  refine ⟨fun pins s σ H R I h => ?_⟩
  refine Call_ (ld_blt I hg hm boot_enumerate (PyProof.Rows.callWith_type1 (thn (ha.run pos pins s σ H _ I h) fun us s1 ⟨vs, H1, I1, r1, q1⟩ => ?_) hs rfl))
  obtain ⟨v, xs, C, ex, hk, q⟩ := q1
  subst ex
  cases r1 with
  | cons r rr =>
    cases rr
    obtain ⟨k, rfl, hcon, hu⟩ := hk.sk r
    obtain ⟨o, Hc, B, hB, hown⟩ := k.begins I1 hcon hu
    refine enum1_begins B hB fun h' he hit hk => wpAny_pyIter_enum he ?_
    have I2 : Inv X pins σ H1 { s1 with heap := h' } := I1.kept (t' := s1.toks) hk
    refine ⟨s1.heap.objs.size + 1, [s1.heap.objs.size + 1, s1.heap.objs.size], _, _, H1, rfl, I2, turn_enG k xs (s1.heap.objs.size + 1) s1.heap.objs.size (Nat.succ_ne_self _), ⟨⟨.none, he⟩, hown _ _ hit⟩, fun b hb => ?_, q⟩
    have hle : s1.heap.objs.size ≤ b := by
      rcases List.mem_cons.mp hb with z | z
      · rw [z]; exact Nat.le_succ _
      · rw [List.mem_singleton.mp z]; exact Nat.le_refl _
    exact I1.fpOk hle (I1.hok.fresh hle)

/-! ### zip of two -/
def ItZn (xs ys : List V) (C1 C2 : Hp → Prop) : It :=
  ⟨fun i H => i < min xs.length ys.length ∧ C1 H ∧ C2 H, fun i H v H' => ∃ T x y, v = .ref T ∧ H T = none ∧ H' = upd H T (.tup [x, y]) ∧ xs[i]? = some x ∧ ys[i]? = some y, fun i H => i = min xs.length ys.length ∧ C1 H ∧ C2 H⟩
theorem turn_zpG {P : Program} {w : World} {K : PySem.W.Frag} {elts : List Expr} {kk : Nat} {tpos : Pos} (k1 k2 : Sk) (xs ys : List V) (z TI TO i1 i2 : Addr) (hd : z ≠ i1 ∧ z ≠ i2 ∧ TI ≠ z ∧ TI ≠ TO ∧ TI ≠ i1 ∧ TI ≠ i2 ∧ TO ≠ z ∧ TO ≠ i1 ∧ TO ≠ i2 ∧ i1 ≠ i2) :
    Turn P w K (.Tuple elts kk tpos) (ItZn xs ys (k1.con xs) (k2.con ys)) [z, TI, TO, i1, i2] z
      (fun i h => IsZip h z TI TO .none ∧ IsTupOf2 h TI (.ref i1) (.ref i2) ∧ (∃ a1 a2, IsTupOf2 h TO a1 a2) ∧ k1.own i1 i h ∧ k2.own i2 i h) where
  mem := by simp
  obj := fun i h st b hb => by
    obtain ⟨hz, hTI, ⟨a1, a2, hTO⟩, h1, h2⟩ := st
    have e' : b = z ∨ b = TI ∨ b = TO ∨ b = i1 ∨ b = i2 := by simpa using hb
    rcases e' with q | q | q | q | q
    · rw [q]; exact ⟨_, hz, fun v q => nomatch q⟩
    · rw [q]; exact ⟨_, hTI, fun v q => nomatch q⟩
    · rw [q]; exact ⟨_, hTO, fun v q => nomatch q⟩
    · rw [q]; exact Sk.own_obj h1
    · rw [q]; exact Sk.own_obj h2
  keep := fun i h h' st q => by
    obtain ⟨hz, hTI, ⟨a1, a2, hTO⟩, h1, h2⟩ := st
    exact ⟨q z (by simp) _ hz, q TI (by simp) _ hTI, ⟨a1, a2, q TO (by simp) _ hTO⟩, Sk.own_keep h1 fun o e => q i1 (by simp) o e, Sk.own_keep h2 fun o e => q i2 (by simp) o e⟩
  item := by
    intro X hP hw hK hc i pins s σ H E I hf st hg
    subst hP hw hK
    obtain ⟨hz, hTI, hTO, ho1, ho2⟩ := st
    obtain ⟨hi, hc1, hc2⟩ := hg
    obtain ⟨dz1, dz2, d1, d2, d3, d4, d5, d6, d7, d8⟩ := hd
    obtain ⟨fp1, P1, St1, D1, hm1, hfp1, a1, b1, hP1⟩ := k1.draws (A := X.A.in1) I hc1 (hf i1 (by simp)).1 (I.ok.hd hc)
    obtain ⟨fp2, P2, St2, D2, hm2, hfp2, a2, b2, hP2⟩ := k2.draws (A := X.A.in1) I hc2 (hf i2 (by simp)).1 (I.ok.hd hc)
    have nf : ∀ {fp : List Addr} {j : Addr}, (∀ b ∈ fp, b ≠ j → H b ≠ none) → ∀ c, c ∈ [z, TI, TO, i1, i2] → c ≠ j → c ∉ fp := fun {fp j} hfp c hcm hcj hz => hfp c hz hcj (hf c hcm).1
    have S : ZipSep2 z TI TO i1 i2 fp1 fp2 := { TIz := d1, TOz := d5, TITO := d2, TIi1 := d3, mem1 := hm1, zf1 := nf hfp1 z (by simp) dz1, Tf1 := nf hfp1 TO (by simp) d6, TIi2 := d4, mem2 := hm2, zf2 := nf hfp2 z (by simp) dz2, Tf2 := nf hfp2 TO (by simp) d7, sep1_2 := nf hfp2 i1 (by simp) d8, sep2_1 := nf hfp1 i2 (by simp) (Ne.symm d8) }
    have W := WalksT.zipD2 S D1 D2
    refine W.item i s _ _ hi ⟨hz, hTI, hTO, a1 i ho1, a2 i ho2⟩ fun T vals h' tk hPt hT htup hmid hk => ?_
    obtain ⟨u1, u2, hp1, hp2, hv⟩ := hPt
    subst hv
    obtain ⟨x, hx, rx⟩ := hP1 i u1 hp1
    obtain ⟨y, hy, ry⟩ := hP2 i u2 hp2
    refine ⟨.ref T, rfl, W.go elts kk tpos i T _ _ _ hmid fun h'' st'' hk'' => ?_⟩
    have hTw : T ∉ [z, TO, i1, i2] := W.apart i T h' hmid
    have htup2 : h''.IsTuple T #[u1, u2] := htup.at fun o q => hk'' T o hTw q
    have new : ObjOk X.prog X.w (upd H T (.tup [x, y])) h'' T (.tup [x, y]) := ⟨by show 2 ≤ sizeLine; decide, [u1, u2], .cons rx (.cons ry .nil), htup2⟩
    have sb : ∀ c, c ∉ [z, TI, TO, i1, i2] → c ∉ [z, TO, i1, i2] := fun c hn hm => hn (by
      have e' : c = z ∨ c = TO ∨ c = i1 ∨ c = i2 := by simpa using hm
      rcases e' with q | q | q | q <;> simp [q])
    have I1 := I.turnedNew (t' := tk) (h' := h'') (ch := [z, TI, TO, i1, i2]) (fun c o hb q => hk'' c o (sb c hb) (hk c o (sb c hb) q)) hf hT new
    refine ⟨.ref T, _, I1, rfl, ⟨T, x, y, rfl, I.hok.fresh hT, rfl, hx, hy⟩, ⟨st''.1, st''.2.1, st''.2.2.1, b1 _ _ st''.2.2.2.1, b2 _ _ st''.2.2.2.2⟩, fun b hb => ?_⟩
    have hlt : b < s.heap.objs.size := by
      have e' : b = z ∨ b = TI ∨ b = TO ∨ b = i1 ∨ b = i2 := by simpa using hb
      rcases e' with q | q | q | q | q
      · rw [q]; exact Heap.lt_size hz
      · rw [q]; exact Heap.lt_size hTI
      · rw [q]; obtain ⟨_, _, hq⟩ := hTO; exact Heap.lt_size hq
      · rw [q]; obtain ⟨o, hq, _⟩ := Sk.own_obj ho1; exact Heap.lt_size hq
      · rw [q]; obtain ⟨o, hq, _⟩ := Sk.own_obj ho2; exact Heap.lt_size hq
    rw [upd_ne (Nat.ne_of_lt (Nat.lt_of_lt_of_le hlt hT))]
    exact (hf b hb).1
  done := by
    intro X hP hw hK hc i pins s σ H E I hf st hg
    subst hP hw hK
    obtain ⟨hz, hTI, hTO, ho1, ho2⟩ := st
    obtain ⟨hi, hc1, hc2⟩ := hg
    obtain ⟨dz1, dz2, d1, d2, d3, d4, d5, d6, d7, d8⟩ := hd
    obtain ⟨fp1, P1, St1, D1, hm1, hfp1, a1, b1, hP1⟩ := k1.draws (A := X.A.in1) I hc1 (hf i1 (by simp)).1 (I.ok.hd hc)
    obtain ⟨fp2, P2, St2, D2, hm2, hfp2, a2, b2, hP2⟩ := k2.draws (A := X.A.in1) I hc2 (hf i2 (by simp)).1 (I.ok.hd hc)
    have nf : ∀ {fp : List Addr} {j : Addr}, (∀ b ∈ fp, b ≠ j → H b ≠ none) → ∀ c, c ∈ [z, TI, TO, i1, i2] → c ≠ j → c ∉ fp := fun {fp j} hfp c hcm hcj hz => hfp c hz hcj (hf c hcm).1
    have S : ZipSep2 z TI TO i1 i2 fp1 fp2 := { TIz := d1, TOz := d5, TITO := d2, TIi1 := d3, mem1 := hm1, zf1 := nf hfp1 z (by simp) dz1, Tf1 := nf hfp1 TO (by simp) d6, TIi2 := d4, mem2 := hm2, zf2 := nf hfp2 z (by simp) dz2, Tf2 := nf hfp2 TO (by simp) d7, sep1_2 := nf hfp2 i1 (by simp) d8, sep2_1 := nf hfp1 i2 (by simp) (Ne.symm d8) }
    have W := WalksT.zipD2 S D1 D2
    have sb : ∀ c, c ∉ [z, TI, TO, i1, i2] → c ∉ [z, TO, i1, i2] := fun c hn hm => hn (by
      have e' : c = z ∨ c = TO ∨ c = i1 ∨ c = i2 := by simpa using hm
      rcases e' with q | q | q | q <;> simp [q])
    subst hi
    exact W.done s _ _ ⟨hz, hTI, hTO, a1 _ ho1, a2 _ ho2⟩ fun h' tk hk => ⟨rfl, I.turnedL (t' := tk) (ch := [z, TI, TO, i1, i2]) (fun c o hb q => hk c o (sb c hb) q) hf⟩
  self := fun A i s Q E st h => wpAny_pyIter_zip st.1 h
def iZpG (ta : TA) : TI := fun σ H R => ta σ H fun vs H1 => ∃ v1 v2 xs ys C1 C2, vs = [v1, v2] ∧ SkC H1 v1 xs C1 ∧ SkC H1 v2 ys C2 ∧ R (ItZn xs ys C1 C2) H1
theorem pi_zpG {X : Cx} {e e2 : Expr} {ta : TA} {p pos tpos : Pos} {elts : List Expr} {kk : Nat} (hg : Gl X "zip") (hm : X.mg "zip" = none) (ha : PA X [e, e2] ta)
    (hs : starEach [e, e2] X.env = (false, eval e X.env) :: starEach [e2] X.env := by rfl) (hpl : (backTo pos (starEach [e2] X.env)).any (·.1) = false := by rfl) :
    PI X (.Tuple elts kk tpos) (.Call (.Name "zip" p) [e, e2] [] pos) (iZpG ta) := by
  refine ⟨fun pins s σ H R I h => ?_⟩
  refine Call_ (ld_blt I hg hm PyProof.Rows.boot_zip (PyProof.Rows.callWith_type1 (thn (ha.run pos pins s σ H _ I h) fun us s1 ⟨vs, H1, I1, r1, q1⟩ => ?_) hs hpl))
  obtain ⟨v1, v2, xs, ys, C1, C2, ex, hk1, hk2, q⟩ := q1
  subst ex
  cases r1 with
  | cons r rr =>
    cases rr with
    | cons r' rr =>
      cases rr
      obtain ⟨k1, rfl, hcon1, hu1⟩ := hk1.sk r
      obtain ⟨k2, rfl, hcon2, hu2⟩ := hk2.sk r'
      obtain ⟨o1, Hc1, B1, hB1, hown1⟩ := k1.begins I1 hcon1 hu1
      obtain ⟨o2, Hc2, B2, hB2, hown2⟩ := k2.begins I1 hcon2 hu2
      refine zip_begins2 B1 B2 hB1 hB2 fun h' hz hTI hTO h1 h2 hsz hk => wpAny_pyIter_zip hz ?_
      have I2 : Inv X pins σ H1 { s1 with heap := h' } := I1.kept (t' := s1.toks) hk
      have N5 : ∀ n : Nat, n + 4 ≠ n ∧ n + 4 ≠ n + 1 ∧ n + 2 ≠ n + 4 ∧ n + 2 ≠ n + 3 ∧ n + 2 ≠ n ∧ n + 2 ≠ n + 1 ∧ n + 3 ≠ n + 4 ∧ n + 3 ≠ n ∧ n + 3 ≠ n + 1 ∧ n ≠ n + 1 := fun n => by omega
      refine ⟨s1.heap.objs.size + 4, [s1.heap.objs.size + 4, s1.heap.objs.size + 2, s1.heap.objs.size + 3, s1.heap.objs.size, s1.heap.objs.size + 1], _, _, H1, rfl, I2, turn_zpG k1 k2 xs ys (s1.heap.objs.size + 4) (s1.heap.objs.size + 2) (s1.heap.objs.size + 3) s1.heap.objs.size (s1.heap.objs.size + 1) (N5 s1.heap.objs.size), ⟨hz, hTI, ⟨_, _, hTO⟩, hown1 _ _ h1, hown2 _ _ h2⟩, fun b hb => ?_, q⟩
      have hle : s1.heap.objs.size ≤ b := by
        have e' : b = s1.heap.objs.size + 4 ∨ b = s1.heap.objs.size + 2 ∨ b = s1.heap.objs.size + 3 ∨ b = s1.heap.objs.size ∨ b = s1.heap.objs.size + 1 := by simpa using hb
        rcases e' with z | z | z | z | z <;> rw [z]
        · exact Nat.le_add_right _ _
        · exact Nat.le_add_right _ _
        · exact Nat.le_add_right _ _
        · exact Nat.le_refl _
        · exact Nat.le_add_right _ _
      exact I1.fpOk hle (I1.hok.fresh hle)
/-! ### as data -/
section
variable {K : PySem.W.Frag} {Φ : MP} {ρ : Rho} {ta : TA}
/-- what may be enumerated -/
inductive SrcD : Dt → List Dt → Prop
  | l (ds : List Dt) : SrcD (.lst ds) ds
  | t (b : Bool) (ds : List Dt) : SrcD (.tp b ds) ds
  | s (z : Str) : SrcD (.str z) (z.cps.toList.map fun c => .str (sg c))
theorem SrcD.sk {x : Dt} {ds : List Dt} {Hd H : Hp} {v : V} (h : SrcD x ds) (i : Im K Hd v x) (e : Ex Hd H) : ∃ xs C, SkC H v xs C ∧ ImA K Hd xs ds ∧ ∀ H2, Ex Hd H2 → C H2 := by
  cases h with
  | l ds =>
    obtain ⟨a, xs, rfl, ha, ia⟩ := i.lst_inv
    exact ⟨xs, _, .l (.inl (e _ _ ha)), ia, fun H2 e2 => .inl (e2 _ _ ha)⟩
  | t b ds =>
    obtain ⟨a, xs, rfl, ha, ia⟩ := i.tp_inv
    exact ⟨xs, _, .t (ex_rd e ha), ia, fun H2 e2 => ex_rd e2 ha⟩
  | s z =>
    rw [i.str_inv]
    refine ⟨signs z, _, .s z, ?_, fun H2 e2 => rfl⟩
    unfold signs
    induction z.cps.toList with
    | nil => exact .nil
    | cons c r ih => exact .cons (.str _) ih
def pairD (p : Dt × Dt) : Dt := .tup [p.1, p.2]
def numD (p : Dt × Nat) : Dt := .tup [.int (p.2 : Int), p.1]
theorem it_en {x : Dt} {ds : List Dt} (h : EvA K Φ ta ρ [x]) (hs : SrcD x ds) : ItD K Φ (iEnG ta) ρ (ds.zipIdx.map numD) := fun σ Hd H e en p R q =>
  h σ Hd H e en p _ fun vs Hd1 H1 s1 i1 => by
    obtain ⟨v, us, rfl, iv, it⟩ := i1.cons_inv
    rw [it.nil_inv]
    obtain ⟨xs, C, hk, ia, hC⟩ := hs.sk iv s1.sub
    refine ⟨v, xs, C, rfl, hk, q _ Hd1 H1 s1 ⟨fun i H2 e2 hi => ?_, fun H2 e2 => ?_, fun i d H2 y H3 e2 hd hy Hd2 e3 e4 => ?_⟩⟩
    · rw [List.length_map, List.length_zipIdx] at hi
      exact ⟨by rw [ia.length]; exact hi, hC _ e2⟩
    · rw [List.length_map, List.length_zipIdx]
      exact ⟨ia.length.symm, hC _ e2⟩
    · obtain ⟨T, w, rfl, hT, rfl, hw⟩ := hy
      obtain ⟨d', hd', iw⟩ := ia.get' hw
      rw [List.getElem?_map, List.getElem?_zipIdx, hd'] at hd
      have hd2 : numD (d', 0 + i) = d := Option.some.inj hd
      rw [Nat.zero_add] at hd2
      subst hd2
      have s := Stp.new (M := NoM) (o := .tup [.int (i : Nat), w]) e4 hT
      exact ⟨_, s, .tup upd_same (.cons (.int _) (.cons (iw.mono (e3.trans s.ud)) .nil))⟩
theorem it_zp {x y : Dt} {ds es : List Dt} (h : EvA K Φ ta ρ [x, y]) (hs : SrcD x ds) (hs2 : SrcD y es) : ItD K Φ (iZpG ta) ρ ((ds.zip es).map pairD) := fun σ Hd H e en p R q =>
  h σ Hd H e en p _ fun vs Hd1 H1 s1 i1 => by
    obtain ⟨v, us, rfl, iv, it⟩ := i1.cons_inv
    obtain ⟨v2, us2, rfl, iv2, it2⟩ := it.cons_inv
    rw [it2.nil_inv]
    obtain ⟨xs, C, hk, ia, hC⟩ := hs.sk iv s1.sub
    obtain ⟨ys, C2, hk2, ia2, hC2⟩ := hs2.sk iv2 s1.sub
    refine ⟨v, v2, xs, ys, C, C2, rfl, hk, hk2, q _ Hd1 H1 s1 ⟨fun i H2 e2 hi => ?_, fun H2 e2 => ?_, fun i d H2 y H3 e2 hd hy Hd2 e3 e4 => ?_⟩⟩
    · rw [List.length_map, List.length_zip] at hi
      exact ⟨by rw [ia.length, ia2.length]; exact hi, hC _ e2, hC2 _ e2⟩
    · rw [List.length_map, List.length_zip]
      exact ⟨by rw [ia.length, ia2.length], hC _ e2, hC2 _ e2⟩
    · obtain ⟨T, w, w2, rfl, hT, rfl, hw, hw2⟩ := hy
      obtain ⟨d', hd', iw⟩ := ia.get' hw
      obtain ⟨d2, hd2, iw2⟩ := ia2.get' hw2
      rw [List.getElem?_map, List.getElem?_zip_eq_some (z := (d', d2)) |>.mpr ⟨hd', hd2⟩] at hd
      have hd3 : pairD (d', d2) = d := Option.some.inj hd
      subst hd3
      have s := Stp.new (M := NoM) (o := .tup [w, w2]) e4 hT
      exact ⟨_, s, .tup upd_same (.cons (iw.mono (e3.trans s.ud)) (.cons (iw2.mono (e3.trans s.ud)) .nil))⟩
end
end SP
/-! P2 -/
namespace SP
open PySem PySem.Spec PyProof.Rows L2

/-! ### tuples of which the object is known -/
abbrev tupO (its : List Value) : Obj := { cls := .type "tuple", data := .seq its.toArray }
def tTupX (t : TA) : TE := fun σ H Q => t σ H fun xs H1 => xs.length ≤ sizeLine ∧ ∀ p o, H1 p = none → o.dict = none → Q (.ref p) (upd H1 p (.frz o (.tup xs)))
section
variable {X : Cx} {pos : Pos}
theorem laid_tux {pins : List (Addr × Obj)} {σ : L2.St} {H : Hp} {s : Shared} {xs : List V} {us : List Value} {Q : VK} {tk : Nat} (I : Inv X pins σ H s) (r : Vals xs us) (hz : xs.length ≤ sizeLine) (h : ∀ p o, H p = none → o.dict = none → Q (.ref p) (upd H p (.frz o (.tup xs)))) :
    EP X pins σ Q (.ref s.heap.objs.size) { s with heap := s.heap.push (tupO us), toks := tk } := by
  have hf : H s.heap.objs.size = none := I.hok.fresh (Nat.le_refl _)
  refine ⟨.ref s.heap.objs.size, upd H s.heap.objs.size (.frz (tupO us) (.tup xs)), I.laid (t' := tk) (fun b u e => Heap.get?_push_of_some _ e) (Nat.le_refl _) ?_, rfl, h _ _ hf rfl⟩
  exact ⟨Heap.get?_push_size _ rfl, hz, us, r, ⟨_, Heap.get?_push_size _ rfl, rfl, _, rfl⟩⟩
theorem pe_tupX {x1} {es : List Expr} {t : TA} (h : PA X es t) : PE X (.Tuple es x1 pos) (tTupX t) := by
  refine ⟨fun pins s σ H Q I hq => ?_⟩
  refine wpAny_Tuple_spliced (thn (h.run pos pins s σ H _ I hq) fun us s1 ⟨xs, H1, I1, r, z, q⟩ => ⟨by rw [← r.length]; exact z, ?_⟩)
  exact laid_tux (tk := s1.toks) I1 r z q
/-- t[lo:hi] of an exact tuple -/
def rSlX : V → Option Int → Option Int → Hp → VK → Prop := fun x lo hi H Q => ∃ a xs o, x = .ref a ∧ H a = some (.frz o (.tup xs)) ∧
  (HT.sIx xs.length 0 lo = 0 ∧ HT.sIx xs.length xs.length hi = xs.length → Q (.ref a) H) ∧ (¬ (HT.sIx xs.length 0 lo = 0 ∧ HT.sIx xs.length xs.length hi = xs.length) → ∀ p o', H p = none → o'.dict = none → Q (.ref p) (upd H p (.frz o' (.tup (cutV xs lo hi)))))
theorem sl_tupX : L2.SlR X rSlX := by
  intro pins s σ H x v vl vu lo hi sl Q I rx hs pl pu h
  obtain ⟨a, xs, o, rfl, hx, q1, q2⟩ := h
  cases rx
  obtain ⟨its, r, ht, hz⟩ := I.tuple (.inl (.inr ⟨o, hx⟩))
  have hlen : its.toArray.size = xs.length := by rw [List.size_toArray]; exact r.length.symm
  refine ⟨"tuple", _, PyProof.Rows.slot_tuple_getitem.lookup, ht.typeIs, ?_⟩
  by_cases hw : HT.sIx xs.length 0 lo = 0 ∧ HT.sIx xs.length xs.length hi = xs.length
  · exact getItem_tuple_whole ht hs pl pu (by rw [hlen]; exact hw) ⟨.ref a, H, I, rfl, q1 hw⟩
  · refine HT.getItem_tuple_cut ht hs pl pu (by rw [hlen]; exact hw) ?_ (by rw [hlen]; exact hz)
    rw [hlen]
    exact laid_tux (tk := s.toks) I ((r.drop (HT.sIx xs.length 0 lo)).take (HT.sIx xs.length xs.length hi - HT.sIx xs.length 0 lo)) (Nat.le_trans (cutV_length xs lo hi) hz) (q2 hw)
/-- tuple(list) -/
theorem call_tupleX : CallR X (.type "tuple") (fun xs H Q => ∃ p ys, xs = [.ref p] ∧ SqL X.K H p ys ∧ ∀ l o, H l = none → o.dict = none → Q (.ref l) (upd H l (.frz o (.tup ys)))) := by
  intro pins s σ H xs us Q I r h
  obtain ⟨p, ys, rfl, hq, q⟩ := h
  obtain ⟨u, rfl, rx⟩ := vals1 r
  cases rx
  obtain ⟨its, r', pl, hz⟩ := I.list hq
  have hlen := r'.length
  refine call_tuple_list pl.isList (fun h' kp => ?_) (by simp only [List.size_toArray] <;> omega)
  have I1 : Inv X pins σ H { s with heap := h' } := I.kept (t' := s.toks) kp
  exact laid_tux (tk := s.toks) I1 r' hz q
/-- t.index(x) of an exact tuple of texts -/
def tTIx (to te : TE) : TE := fun σ H Q => to σ H fun v H1 => ∃ a o, ∃ ys : List Str, v = .ref a ∧ H1 a = some (.frz o (.tup (ys.map V.str))) ∧ o.dict = none ∧ te σ H1 fun u H2 => ∃ k, u = .str k ∧ H2 a = some (.frz o (.tup (ys.map V.str))) ∧ k ∈ ys ∧ Q (.int (ys.idxOf k : Nat)) H2
theorem pe_tIndex {o e : Expr} {to te : TE} {apos cpos : Pos} (ho : PE X o to) (he : PE X e te)
    (hbase : attributeBase o "index" X.env (eval o X.env) = eval o X.env := by rfl)
    (hfew : ((backTo cpos (starEach [e] X.env)).all (fun x => !x.1) && (backToKw cpos (keywordEach [] X.env)).all (fun x => x.1.isSome)
      && decide (([e] : List Expr).length + ([] : List Keyword).length + (if ([] : List Keyword).isEmpty then 0 else 1) < 30)) = true := by rfl)
    (hline : (apos.endLine == cpos.line) = true := by rfl) (hs : starEach [e] X.env = (false, eval e X.env) :: starEach [] X.env := by rfl) :
    PE X (.Call (.Attribute o "index" apos) [e] [] cpos) (tTIx to te) := by
  refine ⟨fun pins s σ H Q I h => ?_⟩
  refine wpAny_Call_method_late hbase hfew hline rfl (thn (ho.run pins s σ H _ I h) fun v s1 ⟨x, H1, I1, r1, a, ob, ys, ex, ha, hd, q1⟩ => ?_)
  subst ex
  cases r1
  have get1 : ∀ {H' : Hp} {s' : Shared}, Inv X pins σ H' s' → H' a = some (.frz ob (.tup (ys.map V.str))) → ∃ its : List Value, s'.heap.get? a = some ob ∧ Vals (ys.map V.str) its ∧ IsTup s'.heap a its.toArray := fun {H' s'} I' ha' => by
    obtain ⟨h1, _, its, r, ht⟩ := (show ObjOk X.prog X.w H' s'.heap a (.frz ob (.tup (ys.map V.str))) from I'.hok a _ ha')
    exact ⟨its, h1, r, ht⟩
  obtain ⟨its1, g1, _, ht1⟩ := get1 I1 ha
  refine ⟨"tuple", "tuple.index", PySem.F.plainAttrs_tuple, PySem.F.slot_tuple_index, PySem.F.type_tuple_index, ht1.typeIs, fun b hb => by cases hb; exact ⟨ob, g1, hd⟩, ?_⟩
  have hA := (pa_cons he pa_nil hs).run cpos pins s1 σ H1 (fun vs H2 => match vs with | [u] => ∃ k, u = V.str k ∧ H2 a = some (.frz ob (.tup (ys.map V.str))) ∧ k ∈ ys ∧ Q (.int (ys.idxOf k : Nat)) H2 | _ => False) I1 q1
  rw [hs] at hA ⊢
  refine Calls.callWith_builtin (by show (false || (backTo cpos (starEach [] X.env)).any (·.1)) = false; rfl) (Calls.evalArgs_plain ?_)
  refine thn hA fun us s2 ⟨vs, H2, I2, r2, q2⟩ => ?_
  obtain ⟨u, rfl⟩ : ∃ u, vs = [u] := by
    match vs, q2 with
    | [u], _ => exact ⟨u, rfl⟩
    | [], q => exact q.elim
    | _ :: _ :: _, q => exact q.elim
  obtain ⟨k, eu, ha2, hk, q2⟩ := q2
  subst eu
  obtain ⟨w, rfl, rr⟩ := vals1 r2
  obtain ⟨tk, rfl⟩ := rr
  obtain ⟨its2, g2, rv2, ht2⟩ := get1 I2 ha2
  refine PySem.SeqAt.tuple_index_strs (ys := ys) (vs := its2) ?_ (strsAre_of rv2) hk ?_
  · obtain ⟨o', h1, h2, n, h3⟩ := ht2
    rw [g2] at h1
    cases h1
    exact ⟨ob, g2, h2, n, h3⟩
  · exact ⟨.int (ys.idxOf k : Nat), H2, I2.tok _, ⟨_, rfl⟩, q2⟩
end
/-! ### dict(t) of an exact tuple of pairs -/
section
variable {prog : Program} {w : World} {A : Around} {E : Value → Shared → Prop}
theorem tup_fill {R : Result → Shared → Prop} {D J t : Addr} {its : Array Value} {res : Value} (hA : A.handled = none) (n1 : t ≠ J) (n2 : D ≠ J) (n3 : D ≠ t) :
    ∀ (more : List (Key × Value)) (n : Nat) (done : List (Key × Value)) (ix : Int) (k : Tok) (s : Shared), its.size = n + more.length → done.length + more.length ≤ sizeLine →
      (∀ (j : Nat) (p : Key × Value), more[j]? = some p → ∃ (c : Addr) (x : Value), its[n + j]? = some (.ref c) ∧ c ≠ D ∧ c ≠ J ∧ IsTup s.heap c #[x, p.2] ∧ keyIs p.1 x = true) →
      s.heap.IsTupleIter J t n → s.heap.IsTuple t its → s.heap.DictOf (mixKind prog w) D done →
      (∀ g tk, g.DictOf (mixKind prog w) D (merged done more) → (∀ c o, c ≠ D → c ≠ J → s.heap.get? c = some o → g.get? c = some o) → R (.ok (.ret res)) { s with heap := g, toks := tk }) →
      codeAny (model prog w) A (.builtin "dict.update.loop" ⟨[.ref D, .ref J, .int ix k, res], []⟩) R s
  | [], n, done, ix, k, s, e1, e2, hp, hJ, ht, hD, hR => by
    refine codeAny_builtin ud_entry ?_
    rw [Around.under_plainId ud_plain _]
    show wpAny _ A.in1 (pyNext (.ref J) >>= _) _ _ s
    refine wpAny_bind (wpAny_pyNext_tuple_end (A := A.in1) hA hJ ht (Array.getElem?_eq_none (Nat.le_of_eq e1)) fun g hg => ?_)
    show wpAny _ A.in1 (Builtin.Dict.addKeywords D [] >>= _) _ _ _
    refine wpAny_bind (wpAny_pure (wpAny_pure ?_))
    exact hR g s.toks (hD.extBut hg n2) fun c o _ hc e => hg c o hc e
  | p :: more, n, done, ix, k, s, e1, e2, hp, hJ, ht, hD, hR => by
    obtain ⟨c, x, hc, hcD, hcJ, hx, hk⟩ := hp 0 p rfl
    rw [List.length_cons] at e1 e2
    refine codeAny_builtin ud_entry ?_
    rw [Around.under_plainId ud_plain _]
    show wpAny _ A.in1 (pyNext (.ref J) >>= _) _ _ s
    refine wpAny_bind (wpAny_pyNext_tuple_item (x := .ref c) hJ ht (by simpa using hc) fun g1 hJ1 f1 => ?_)
    have hx1 : IsTup g1 c #[x, p.2] := hx.extBut f1.extBut hcJ
    have ht1 : g1.IsTuple t its := ht.at fun o e => f1.extBut t o n1 e
    have hD1 : g1.DictOf (mixKind prog w) D done := hD.extBut f1.extBut n2
    obtain ⟨o, ho, hcl, m, hdat⟩ := id hx1
    show wpAny _ A.in1 (holding [Value.ref c] _ >>= _) _ _ _
    refine wpAny_bind (wpAny_holding ?_)
    refine wpAny_bind (wpAny_tryCatch ?_)
    unfold Builtin.Dict.pairItems
    refine wpAny_bind (wpAny_typeOf (T := "tuple") ⟨o, ho, hcl⟩ ?_)
    rw [if_pos (by first | decide | rfl | simp)]
    refine wpAny_bind (wpAny_seqItems ho hdat (wpAny_pure ?_))
    show wpAny _ A.in1 (holding [x, p.2] (dictSet D x p.2)) _ _ _
    refine wpAny_holding (wpAny_dictSet_pairs (knd := mixKind prog w) (k := p.1) hk hD1 (fun g2 hD2 f2 => ?_) (by omega))
    refine wpAny_pure ⟨plainId_quiet ud_plain _, tup_fill (its := its) hA n1 n2 n3 more (n + 1) (stored done p.1 p.2) (ix + 1) 0 _ (show its.size = n + 1 + more.length by omega) ?_ (fun j p' e => ?_) ?_ ?_ hD2 fun g tk hd' kp => ?_⟩
    · have z := stored_length_le done p.1 p.2
      omega
    · obtain ⟨c', x', hc', hcD', hcJ', hx', hk'⟩ := hp (j + 1) p' (by simpa using e)
      refine ⟨c', x', ?_, hcD', hcJ', (hx'.extBut f1.extBut hcJ').extBut f2.extBut hcD', hk'⟩
      rw [show n + 1 + j = n + (j + 1) by omega]
      exact hc'
    · exact hJ1.at fun o' e => f2.extBut J o' (Ne.symm n2) e
    · exact ht1.at fun o e => f2.extBut t o (Ne.symm n3) e
    · exact hR g tk hd' fun d o h3 h4 e => kp d o h3 h4 (f2.extBut d o h3 (f1.extBut d o h4 e))
theorem call_dict_tup {s : Shared} {t : Addr} {ot : Obj} {its : Array Value} {n : Nat} {prs : List (Key × Value)} {Q : Value → Shared → Prop} (hA : A.handled = none) (h1 : s.heap.get? t = some ot) (h2 : ot.cls = .type "tuple") (h3 : ot.dict = none)
    (h4 : ot.data = .seq its n) (h5 : its.size = prs.length) (h6 : prs.length ≤ sizeLine)
    (hp : ∀ (j : Nat) (p : Key × Value), prs[j]? = some p → ∃ (c : Addr) (x : Value), its[j]? = some (.ref c) ∧ IsTup s.heap c #[x, p.2] ∧ keyIs p.1 x = true)
    (h : ∀ g tk, g.DictOf (mixKind prog w) s.heap.objs.size (merged [] prs) → (∀ c o, s.heap.get? c = some o → g.get? c = some o) → Q (.ref s.heap.objs.size) { s with heap := g, toks := tk }) :
    wpAny (model prog w) A (call (.type "dict") [.ref t]) Q E s := by
  refine callType_codes (Q₁ := fun obj s₁ => obj = .ref s.heap.objs.size ∧ s₁ = { s with heap := s.heap.push { cls := .type "dict", data := .dict #[] } }) PySem.F.kt_called_dict (PySem.F.kt_typeCall_dict_1 _) PySem.F.entry_dict_init (kt_code_dict_new _ ⟨rfl, rfl⟩) ?_
  rintro _ _ ⟨rfl, rfl⟩
  have new : (s.heap.push { cls := .type "dict", data := .dict #[] }).DictOf (mixKind prog w) s.heap.objs.size [] := Heap.DictOf.new s.heap
  have up : ∀ c o, s.heap.get? c = some o → (s.heap.push { cls := .type "dict", data := .dict #[] }).get? c = some o := fun c o e => Heap.get?_push_of_some _ e
  refine ⟨new.typeIs, PySem.F.args_dict_init_2 _ _, ?_⟩
  unfold Builtin.«dict.__init__»
  refine wpAny_bind ?_
  unfold Builtin.Dict.selfAndRest
  refine wpAny_bind (wpAny_notOrdered_dict new.typeIs ?_)
  show wpAny _ _ (pure (s.heap.objs.size, [Value.ref t])) _ _ _
  refine wpAny_pure ?_
  show wpAny _ _ (Builtin.Dict.updateFrom "dict.__init__" s.heap.objs.size (.ref t) [] .none) _ _ _
  unfold Builtin.Dict.updateFrom
  refine wpAny_bind (wpAny_typeOf (T := "tuple") ⟨ot, up _ _ h1, h2⟩ ?_)
  rw [if_pos (by first | decide | rfl | simp)]
  refine wpAny_bind (getAttrOr_miss_tuple (up _ _ h1) h2 h4 h3 tuple_no_keys (by decide +kernel) hA fun g1 tk1 kp => ?_)
  rw [if_pos (show (none : Option Value).isNone = true from rfl)]
  refine wpAny_bind (wpAny_rule ?_)
  have ht1 : g1.IsTuple t its := ⟨ot, kp _ _ (up _ _ h1), h2, n, h4⟩
  have lt1 : s.heap.objs.size < g1.objs.size := Heap.lt_size (kp _ _ (Heap.get?_push_size _ rfl))
  refine wpAny_bind (wpAny_pyIter_tuple ht1 ?_)
  have up2 : ∀ c o, g1.get? c = some o → (g1.push { cls := .type "tuple_iterator", data := .fields #[.ref t, .int 0 0] }).get? c = some o := fun c o e => Heap.get?_push_of_some _ e
  have ltt : t < s.heap.objs.size := Heap.lt_size h1
  have key := tup_fill (prog := prog) (w := w) (A := A.in1) (R := wants (fun r s₂ => r = .none ∧ Q (.ref s.heap.objs.size) s₂) E) (D := s.heap.objs.size) (J := g1.objs.size) (t := t) (its := its) (res := Value.none) hA
    (Nat.ne_of_lt (Nat.lt_trans ltt lt1)) (Nat.ne_of_lt lt1) (Nat.ne_of_gt ltt) prs 0 [] 0 0
    { s with heap := g1.push { cls := .type "tuple_iterator", data := .fields #[.ref t, .int 0 0] }, toks := tk1 } (by rw [h5, Nat.zero_add]) (by rw [List.length_nil, Nat.zero_add]; exact h6)
    (fun j p e => by
      obtain ⟨c, x, u1, u2, u3⟩ := hp j p e
      have hc : c < s.heap.objs.size := u2.lt
      exact ⟨c, x, by rw [Nat.zero_add]; exact u1, Nat.ne_of_lt hc, Nat.ne_of_lt (Nat.lt_trans hc lt1), u2.keeps fun b o z => up2 _ _ (kp _ _ (up _ _ z)), u3⟩)
    ⟨_, Heap.get?_push_size _ rfl, rfl, rfl⟩ (ht1.at fun o e => up2 _ _ e) ((new.at fun o e => kp _ _ e).at fun o e => up2 _ _ e)
    (fun g tk hd' kq => ⟨rfl, h g tk hd' fun c o e => kq c o (Nat.ne_of_lt (Heap.lt_size e)) (Nat.ne_of_lt (Nat.lt_trans (Heap.lt_size e) lt1)) (up2 _ _ (kp _ _ (up _ _ e)))⟩)
  first
    | exact wpAny_pure ⟨plainId_quiet ud_plain _, key⟩
    | exact wpAny_bind (wpAny_pure (wpAny_pure ⟨plainId_quiet ud_plain _, key⟩))
end
section
variable {X : Cx}
theorem call_dictT (hcalm : X.calm = true) : CallR X (.type "dict") (fun xs H Q => ∃ (a : Addr) (o : Obj) (ps : List Addr) (kvs : List (Key × V)), xs = [.ref a] ∧ H a = some (.frz o (.tup (ps.map V.ref))) ∧ o.dict = none ∧ Paired (fun p kv => SqT X.K H p [kV kv.1, kv.2]) ps kvs ∧
    ∀ p, H p = none → Q (.ref p) (upd H p (.dK (mergeK [] kvs)))) := by
  intro pins s σ H xs us Q I r q
  obtain ⟨a, o, ps, kvs, ex, ha, hdn, hp, q⟩ := q
  subst ex
  obtain ⟨u, eu, rx⟩ := vals1 r
  subst eu
  cases rx
  obtain ⟨g1, hz, its, rv, ht⟩ := (show ObjOk X.prog X.w H s.heap a (.frz o (.tup (ps.map V.ref))) from I.hok a _ ha)
  have ei := refs_at rv
  subst ei
  rw [List.length_map] at hz
  obtain ⟨prs, rel, hl, hpr⟩ := pairs_of I hp
  obtain ⟨o', h1, hc, n, hdat⟩ := ht
  rw [g1] at h1
  cases h1
  refine call_dict_tup (prs := prs) (I.ok.hd hcalm) g1 hc hdn hdat (by simp [hl]) (by rw [hl]; exact hz) (fun j p e => ?_) fun g tk hd' k => ?_
  · obtain ⟨b, u, e1, e2, e3⟩ := hpr j p e
    exact ⟨b, u, by simp [e1], e2, e3⟩
  · have hm : (s.heap.objs.size == sysModules) = false := beq_eq_false_iff_ne.mpr (Nat.ne_of_gt I.big)
    have hlen : (mergeK [] kvs).length ≤ sizeLine := by
      have := length_mergeK kvs []
      rw [List.length_nil, Nat.zero_add, rel.length, hl] at this
      exact Nat.le_trans this hz
    exact ⟨.ref s.heap.objs.size, _, I.laid (t' := tk) k (Nat.le_refl _) (show ObjOk X.prog X.w _ _ _ (.dK (mergeK [] kvs)) from ⟨hlen, hm, merged [] prs, KV.merge rel .nil, hd'⟩), rfl, q _ (I.hok.fresh (Nat.le_refl _))⟩
end
end SP
/-! P3 -/
namespace SP
open PySem PySem.Spec PyProof.Rows L2

/-! ### data as the library's -/
mutual
def Dt.py : Dt → PyData
  | .non => .none
  | .bl b => .bool b
  | .int i => .int i
  | .str s => .str s
  | .lst xs => .list (Dt.pyA xs)
  | .tp _ xs => .tuple (Dt.pyA xs)
  | .dic _ => .none
  | .raw _ => .none
def Dt.pyA : List Dt → List PyData
  | [] => []
  | d :: ds => Dt.py d :: Dt.pyA ds
end
mutual
def Dt.pure : Dt → Bool
  | .lst xs => Dt.pureA xs
  | .tp _ xs => Dt.pureA xs
  | .dic _ => false
  | .raw _ => false
  | _ => true
def Dt.pureA : List Dt → Bool
  | [] => true
  | d :: ds => Dt.pure d && Dt.pureA ds
end
theorem Dt.pyA_map : ∀ ds : List Dt, Dt.pyA ds = ds.map Dt.py
  | [] => rfl
  | d :: ds => by rw [Dt.pyA, Dt.pyA_map ds]; rfl
theorem Dt.pureA_all : ∀ ds : List Dt, Dt.pureA ds = ds.all Dt.pure
  | [] => rfl
  | d :: ds => by rw [Dt.pureA, Dt.pureA_all ds]; rfl
section
variable {K : PySem.W.Frag} {Φ : MP} {ρ : Rho} {x y z d : Dt} {Hd H : Hp}
mutual
theorem Im.dp (e : Ex Hd H) : ∀ {v : V} {d : Dt}, Im K Hd v d → d.pure = true → Dp K H v d.py
  | _, _, .non, _ => by rw [Dt.py]; exact .non
  | _, _, .bl b, _ => by rw [Dt.py]; exact .bl b
  | _, _, .int i, _ => by rw [Dt.py]; exact .int i
  | _, _, .str s, _ => by rw [Dt.py]; exact .str s
  | _, _, .lst h a, p => by
    rw [Dt.pure] at p
    rw [Dt.py]
    exact .lst (.inl (.inl (e _ _ h))) (ImA.dp e a p)
  | _, _, .tp x h q a, p => by
    rw [Dt.pure] at p
    rw [Dt.py]
    exact .tup (.inl (ex_rd e h)) (ImA.dp e a p)
  | _, _, .dic h, p => by rw [Dt.pure] at p; cases p
  | _, _, .raw v, p => by rw [Dt.pure] at p; cases p
theorem ImA.dp (e : Ex Hd H) : ∀ {vs : List V} {ds : List Dt}, ImA K Hd vs ds → Dt.pureA ds = true → DpAll K H vs (Dt.pyA ds)
  | _, _, .nil, _ => by rw [Dt.pyA]; exact .nil
  | _, _, .cons h t, p => by
    rw [Dt.pureA, Bool.and_eq_true] at p
    rw [Dt.pyA]
    exact .cons (Im.dp e h p.1) (ImA.dp e t p.2)
end
theorem rd_eqD (px : x.pure = true) (py : y.pure = true) (sx : SeqAt.shaped x.py = true) (sy : SeqAt.shaped y.py = true) : RD2 K Φ (rEqD K) x y (.bl (PyData.eqv x.py y.py)) := fun Hd H v u e i1 i2 _ Q q =>
  ⟨_, _, i1.dp e px, i2.dp e py, sx, sy, q _ Hd H (.refl e) (.bl _)⟩
theorem rd_neD (px : x.pure = true) (py : y.pure = true) (sx : SeqAt.shaped x.py = true) (sy : SeqAt.shaped y.py = true) : RD2 K Φ (rNeD K) x y (.bl (!PyData.eqv x.py y.py)) := fun Hd H v u e i1 i2 _ Q q =>
  ⟨_, _, i1.dp e px, i2.dp e py, sx, sy, q _ Hd H (.refl e) (.bl _)⟩

/-! ### exact tuples -/
theorem ed_tux {t : TA} {ds : List Dt} (h : EvA K Φ t ρ ds) (hl : ds.length ≤ 100000 := by decide) : EvD K Φ (tTupX t) ρ (.tux ds) := fun σ Hd H e en p Q q =>
  h σ Hd H e en p _ fun vs Hd1 H1 s1 i1 => ⟨by rw [i1.length]; exact Nat.le_trans hl (by decide), fun p' o hp ho => by
    have s := Stp.new (M := NoM) (o := .frz o (.tup vs)) s1.sub hp
    exact q _ _ _ (s1.trans s) (.tux upd_same ho (i1.mono s.ud))⟩
theorem ed_slX {te : TE} {tl th : TO} {lo hi : Option Int} {xs : List Dt} (h : EvD K Φ te ρ (.tux xs)) (h1 : EvO K Φ tl ρ lo) (h2 : EvO K Φ th ρ hi) : EvD K Φ (tSl rSlX te tl th) ρ (.tux (cutD xs lo hi)) :=
  ed_sl h h1 h2 fun Hd H v e i1 Q q => by
    obtain ⟨a, us, o, rfl, h', ho, ia⟩ := i1.tux_inv
    refine ⟨a, us, o, rfl, e _ _ h', fun hf => ?_, fun _ p o' hp ho' => ?_⟩
    · rw [ia.length] at hf
      refine q _ Hd H (.refl e) ?_
      rw [cut_full hf]
      exact .tux h' ho ia
    · have s := Stp.new (M := NoM) (o := .frz o' (.tup (cutV us lo hi))) e hp
      exact q _ _ _ s (.tux upd_same ho' ((ia.cut lo hi).mono s.ud))
theorem rc_tupleX {xs : List Dt} : RDC K Φ (fun xs H Q => ∃ p ys, xs = [.ref p] ∧ SqL K H p ys ∧ ∀ l o, H l = none → o.dict = none → Q (.ref l) (upd H l (.frz o (.tup ys)))) [.lst xs] (.tux xs) := fun Hd H vs e i1 _ Q q => by
  obtain ⟨v, us, rfl, iv, it⟩ := i1.cons_inv
  obtain ⟨a, ws, rfl, h, ia⟩ := iv.lst_inv
  rw [it.nil_inv]
  refine ⟨a, ws, rfl, .inl (.inl (e _ _ h)), fun p o hp ho => ?_⟩
  have s := Stp.new (M := NoM) (o := .frz o (.tup ws)) e hp
  exact q _ _ _ s (.tux upd_same ho (ia.mono s.ud))
theorem ed_tIx {to te : TE} {ys : List Str} {k : Str} (ho : EvD K Φ to ρ (.tux (ys.map Dt.str))) (he : EvD K Φ te ρ (.str k)) (hk : k ∈ ys) : EvD K Φ (tTIx to te) ρ (.int (ys.idxOf k : Nat)) := fun σ Hd H e en p Q q =>
  ho σ Hd H e en p _ fun v Hd1 H1 s1 i1 => by
    obtain ⟨a, us, o, rfl, h', hd, ia⟩ := i1.tux_inv
    rw [ia.strs] at h'
    exact ⟨a, o, ys, rfl, s1.sub _ _ h', hd, he σ Hd1 H1 s1.sub (en.mono s1.ud) (Φ.mono s1 p) _ fun u Hd2 H2 s2 i2 => ⟨k, i2.str_inv, s2.sub _ _ (s2.ud _ _ h'), hk, q _ Hd2 H2 (s1.trans s2) (.int _)⟩⟩
/-- less is known of a tuple -/
theorem ed_untux {te : TE} {xs : List Dt} (h : EvD K Φ te ρ (.tux xs)) : EvD K Φ te ρ (.tup xs) := fun σ Hd H e en p Q q =>
  h σ Hd H e en p Q fun v Hd1 H1 s1 i1 => q v Hd1 H1 s1 i1.untux

/-! ### isinstance -/
def Dt.tyOf : Dt → Option String
  | .non => some "NoneType"
  | .bl _ => some "bool"
  | .int _ => some "int"
  | .str _ => some "str"
  | .lst _ => some "list"
  | .tp true _ => some "tuple"
  | _ => none
theorem Im.tyX {v : V} {T : String} (i : Im K Hd v d) (e : Ex Hd H) (h : d.tyOf = some T) : TyX K H v (.type T) := by
  cases i with
  | non => cases h; exact .base .non
  | bl b => cases h; exact .base (.bl b)
  | int b => cases h; exact .base (.int b)
  | str b => cases h; exact .base (.str b)
  | lst h1 _ => cases h; exact .base (.lst (e _ _ h1))
  | @tp a xs ds x h1 q _ =>
    cases x with
    | true =>
      cases h
      obtain ⟨o, h2, _⟩ := q rfl
      exact .fTuple (e _ _ h2)
    | false => cases h
  | dic _ => cases h
  | raw _ => cases h
theorem rc_isi {T U : String} {b : Bool} (h : x.tyOf = some T) (hk : kitB T U = some b) : RDC K Φ (rIsi K) [x, .raw (.ty U)] (.bl b) := fun Hd H vs e i1 _ Q q => by
  obtain ⟨v, us, rfl, iv, it⟩ := i1.cons_inv
  obtain ⟨v2, us2, rfl, iv2, it2⟩ := it.cons_inv
  rw [it2.nil_inv, iv2.raw_inv]
  exact ⟨v, .ty U, .type T, .type U, b, rfl, .ty U, iv.tyX e h, kit_ty hk, q _ Hd H (.refl e) (.bl _)⟩
theorem kb_ii : kitB "int" "int" = some true := by decide +kernel
theorem kb_ib : kitB "int" "bool" = some false := by decide +kernel
theorem kb_ss : kitB "str" "str" = some true := by decide +kernel
theorem kb_tt : kitB "tuple" "tuple" = some true := by decide +kernel
theorem kb_is : kitB "int" "str" = some false := by decide +kernel
theorem kb_ns : kitB "NoneType" "str" = some false := by decide +kernel
theorem kb_ls : kitB "list" "str" = some false := by decide +kernel
end

/-! ### sorted(list of pairs (text, int)) -/
abbrev Pr := V × Str × Int
abbrev prEnc (b : Pr) : PyData := .tuple [.str b.2.1, .int b.2.2]
theorem prLt (a b : Pr) : PySem.W.dataLt (prEnc a) (prEnc b) = decide (a.2.1.cps.toList < b.2.1.cps.toList ∨ (a.2.1 = b.2.1 ∧ a.2.2 < b.2.2)) := by
  rw [PySem.W.dataLt_pair (by simp [PySem.W.alike]) (by simp [PySem.W.alike]), PySem.W.dataLt_int, PySem.W.dataLt_str]
  simp only [PyData.eqv, beq_iff_eq]
  by_cases h1 : a.2.1 = b.2.1
  · have e : ¬ a.2.1.cps.toList < b.2.1.cps.toList := by rw [h1]; exact List.lt_irrefl _
    have e' : ¬ b.2.1.cps.toList < b.2.1.cps.toList := List.lt_irrefl _
    by_cases h2 : a.2.2 = b.2.2
    · simp only [h1, h2, if_true, e', false_or, true_and, Int.lt_irrefl, decide_false]
    · simp only [h1, h2, if_true, if_false, e', false_or, true_and]
  · simp [h1]
theorem strs_eq {a b : Str} (h : a.cps.toList = b.cps.toList) : a = b := by
  cases a; cases b
  exact congrArg Str.mk (Array.toList_inj.mp h)
theorem prLe_trans (a b c : Pr) : PySem.W.dataLe false prEnc a b = true → PySem.W.dataLe false prEnc b c = true → PySem.W.dataLe false prEnc a c = true := by
  rw [PySem.W.dataLe_eq]
  simp only [cond_false, prLt, Bool.not_eq_true', decide_eq_false_iff_not, not_or, not_and]
  intro ⟨h1, h2⟩ ⟨h3, h4⟩
  have l1 : a.2.1.cps.toList ≤ b.2.1.cps.toList := List.not_lt.mp h1
  have l2 : b.2.1.cps.toList ≤ c.2.1.cps.toList := List.not_lt.mp h3
  refine ⟨List.not_lt.mpr (List.le_trans l1 l2), fun e => ?_⟩
  have e1 : b.2.1 = a.2.1 := strs_eq (List.le_antisymm (by rw [← e]; exact l2) l1)
  have e2 : c.2.1 = b.2.1 := by rw [e1]; exact e
  have := h2 e1
  have := h4 e2
  omega
theorem prLe_total (a b : Pr) : (PySem.W.dataLe false prEnc a b || PySem.W.dataLe false prEnc b a) = true := by
  rw [PySem.W.dataLe_eq]
  simp only [cond_false, prLt]
  rw [Bool.or_eq_true]
  simp only [Bool.not_eq_true', decide_eq_false_iff_not, not_or, not_and]
  by_cases h : b.2.1.cps.toList < a.2.1.cps.toList
  · refine .inr ⟨List.not_lt.mpr (List.le_of_lt h), fun e => ?_⟩
    rw [e] at h
    exact absurd h (List.lt_irrefl _)
  · by_cases h' : a.2.1.cps.toList < b.2.1.cps.toList
    · refine .inl ⟨h, fun e => ?_⟩
      rw [e] at h'
      exact absurd h' (List.lt_irrefl _)
    · by_cases h2 : b.2.2 < a.2.2
      · exact .inr ⟨h', fun _ => by omega⟩
      · exact .inl ⟨h, fun _ => h2⟩
section
variable {X : Cx}
theorem each_prs {pins : List (Addr × Obj)} {σ : L2.St} {H : Hp} {s : Shared} (I : Inv X pins σ H s) : ∀ {bs : List Pr} {its : List Value}, Vals (bs.map (·.1)) its → (∀ b ∈ bs, ∃ p, b.1 = .ref p ∧ SqT X.K H p [.str b.2.1, .int b.2.2]) →
    PySem.W.EachIs (fun v (b : Pr) => RelV b.1 v) its bs ∧ PySem.W.EachIs (fun v b => ∃ as, Reads s.heap v (prEnc b) as) its bs
  | [], its, r, _ => by
    cases r
    exact ⟨.nil, .nil⟩
  | b :: bs, its, r, h => by
    cases r with
    | cons r1 r2 =>
      obtain ⟨t1, t2⟩ := each_prs I r2 fun c hc => h c (List.mem_cons_of_mem _ hc)
      obtain ⟨p, e1, e2⟩ := h b List.mem_cons_self
      have d : Dp X.K H b.1 (prEnc b) := by
        rw [e1]
        exact .tup e2 (.cons (.str _) (.cons (.int _) .nil))
      exact ⟨.cons r1 t1, .cons (Dp.reads I _ _ _ d r1) t2⟩
theorem each_vals : ∀ {bs : List Pr} {its : List Value}, PySem.W.EachIs (fun v (b : Pr) => RelV b.1 v) its bs → Vals (bs.map (·.1)) its
  | _, _, .nil => .nil
  | _, _, .cons r t => .cons r (each_vals t)
def rSortedPr (K : PySem.W.Frag) : List V → Hp → VK → Prop := fun xs H Q => ∃ (a : Addr) (bs : List Pr), xs = [.ref a] ∧ SqL K H a (bs.map (·.1)) ∧ (∀ b ∈ bs, ∃ p, b.1 = .ref p ∧ SqT K H p [.str b.2.1, .int b.2.2]) ∧ bs.length ≤ 100000 ∧
  ∀ ys : List Pr, ys.Perm bs → ys.Pairwise (fun a b => ¬ b.2.1.cps.toList < a.2.1.cps.toList) → ∀ p, H p = none → Q (.ref p) (upd H p (.lst (ys.map (·.1))))
theorem call_sortedPr (hu : X.A.units + 64 < cLine) : CallR X (.builtin "sorted") (rSortedPr X.K) := by
  intro pins s σ H xs us Q I r h
  obtain ⟨a, bs, ex, ha, hb, hl, q⟩ := h
  subst ex
  obtain ⟨u, eu, rx⟩ := vals1 r
  subst eu
  cases rx
  obtain ⟨its, rv, pl, hz⟩ := I.list ha
  obtain ⟨e1, e2⟩ := each_prs I rv hb
  have hL : bs.length ≤ sizeLine := Nat.le_trans hl (by decide)
  refine PySem.W.sorted_data (R := fun v (b : Pr) => RelV b.1 v) (enc := prEnc) pl.isList e1 e2 (PySem.W.AllAlike.of fun b b' => by simp [PySem.W.alike, PySem.W.alikeAll]) (PySem.W.Sortable.tuples fun b => ⟨_, _, rfl⟩) hL (fun b _ => ?_) fun out ho eo => ?_
  · have : (prEnc b).depth ≤ 1 := by simp [prEnc, PyData.depth, PyData.depthAll]
    omega
  · obtain ⟨c, hc⟩ := sortedAll_at s.heap its out.toArray
    have hp := List.mergeSort_perm bs (PySem.W.dataLe false prEnc)
    have hw := List.pairwise_mergeSort (le := PySem.W.dataLe false prEnc) prLe_trans prLe_total bs
    refine ⟨.ref (s.heap.objs.size + 1), _, I.laid (t' := s.toks) (a := s.heap.objs.size + 1) (o := .lst ((bs.mergeSort (PySem.W.dataLe false prEnc)).map (·.1))) (fun b o e => sortedAll_old e) (Nat.le_succ _) ?_, rfl, q _ hp (hw.imp fun {x y} hxy => ?_) _ (I.hok.fresh (Nat.le_succ _))⟩
    · refine ⟨by rw [List.length_map, hp.length_eq]; exact hL, out, c, each_vals eo, hc⟩
    · rw [PySem.W.dataLe_eq] at hxy
      simp only [cond_false, prLt, Bool.not_eq_true', decide_eq_false_iff_not, not_or] at hxy
      exact hxy.1
end
end SP
/-! P4 -/
namespace SP
open PySem PySem.Spec PyProof.Rows L2

/-! ### repr of data, where no guard is held -/
def rRepr (K : PySem.W.Frag) : List V → Hp → VK → Prop := fun xs H Q => ∃ (v : V) (d : PyData), xs = [v] ∧ Dp K H v d ∧ d.showable = true ∧ d.depth ≤ 50 ∧ d.hasDict = false ∧ d.shown.length ≤ sizeLine ∧ Q (.str d.shown) H
theorem call_repr {X : Cx} (hg : X.A.guards = some []) (hu : X.A.units + 64 < cLine) : CallR X (.builtin "repr") (rRepr X.K) := by
  intro pins s σ H xs us Q I r h
  obtain ⟨v, d, ex, dp, h1, h2, h3, h4, q⟩ := h
  subst ex
  obtain ⟨u, eu, rx⟩ := vals1 r
  subst eu
  obtain ⟨as, rd⟩ := Dp.reads I d v u dp rx
  cases rd with
  | none => exact PySem.P.repr_of_none ⟨.str _, H, I.tok _, ⟨_, rfl⟩, by rw [PyData.shown] at q; exact q⟩
  | bool b =>
    refine PySem.P.repr_of_bool ⟨.str _, H, I.tok _, ⟨_, rfl⟩, ?_⟩
    rw [PyData.shown] at q
    cases b <;> exact q
  | int i t =>
    rw [PyData.showable, decide_eq_true_eq] at h1
    refine PySem.P.repr_of_int h1 ⟨.str _, H, I.tok _, ⟨_, rfl⟩, ?_⟩
    rw [PyData.shown] at q
    exact q
  | str x t =>
    rw [PyData.shown] at q h4
    exact PySem.P.repr_of_str ⟨.str _, H, I.tok _, ⟨_, rfl⟩, q⟩ h4
  | list a b c e =>
    exact repr_of_reads' (.list a b c e) h1 (fun z => by rw [h3] at z; cases z) hg (by omega) (fun b o e => e) (fun h' u tk hk => ⟨.str _, H, I.kept (t' := tk) hk, ⟨_, rfl⟩, q⟩) h4
  | tuple a b c e =>
    exact repr_of_reads' (.tuple a b c e) h1 (fun z => by rw [h3] at z; cases z) hg (by omega) (fun b o e => e) (fun h' u tk hk => ⟨.str _, H, I.kept (t' := tk) hk, ⟨_, rfl⟩, q⟩) h4
  | _ => cases h3
/-- .. of data that is small -/
theorem rc_repr {K : PySem.W.Frag} {Φ : MP} {x : Dt} (p : x.pure = true) (h1 : x.py.showable = true) (h2 : x.py.depth ≤ 50) (h3 : x.py.hasDict = false) (h4 : x.py.shown.length ≤ sizeLine) : RDC K Φ (rRepr K) [x] (.str x.py.shown) := fun Hd H vs e i1 _ Q q => by
  obtain ⟨v, us, rfl, iv, it⟩ := i1.cons_inv
  rw [it.nil_inv]
  exact ⟨v, _, rfl, iv.dp e p, h1, h2, h3, h4, q _ Hd H (.refl e) (.str _)⟩

/-! ### a def that is called where no guard is held -/
structure FnG (P : Program) (w : World) (K : PySem.W.Frag) (mg : Str → Option Value) (base : Heap) (CX : CXT) (k : Nat) (f : Addr) (fd : FuncData) (ps : List Str) (sp : Sp) : Prop where
  len : ∀ vs H Q E, sp vs H Q E → vs.length = ps.length
  run : ∀ (A : Around) (outer : List Env) (s : Shared) (H : Hp) (args : Args) (us : List Value) (vs : List V) (Q : VK) (E : XK), A.guards = some [] → Room k A → Env0 P w K mg base A outer s H → BindsTo s fd args (ps.zip us) → Vals vs us → sp vs H Q E →
    codeAny (model P w) A (.call (.ref f) args) (CR CX outer P w H s Q E) s
section
variable {P : Program} {w : World} {K : PySem.W.Frag} {mg : Str → Option Value} {base : Heap} {x qual : Str} {st : Stmt} {f : Addr} {fd : FuncData} {N ps : List Str} {k : Nat} {sp : Sp}
theorem fnG (F : Fun K x qual st f fd) (S : FnScope N ps (defScope st)) (len : ∀ vs H Q E, sp vs H Q E → vs.length = ps.length)
    (hbody : ∀ (cdv : Value) (A : Around) (outer : List Env) (s : Shared) (H : Hp) (vs : List V) (Q : VK) (E : XK), (A.deeper (envOfC qual (defScope st) s.heap.objs.size f cdv)).guards = some [] → Room k (A.deeper (envOfC qual (defScope st) s.heap.objs.size f cdv)) → sp vs H Q E →
      ∃ t, PSs (cxOf CX0 P w K mg base N qual (defScope st) f cdv A outer s H E).nox (defBody st) t ∧ t { nx := fun _ H' => Q .non H', rt := Q } (start N vs) H) : FnG P w K mg base CX0 (k + 1) f fd ps sp := by
  obtain ⟨oc, od, kV, doc, pm, an, cdv, ct, osl, rfl, lk, hcd⟩ := F.ex
  refine ⟨len, fun A outer s H args us vs Q E hA hr e0 hb r q => ?_⟩
  refine LamX.run_ofS lk hcd S hr e0 hb r (len _ _ _ _ q) fun hr' => ?_
  obtain ⟨t, h, q'⟩ := hbody cdv A outer s H vs Q E hA hr' q
  exact ⟨t, h.nox, q'⟩
end
section
variable {X : Cx} {CX : CXT} {k : Nat} {f : Addr} {fd : FuncData} {ps : List Str} {sp : Sp} {E : XK} {x : Str} {p pos : Pos} {e : Expr} {es : List Expr} {t : TA}
theorem pe_callG (F : FnG X.prog X.w X.K X.mg X.base CX k f fd ps sp) (hA : X.A.guards = some []) (hr : Room k X.A) (hg : Gl X x) (hm : X.mg x = some (.ref f)) (hk : PySem.W.keepIn X.K (.ref f) = true) (hb : Binds X.K fd ps []) (hx : Passes CX X E)
    (ha : PA X (e :: es) t) (hdb : (x == ("__debug__" : Str)) = false := by decide) (he : starEach (e :: es) X.env = (false, eval e X.env) :: starEach es X.env := by rfl) (hpl : (backTo pos (starEach es X.env)).any (·.1) = false := by rfl) :
    PE X (.Call (.Name x p) (e :: es) [] pos) (tCall sp [] E t) := by
  refine ⟨fun pins s σ H Q I h => ?_⟩
  refine wpAny_Call_Name_kw (ld_glob I hg hm ?_ hdb)
  refine PySem.W.callWith_K (h₀ := X.base) I.ok.mod.kin hk (thn (ha.run pos pins s σ H _ I h) fun us s1 ⟨vs, H1, I1, r, q⟩ => ⟨I1.kIn, ?_⟩) he hpl
  have hl : us.length = ps.length := by
    have := F.len _ _ _ _ (show sp (vs ++ []) H1 Q E from q)
    rw [List.append_nil] at this
    rw [← r.length]
    exact this
  replace q : sp (vs ++ []) H1 Q E := q
  rw [List.append_nil] at q
  have hb' := hb s1 us I1.kIn (by rw [List.append_nil]; exact hl)
  rw [List.append_nil] at hb'
  refine wpAny_call (codeAny_mono (F.run X.A X.stack s1 H1 ⟨us, []⟩ us vs Q E hA hr I1.env0 hb' r q) fun r s' hq => ?_)
  cases r with
  | error e => exact hx pins σ H1 s1 e s' I1 hq
  | ok fl =>
    cases fl with
    | ret u => exact I1.after hq
    | next => exact False.elim hq
    | brk => exact False.elim hq
    | cont => exact False.elim hq
end
end SP
/-! P5 -/
namespace SP
open PySem PySem.Spec PyProof.Rows L2 LamX

/-! ### the law's call, from a promise that wants no guard to be held -/
theorem law_callG {P : Program} {w : World} {K : PySem.W.Frag} {mg mb : Str → Option Value} {CX : CXT} {k : Nat} {fa a : Addr} {ct : List (Addr × Addr)} {fd : FuncData} {x : Str} {sp : Sp} {z : Shared} {vs : List Value} {ns : List Int}
    (hK : K.In z.heap) (hG : z.heap.Ns mainGlobals mg) (hB : z.heap.Ns builtinsNs mb) (hBb : ∀ y : Str, y ≠ "__name__" → mb y = bootBuiltins y) (hL : z.heap.NoLimit) (hgen : z.gens = #[])
    (tab : ∀ p ∈ ct, z.heap.get? p.2 = some { cls := .none, data := .fields #[] }) (tabK : ∀ p ∈ ct, K.lookup p.2 = none) (tabC : ∀ p ∈ ct, PySem.W.CodeHd z.heap p.1 p.2)
    (hM : ∃ (bm : Addr) (ob : Obj), mg "__builtins__" = some (.ref bm) ∧ bm ≠ builtinsNs ∧ z.heap.get? bm = some ob ∧ ob.cls = .type "module" ∧ ob.dict = some builtinsNs ∧ ob.data = .plain)
    (ha : z.heap.get? a = some { cls := .type "list", data := .seq vs.toArray }) (hi : IntsAre vs ns) (hl : ns.length ≤ sizeLine) (hr : Room k callerA)
    (F : ∀ base : Heap, K.In base → base.Ns mainGlobals mg → (∀ p ∈ ct, TabB base mg p.1 p.2) → FnG P w K mg base CX k fa fd [x] sp) (hbind : ∀ (s : Shared) (u : Value), BindsTo s fd ⟨[u], []⟩ [(x, u)])
    (hsp : ∀ H : Hp, (∀ p ∈ ct, H p.2 = some (.tbl #[])) → SqL K H a (ns.map V.int) → sp [.ref a] H (fun v _ => v = .bl true) fun _ _ _ => False)
    (hCX : ∀ H e s', CX [] H z (fun _ _ _ => False) e s' → False) :
    codeAny (model P w) callerA (.call (.ref fa) ⟨[.ref a], []⟩) (fun r s' => r = .ok (.ret (.bool true)) ∧ OldK z.heap s'.heap ∧ s'.os = z.os ∧ AllBare s'.gens) z := by
  have rv := vals_ints hi
  have lenV := hi.length
  let TS : List Addr := ct.map (·.2)
  have inT : ∀ p ∈ ct, p.2 ∈ TS := fun p hp => List.mem_map.mpr ⟨p, hp, rfl⟩
  have tabT : ∀ b, b ∈ TS → z.heap.get? b = some { cls := .none, data := .fields #[] } := fun b hb => by
    obtain ⟨p, hp, rfl⟩ := List.mem_map.mp hb
    exact tab p hp
  have aT : a ∉ TS := fun q => by
    have e := (tabT a q).symm.trans ha
    cases e
  have run : ∀ H : Hp, (∀ p ∈ ct, H p.2 = some (.tbl #[])) → (∀ b u, H b = some u → b ∈ TS ∨ (b = a ∧ K.lookup a = none ∧ ∃ o xs, u = .frz o (.lst xs))) → SqL K H a (ns.map V.int) → HOk P w H z.heap →
      codeAny (model P w) callerA (.call (.ref fa) ⟨[.ref a], []⟩) (fun r s' => r = .ok (.ret (.bool true)) ∧ OldK z.heap s'.heap ∧ s'.os = z.os ∧ AllBare s'.gens) z := by
    intro H hH hO hS hok
    have free : ∀ {b : Addr} {o : Obj}, z.heap.get? b = some o → (∀ us n, o.data ≠ .seq us n) → o.data ≠ .fields #[] → H b = none := fun {b o} e n1 n2 => by
      cases q : H b with
      | none => rfl
      | some u =>
        rcases hO b u q with m | ⟨m, _⟩
        · rw [tabT b m] at e
          cases e
          exact (n2 rfl).elim
        · rw [m, ha] at e
          cases e
          exact (n1 _ _ rfl).elim
    have up : ∀ {b : Addr} {o : Obj}, z.heap.get? b = some o → (∀ us n, o.data ≠ .seq us n) → o.data ≠ .fields #[] → (hidT z.heap H).get? b = some o := fun e n1 n2 => hidT_get e (free e n1 n2)
    have upN : ∀ {b : Addr} {m : Str → Option Value}, z.heap.Ns b m → (hidT z.heap H).Ns b m := fun {b m} ⟨o, es, ep, e, d, r⟩ =>
      ⟨o, es, ep, up e (fun us n q => by rw [d] at q; cases q) (fun q => by rw [d] at q; cases q), d, r⟩
    have upK : K.In (hidT z.heap H) := fun b o e => hidT_get (hK b o e) (by
      cases q : H b with
      | none => rfl
      | some u =>
        rcases hO b u q with m | ⟨m, n, _⟩
        · obtain ⟨p, hp, rfl⟩ := List.mem_map.mp m
          rw [tabK p hp] at e
          cases e
        · rw [m, n] at e
          cases e)
    have hMod : L2.Mod K mg (hidT z.heap H) := ⟨upK, upN hG, ⟨mb, upN hB, hBb⟩, let ⟨mc, q1, q2⟩ := hL; ⟨mc, upN q1, q2⟩⟩
    have hTab : ∀ p ∈ ct, TabB (hidT z.heap H) mg p.1 p.2 := fun p hp => by
      refine ⟨?_, ?_, fun q => ?_⟩
      · obtain ⟨o, us, fl, tf, fg, tg, inF, tx, tt, e1, r1, r2, r3, rest⟩ := tabC p hp
        exact ⟨o, us, fl, tf, fg, tg, inF, tx, tt, up e1 (fun us n q => by rw [r2] at q; cases q) (fun q => by rw [r2] at q; cases q; simp at r3), r1, r2, r3, rest⟩
      · obtain ⟨bm, ob, b1, b2, b3, b4, b5, b6⟩ := hM
        refine ⟨bm, ob, b1, b2, fun q => ?_, fun q => ?_, up b3 (fun us n q => by rw [b6] at q; cases q) (fun q => by rw [b6] at q; cases q), b4, b5, b6⟩
        · obtain ⟨o, es, ep, e, hd, _⟩ := hG
          rw [q, e] at b3
          cases b3
          rw [hd] at b6
          cases b6
        · rw [q, tab p hp] at b3
          cases b3
          cases b6
      · obtain ⟨o, es, ep, e, hd, _⟩ := hG
        rw [q, tab p hp] at e
        cases e
        cases hd
    have e0 : Env0 P w K mg (hidT z.heap H) callerA [] z H := ⟨rfl, hMod, fun b o e => of_hidT e, Nat.le_of_eq (hidT_size _ _), trivial, fun b hb => by simp [frs] at hb, hok, .of_eq hgen⟩
    refine codeAny_mono ((F _ upK (upN hG) hTab).run callerA [] z H ⟨[.ref a], []⟩ [.ref a] [.ref a] _ _ rfl hr e0 (hbind z (.ref a)) (.cons rfl .nil) (hsp H hH hS)) fun r s' h => ?_
    cases r with
    | error e => exact (hCX H e s' h).elim
    | ok fl =>
      cases fl with
      | next => exact False.elim h
      | brk => exact False.elim h
      | cont => exact False.elim h
      | ret u =>
        obtain ⟨v, H', ho, bare, un, hok', r', q⟩ := h
        replace q : v = .bl true := q
        subst q
        obtain rfl : u = Value.bool true := r'
        have keep : ∀ b o, b ∉ TS → z.heap.get? b = some o → s'.heap.get? b = some o := fun b o nb e => by
          cases q : H b with
          | none => exact un.keep b o e q (by simp [frs]) (by simp)
          | some u =>
            rcases hO b u q with m | ⟨m, _, ob, xs, eu⟩
            · exact absurd m nb
            · subst eu
              have e1 := (hok b _ q).1
              have e2 := (hok' b _ (un.frzs b ob _ q)).1
              rw [e] at e1
              cases e1
              exact e2
        have more : ∀ p ∈ ct, ∃ xs : Array Value, s'.heap.get? p.2 = some { cls := .none, data := .fields xs } := fun p hp => by
          obtain ⟨xs, q⟩ := un.tbls p.2 #[] (hH p hp)
          exact ⟨_, hok' p.2 _ q⟩
        refine ⟨rfl, ⟨fun b o e => ?_, fun b o e => ?_⟩, ho, bare⟩
        · by_cases hb : b ∈ TS
          · obtain ⟨p, hp, rfl⟩ := List.mem_map.mp hb
            obtain ⟨xs, hx⟩ := more p hp
            rw [tab p hp] at e
            cases e
            exact .inr (.inl ⟨((tabC p hp).tab (tab p hp)).isCodeTable, rfl, #[], xs, rfl, by rw [Array.empty_append]; exact hx⟩)
          · exact .inl (keep b o hb e)
        · by_cases hb : b ∈ TS
          · obtain ⟨p, hp, rfl⟩ := List.mem_map.mp hb
            obtain ⟨xs, hx⟩ := more p hp
            exact ⟨_, hx⟩
          · exact ⟨o, keep b o hb e⟩
  let ob : Obj := { cls := .type "list", data := .seq vs.toArray }
  let H : Hp := fun b => if b ∈ TS then some (.tbl #[]) else if b = a ∧ K.lookup a = none then some (.frz ob (.lst (ns.map V.int))) else none
  have H1 : ∀ b, b ∈ TS → H b = some (.tbl #[]) := fun b hb => if_pos hb
  have H2 : ∀ b, b ∉ TS → H b = if b = a ∧ K.lookup a = none then some (.frz ob (.lst (ns.map V.int))) else none := fun b hb => if_neg hb
  refine run H (fun p hp => H1 _ (inT p hp)) (fun b u q => ?_) ?_ fun b u q => ?_
  · by_cases hb : b ∈ TS
    · exact .inl hb
    · rw [H2 b hb] at q
      by_cases hc : b = a ∧ K.lookup a = none
      · rw [if_pos hc] at q
        cases q
        exact .inr ⟨hc.1, hc.2, _, _, rfl⟩
      · rw [if_neg hc] at q
        cases q
  · cases hk : K.lookup a with
    | none => exact .inl (.inr ⟨ob, (H2 a aT).trans (if_pos ⟨rfl, hk⟩)⟩)
    | some o =>
      have e := (hK a o hk).symm.trans ha
      cases e
      exact .inr ⟨_, vs.toArray, _, hk, rfl, rfl, rfl, by rw [List.size_toArray, lenV]; exact hl, by simpa using rv⟩
  · by_cases hb : b ∈ TS
    · rw [H1 b hb] at q
      cases q
      exact tabT b hb
    · rw [H2 b hb] at q
      by_cases hc : b = a ∧ K.lookup a = none
      · rw [if_pos hc] at q
        cases q
        rw [hc.1]
        exact ⟨ha, by rw [List.length_map]; exact hl, vs, _, rv, ha⟩
      · rw [if_neg hc] at q
        cases q
/-- what is known of the law's promise at the head's heap h -/
def LawAtG (l : PySem.W.OpenLaw) (w : World) (K : PySem.W.Frag) (CX : CXT) (k n : Nat) (x : Str) (mg : Str → Option Value) (fa : Addr) (h : Heap) : Prop :=
  ∃ (fd : FuncData) (ct : List (Addr × Addr)) (sp : Sp), ((∀ p ∈ ct, h.get? p.2 = some { cls := .none, data := .fields #[] }) ∧ (∀ p ∈ ct, K.lookup p.2 = none) ∧ (∀ p ∈ ct, PySem.W.CodeHd h p.1 p.2)) ∧ (∀ (s : Shared) (u : Value), BindsTo s fd ⟨[u], []⟩ [(x, u)]) ∧
    (∀ (H : Hp) (a : Addr) (ns : List Int), ns.length ≤ n → (∀ i ∈ ns, Builtin.Int.intBits i ≤ 1048576) → (∀ p ∈ ct, H p.2 = some (.tbl #[])) → SqL K H a (ns.map V.int) → sp [.ref a] H (fun v _ => v = .bl true) fun _ _ _ => False) ∧
    ∀ base : Heap, K.In base → base.Ns mainGlobals mg → (∀ p ∈ ct, TabB base mg p.1 p.2) → FnG l.prog w K mg base CX k fa fd [x] sp
theorem walk_ofG {l : PySem.W.OpenLaw} {n k : Nat} {q : Program} {loose : List Str} {XP : (Str → Option Value) → Heap → Prop} {YP : World → Heap → Prop} {d : DefRec} {K : Params → PySem.W.Frag} {x : Str}
    (hn : l.most = some n) (hn2 : n ≤ sizeLine) (hdf : d.params.defaults = []) (hr : Room k callerA) (hY : ∀ (w : World) (h : Heap), YP w h → (K w.params).In h)
    (F : ∀ (w : World) (mg : Str → Option Value) (fa : Addr) (h : Heap), YP w h → (K w.params).In h → h.Ns mainGlobals mg → mg d.name = some (.ref fa) → LawAtG l w (K w.params) CX0 k n x mg fa h) :
    PySem.W.WalkO q loose XP YP l.row.toRowW d [] (fun f vs => PySem.call f vs) := by
  refine Att.attach_callB hn hdf fun w s₀ s₁ mg mb fa o pm cd doc a vs ns G Y ho hd hcd hmg hobj hints hlen hbits hg => ?_
  have KX := hY w _ Y
  obtain ⟨fd, ct, sp, ⟨t1, t2, t3⟩, hb, hsp, hF⟩ := F w mg fa _ Y KX G.T.g hmg
  exact law_callG KX G.T.g G.T.b G.T.builtins G.T.nolimit hg t1 t2 t3 G.T.bmain hobj hints (Nat.le_trans hlen hn2) hr hF hb (fun H hH hS => hsp H a ns hlen hbits hH hS) fun H e s' z => z
end SP
/-! P6 -/
namespace SP
open PySem PySem.Spec PyProof.Rows L2

/-! ### special methods of an own class -/
section
variable {X : Cx} {pins : List (Addr × Obj)} {σ : L2.St} {H : Hp} {s : Shared} {k : Nat} {f C : Addr} {sp : Sp}
theorem run_at {A : Around} {Ex : Value → Shared → Prop} {us : List Value} {vs : List V} {Q : VK} (F : FnR X.prog X.w X.K X.mg X.base CX0 k f sp) (hr : Room k A) (hA : A.frames = X.A.frames) (I : Inv X pins σ H s) (r : Vals vs us) (h : sp vs H Q E0) :
    wpAny (model X.prog X.w) A (call (.ref f) us) (EP X pins σ Q) Ex s := by
  have e := I.env0
  have e0 : Env0 X.prog X.w X.K X.mg X.base A X.stack s H := ⟨hA.trans e.frames, e.mod, e.bs, e.bsz, e.funs, e.frf, e.hok, e.bare⟩
  refine wpAny_call (codeAny_mono (F A X.stack s H us vs Q E0 hr e0 r h) fun r s' hq => ?_)
  cases r with
  | error e => exact False.elim hq
  | ok fl =>
    cases fl with
    | ret u => exact I.after hq
    | next => exact False.elim hq
    | brk => exact False.elim hq
    | cont => exact False.elim hq
/-- len(x), x an instance of the class at C -/
def rLenO (C : Addr) (sp : Sp) : List V → Hp → VK → Prop := fun xs H Q => ∃ a dx fs, xs = [.ref a] ∧ H a = some (.ins C dx fs) ∧ sp [.ref a] H (fun v H' => ∃ n : Int, v = .int n ∧ 0 ≤ n ∧ n < 2 ^ 63 ∧ Q (.int n) H') E0
theorem call_lenO (F : FnR X.prog X.w X.K X.mg X.base CX0 k f sp) (hr : Room (k + 1) X.A) (hs : PySem.W.findIn X.K (.ref C) "__len__" = some (some (.ref f))) (hf : PySem.W.isFn X.K (.ref f) = true) : CallR X (.builtin "len") (rLenO C sp) := by
  intro pins s σ H xs us Q I r h
  obtain ⟨a, dx, fs, ex, ha, h⟩ := h
  subst ex
  obtain ⟨u, eu, rx⟩ := vals1 r
  subst eu
  cases rx
  obtain ⟨mA, O, _⟩ := ins_get I.hok ha
  obtain ⟨od, J, _⟩ := O.look
  obtain ⟨m, hF⟩ := I.fr
  refine PySem.W.len_K hF I.ok.mod.kin J hs hf (wpAny_mono (run_at (vs := [V.ref a]) F hr.in1 rfl I (.cons rfl .nil) h) (fun v s' q => ?_) fun _ _ z => z)
  obtain ⟨x, H', I', rx, n, en, h0, h1, q⟩ := q
  subst en
  obtain ⟨t, rfl⟩ := rx
  exact ⟨⟨h0, h1⟩, .int n, H', I'.tok _, ⟨_, rfl⟩, q⟩
/-- v in x -/
def rInO (C : Addr) (sp : Sp) : R2 := fun x y H Q => ∃ a dx fs, y = .ref a ∧ H a = some (.ins C dx fs) ∧ sp [.ref a, x] H (fun v H' => ∃ b, v = .bl b ∧ Q (.bl b) H') E0
theorem op_inO (F : FnR X.prog X.w X.K X.mg X.base CX0 k f sp) (hr : Room k X.A) (hs : PySem.W.findIn X.K (.ref C) "__contains__" = some (some (.ref f))) (hf : PySem.W.isFn X.K (.ref f) = true) : OpR X (compareOp .In) (rInO C sp) := by
  intro pins s σ H x y v u Q I rx ry h
  obtain ⟨a, dx, fs, ey, ha, h⟩ := h
  subst ey
  cases ry
  obtain ⟨mA, O, _⟩ := ins_get I.hok ha
  obtain ⟨od, J, _⟩ := O.look
  obtain ⟨m, hF⟩ := I.fr
  refine PySem.W.in_K hF I.ok.mod.kin J hs hf (wpAny_mono (run_at (vs := [V.ref a, x]) F hr rfl I (.cons rfl (.cons rx .nil)) h) (fun v s' q => ?_) fun _ _ z => z)
  obtain ⟨x, H', I', rx, b, eb, q⟩ := q
  subst eb
  cases rx
  exact wpAny_truthy_bool ⟨.bl b, H', I', rfl, q⟩
/-- x == y, y an instance of the same class or an int -/
def rEqO (C : Addr) (sp : Sp) : R2 := fun x y H Q => ∃ a dx fs, x = .ref a ∧ H a = some (.ins C dx fs) ∧ ((∃ b dy gs, y = .ref b ∧ H b = some (.ins C dy gs)) ∨ ∃ n, y = .int n) ∧ sp [.ref a, y] H (fun v H' => ∃ b, v = .bl b ∧ Q (.bl b) H') E0
theorem op_eqO (F : FnR X.prog X.w X.K X.mg X.base CX0 k f sp) (hr : Room k X.A) (hs : PySem.W.findIn X.K (.ref C) "__eq__" = some (some (.ref f))) (hf : PySem.W.isFn X.K (.ref f) = true) (hi : PySem.W.notFirst X.K C (.type "int") = true) : OpR X (compareOp .Eq) (rEqO C sp) := by
  intro pins s σ H x y v u Q I rx ry h
  obtain ⟨a, dx, fs, ex, ha, hy, h⟩ := h
  subst ex
  cases rx
  obtain ⟨mA, O, _⟩ := ins_get I.hok ha
  obtain ⟨od, J, _⟩ := O.look
  obtain ⟨m, hF⟩ := I.fr
  have key : wpAny (model X.prog X.w) X.A (call (.ref f) [.ref a, u]) (PySem.W.CmpBack (EP X pins σ Q)) X.xe s := wpAny_mono (run_at (vs := [V.ref a, y]) (Ex := X.xe) F hr rfl I (.cons rfl (.cons ry .nil)) h) (fun v s' q => by
    obtain ⟨x, H', I', rx, b, eb, q⟩ := q
    subst eb
    cases rx
    exact ⟨.bl b, H', I', rfl, q⟩) fun _ _ z => z
  unfold compareOp
  rcases hy with ⟨b, dy, gs, ey, hb⟩ | ⟨n, ey⟩
  · subst ey
    cases ry
    obtain ⟨mB, O', _⟩ := ins_get I.hok hb
    obtain ⟨od', J', _⟩ := O'.look
    exact PySem.W.cmp_K (op := .Eq) (tb := .ref C) hr.units0 hF I.ok.mod.kin J J'.type (by simp [PySem.W.notFirst]) hs hf key
  · subst ey
    obtain ⟨t, rfl⟩ := ry
    exact PySem.W.cmp_K (op := .Eq) (tb := .type "int") hr.units0 hF I.ok.mod.kin J (PySem.W.Looks.of_pure rfl) hi hs hf key
/-- x != y: no own != -/
theorem ne_entry {prog : Program} {w : World} {K : PySem.W.Frag} {A : Around} {E : Value → Shared → Prop} {s : Shared} {x y : Addr} {ox : Obj} {od : Option Obj} {Q : Fin → Shared → Prop} (X : K.In s.heap) (J : PySem.W.InstAt s.heap x ox C od) (hu : A.units < cLine)
    (hs : PySem.W.findIn K (.ref C) "__eq__" = some (some (.ref f))) (hf : PySem.W.isFn K (.ref f) = true) (hcall : wpAny (model prog w) A (call (.ref f) [.ref x, .ref y]) (fun v s' => ∃ b, v = .bool b ∧ Q (.done (.ret (.bool (!b)))) s') E s) :
    wpAny (model prog w) A (Builtin.«object.__ne__» ⟨[.ref x, .ref y], []⟩) Q E s := by
  obtain ⟨h, g, d, t, os⟩ := s
  unfold Builtin.«object.__ne__»
  repeat (first
    | with_reducible refine wpAny_cRoomFor hu ?_
    | (refine wpAny_bind (m := callSpecialIfBound? (.ref x) (Str.ofString "__eq__") [.ref y])
        (PySem.W.ifBound_K X J hs hf (wpAny_mono hcall (fun v s' hr => by
          obtain ⟨b, rfl, hq⟩ := hr
          repeat (first | exact hq | exact wpAny_pure hq | exact wpAny_truthy_bool hq | (refine wpAny_bind (m := truthy (.bool _)) (wpAny_truthy_bool ?_)) | wp_step)) fun _ _ e => e)))
    | wp_step)
theorem ne_checked {M : Model} {K : PySem.W.Frag} {A : Around} {E : Value → Shared → Prop} {s : Shared} {x : Addr} {y : Value} {ox : Obj} {od : Option Obj} {Q : Unit → Shared → Prop} (X : K.In s.heap) (J : PySem.W.InstAt s.heap x ox C od) (ho : PySem.W.subIn K (.ref C) (.type "object") = some true)
    (hq : Q () s) : wpAny M A (checkBuiltinCall "object.__ne__" ⟨.ref x :: [y], []⟩) Q E s := by
  have ha := F.cmpArgs_ne (.ref x) y
  obtain ⟨h, g, d, t, os⟩ := s
  simp only [checkBuiltinCall, F.cmpKind_ne, F.cmpSplit_ne]
  refine wpAny_bind ?_
  unfold isInstance
  refine wpAny_bind (J.type.here ((PySem.W.looks_subIn X ho).here ?_))
  simp only [Bool.not_true, Bool.false_eq_true, if_false]
  cases hsig : Manifest.signature? "object.__ne__" with
  | none => exact wpAny_pure hq
  | some sig =>
    simp only [argsOk, hsig] at ha
    have h2 : Bind.checkArgs "object.__ne__" sig ⟨.ref x :: [y], []⟩ = pure () := ha
    show wpAny M A (Bind.checkArgs "object.__ne__" sig ⟨.ref x :: [y], []⟩) Q E _
    rw [h2]
    exact wpAny_pure hq
theorem op_neO (F : FnR X.prog X.w X.K X.mg X.base CX0 k f sp) (hr : Room (k + 1) X.A) (hs : PySem.W.findIn X.K (.ref C) "__eq__" = some (some (.ref f))) (hf : PySem.W.isFn X.K (.ref f) = true) (hn : PySem.W.findIn X.K (.ref C) "__ne__" = some (some (.builtin "object.__ne__")))
    (ho : PySem.W.subIn X.K (.ref C) (.type "object") = some true) : OpR X (compareOp .NotEq) (fun x y H Q => ∃ a b dx fs dy gs, x = .ref a ∧ y = .ref b ∧ H a = some (.ins C dx fs) ∧ H b = some (.ins C dy gs) ∧ sp [.ref a, .ref b] H (fun v H' => ∃ b, v = .bl b ∧ Q (.bl (!b)) H') E0) := by
  intro pins s σ H x y v u Q I rx ry h
  obtain ⟨a, b, dx, fs, dy, gs, ex, ey, ha, hb, h⟩ := h
  subst ex ey
  cases rx
  cases ry
  obtain ⟨mA, O, _⟩ := ins_get I.hok ha
  obtain ⟨od, J, _⟩ := O.look
  obtain ⟨mB, O', _⟩ := ins_get I.hok hb
  obtain ⟨od', J', _⟩ := O'.look
  have hu := hr.units
  have key : wpAny (model X.prog X.w) X.A.in1 (call (.ref f) [.ref a, .ref b]) (fun v s' => ∃ b, v = .bool b ∧ EP X pins σ Q (.bool (!b)) s') X.xe s := wpAny_mono (run_at (vs := [V.ref a, V.ref b]) (Ex := X.xe) F hr.in1 rfl I (.cons rfl (.cons rfl .nil)) h) (fun v s' q => by
    obtain ⟨x, H', I', rx, b, eb, q⟩ := q
    subst eb
    cases rx
    exact ⟨b, rfl, .bl (!b), H', I', rfl, q⟩) fun _ _ z => z
  have one : wpAny (model X.prog X.w) X.A (tryCompare (.ref a) "__ne__" (.ref b)) (fun r s' => ∃ v, r = some v ∧ EP X pins σ Q v s') X.xe s := by
    simp only [tryCompare, callSpecialIfBound?, bindSpecialIfBound?]
    refine wpAny_bind (wpAny_holding (wpAny_bind (wpAny_bind (wpAny_bind (J.type.here ((PySem.W.looks_findIn I.kIn hn).here ?_))))))
    simp only [PySem.F.cmp_object.ne.bind]
    have fin : wpAny (model X.prog X.w) X.A (call (.builtin "object.__ne__") ([.ref a] ++ [.ref b])) (fun v s' => EP X pins σ Q v s' ∧ v ≠ .notImplemented) X.xe s := by
      refine wpAny_call (codeAny_call_builtin PySem.F.cmp_object.ne.plain PySem.F.cmpEntry_ne (ne_checked I.kIn J ho (ne_entry I.kIn J (by show X.A.units + 1 < cLine; omega) hs hf (wpAny_mono key (fun v s' hv => ?_) fun _ _ e => e))))
      obtain ⟨b, rfl, hq⟩ := hv
      first | exact ⟨b, rfl, hq, fun z => nomatch z⟩ | exact ⟨b, rfl, wpAny_pure ⟨hq, fun z => nomatch z⟩⟩
    have fin2 : wpAny (model X.prog X.w) X.A (call (.builtin "object.__ne__") ([.ref a] ++ [.ref b]) >>= fun v => pure (some v)) (fun r s' => ∃ v, r = some v ∧ EP X pins σ Q v s' ∧ v ≠ .notImplemented) X.xe s := wpAny_bind (wpAny_mono fin (fun v s' h' => wpAny_pure ⟨v, rfl, h'⟩) fun _ _ h' => h')
    refine wpAny_bind (wpAny_askSetting (wpAny_ite ?_))
    have fin3 : wpAny (model X.prog X.w) X.A (call (.builtin "object.__ne__") ([.ref a] ++ [.ref b]) >>= fun v => pure (some v)) (fun r s' => wpAny (model X.prog X.w) X.A (match r with | some Value.notImplemented => pure none | none => pure none | some v => pure (some v)) (fun r s' => ∃ v, r = some v ∧ EP X pins σ Q v s') X.xe s') X.xe s := wpAny_mono fin2 (fun r s' hq => by
      obtain ⟨v, rfl, h1, h2⟩ := hq
      cases v <;> first | exact absurd rfl h2 | exact wpAny_pure ⟨_, rfl, h1⟩) fun _ _ h' => h'
    split
    · exact wpAny_bind (wpAny_pure (wpAny_pure fin3))
    · exact wpAny_tryCatch (wpAny_bind (wpAny_pure (wpAny_pure fin3)))
  unfold compareOp richCompare
  simp only [oneThing_ref]
  refine wpAny_holding (wpAny_bind (wpAny_cRoomFor hr.units0 ?_))
  rw [cmpInfo_NotEq]
  dsimp only
  refine wpAny_bind (J.type.here (wpAny_bind (J'.type.here ?_)))
  rw [show (Value.ref C != Value.ref C) = false from by simp]
  simp only [Bool.false_eq_true, if_false]
  refine wpAny_bind (wpAny_pure ?_)
  simp only [Bool.false_eq_true, if_false]
  refine wpAny_bind (wpAny_mono one (fun r s' z => ?_) fun _ _ e => e)
  obtain ⟨v, rfl, hq⟩ := z
  exact wpAny_pure hq
end
/-! ### with x as n: body (the body goes on to its end) -/
def tWithO (C : Addr) (spE spX : Sp) (te : TE) (i : Nat) (tb : TS) : TS := fun D σ H => te σ H fun v H1 => ∃ a dx fs, v = .ref a ∧ H1 a = some (.ins C dx fs) ∧
  spE [.ref a] H1 (fun u H2 => tb { nx := fun σ' H3 => ∃ dx fs, H3 a = some (.ins C dx fs) ∧ spX [.ref a, .non, .non, .non] H3 (fun _ H4 => D.nx σ' H4) E0, rt := fun _ _ => False, bk := fun _ _ => False, ct := fun _ _ => False } (σ.set i (some u)) H2) E0
section
variable {X : Cx} {k : Nat} {fe fx C : Addr} {spE spX : Sp}
theorem ps_withO {ctx : Expr} {y : Str} {py pos : Pos} {body : List Stmt} {te : TE} {tb : TS} {i : Nat} (hxe : X.xe = fun _ _ => False) (he : PE X ctx te) (FE : FnR X.prog X.w X.K X.mg X.base CX0 k fe spE) (FX : FnR X.prog X.w X.K X.mg X.base CX0 k fx spX) (hr : Room k X.A)
    (h1 : PySem.W.findIn X.K (.ref C) "__enter__" = some (some (.ref fe))) (h2 : PySem.W.isFn X.K (.ref fe) = true) (h3 : PySem.W.findIn X.K (.ref C) "__exit__" = some (some (.ref fx))) (h4 : PySem.W.isFn X.K (.ref fx) = true)
    (hN : X.N.Nodup) (hi : X.N[i]? = some y) (hl : X.env.scope.names.lookup y = some .local) (hb : PSs X body tb) : PS X (.With [⟨ctx, some (.Name y py)⟩] body pos) (tWithO C spE spX te i tb) := by
  refine ⟨fun pins s σ H D I h => ?_⟩
  refine PySem.W.kw_execN (thn (he.run pins s σ H _ I h) fun v s1 ⟨x, H1, I1, r1, a, dx, fs, ex, ha, q⟩ => ?_)
  subst ex
  cases r1
  obtain ⟨mA, O, _⟩ := ins_get I1.hok ha
  obtain ⟨od, J, _⟩ := O.look
  obtain ⟨m, hF⟩ := I1.fr
  refine PySem.W.kw_inN hF I1.ok.mod.kin J h1 h2 h3 h4 (wpAny_mono (run_at (vs := [V.ref a]) (Ex := X.xe) FE hr rfl I1 (.cons rfl .nil) q) (fun u s2 h => ?_) fun _ _ z => z)
  obtain ⟨w, H2, I2, r2, q2⟩ := h
  refine store_ok I2 hN hi (.inl hl) r2 (fun s3 I3 => ?_) (.inr hl)
  have hb' := hb.run pins s3 _ _ _ I3 q2
  rw [hxe] at hb'
  refine thn hb' fun fl s4 hs => ?_
  cases fl with
  | next =>
    obtain ⟨σ', H4, I4, dx', fs', ha', q4⟩ := hs
    refine thn (run_at (vs := [V.ref a, .non, .non, .non]) (us := [.ref a, .none, .none, .none]) FX hr rfl I4 (.cons rfl (.cons rfl (.cons rfl (.cons rfl .nil)))) q4) fun u5 s5 h5 => ?_
    obtain ⟨v5, H5, I5, r5, q5⟩ := h5
    exact ⟨σ', H5, I5, q5⟩
  | brk =>
    obtain ⟨_, _, _, z⟩ := hs
    exact False.elim z
  | cont =>
    obtain ⟨_, _, _, z⟩ := hs
    exact False.elim z
  | ret u =>
    obtain ⟨_, _, _, _, _, z⟩ := hs
    exact False.elim z
/-! ### o.m(k = e) -/
def tMethK1 (C : Addr) (m : Str) (sp : Sp) (ta te : TE) : TE := fun σ H Q => ta σ H fun x H1 => ∃ a dx fs, x = .ref a ∧ H1 a = some (.ins C dx fs) ∧ fs.lookup m = none ∧ te σ H1 fun v H2 => sp [x, v] H2 Q E0
theorem pe_methK1 {f : Addr} {fd : FuncData} {ps : List Str} {sp : Sp} {pl : Sem Bool} {m kn : Str} {o e : Expr} {kpos apos pos : Pos} {ta te : TE} (he : PE X o ta) (c : Cls X.K C) (hm : Meth X.K C m f) (F : FnOk X.prog X.w X.K X.mg X.base CX0 k f fd ps sp) (hr : Room k X.A)
    (hb : ∀ (s : Shared) (u w : Value), BindsTo s fd ⟨[u], [(kn, w)]⟩ (ps.zip [u, w])) (hv : PE X e te)
    (hall : (backToKw pos (keywordEach [⟨some kn, e, kpos⟩] X.env)).all (·.1.isSome) = true := by rfl) (hks : (backToKw pos (keywordEach [⟨some kn, e, kpos⟩] X.env)).filterMap (·.1) = [kn] := by rfl)
    (hpl : ((backTo pos (starEach [] X.env)).any (·.1) || (backToKw pos (keywordEach [⟨some kn, e, kpos⟩] X.env)).any (·.1.isNone)) = false := by rfl)
    (ht : eval (.Call (.Attribute o m apos) [] [⟨some kn, e, kpos⟩] pos) X.env = (do
      let ov ← eval o X.env
      standAt apos.atName
      let (f, first) ← holding [ov] (getMethod ov m pl)
      callWith pos f first (backTo pos (starEach [] X.env)) (backToKw pos (keywordEach [⟨some kn, e, kpos⟩] X.env))) := by rfl) :
    PE X (.Call (.Attribute o m apos) [] [⟨some kn, e, kpos⟩] pos) (tMethK1 C m sp ta te) := by
  refine ⟨fun pins s σ H Q I h => ?_⟩
  refine PySem.W.methodCall_KW (pl := pl) (thn (he.run pins s σ H _ I h) fun u s1 ⟨x, H1, I1, rx, a, dx, fs, ex, ea, l, q⟩ => ?_) ht
  subst ex
  obtain rfl : u = Value.ref a := rx
  refine getmeth_ok I1 ea c hm l ?_
  refine PySem.W.callWith_KW0 (first := [.ref a]) (h₀ := X.base) I1.ok.mod.kin hm.kp hall ?_ hpl
  have hp := (pk_cons (nm := some kn) (kpos := kpos) hv pk_nil).run pos pins s1 σ H1 (fun vs H2 => match vs with | [v] => sp [.ref a, v] H2 Q E0 | _ => False) I1 q
  refine thn hp fun ws s2 ⟨zs, H2, I2, rz, q2⟩ => ⟨I2.kIn, ?_⟩
  rw [hks]
  obtain ⟨v, rfl⟩ : ∃ v, zs = [v] := by
    match zs, q2 with
    | [v], _ => exact ⟨v, rfl⟩
    | [], q => exact q.elim
    | _ :: _ :: _, q => exact q.elim
  obtain ⟨w, rfl, rw_⟩ := vals1 rz
  replace q2 : sp [.ref a, v] H2 Q E0 := q2
  have hl := F.len _ _ _ _ q2
  refine wpAny_call (codeAny_mono (F.run X.A X.stack s2 H2 ⟨[.ref a], [(kn, w)]⟩ [.ref a, w] [.ref a, v] Q E0 hr I2.env0 (hb s2 (.ref a) w) (.cons rfl (.cons rw_ .nil)) q2) fun r s' hq => ?_)
  cases r with
  | error e => exact False.elim hq
  | ok fl =>
    cases fl with
    | ret u => exact I2.after hq
    | next => exact False.elim hq
    | brk => exact False.elim hq
    | cont => exact False.elim hq
end
end SP
/-! P7 -/
namespace SP
open PySem PySem.Spec PyProof.Rows L2 LamX NdefX

/-! ### x(e, lambda p: body), where the def x calls what it got with one argument -/
abbrev uCx (X : Cx) (Nu : List Str) (x : Str) (sg : Scope) (g : Addr) (cdg : Value) (s : Shared) (H : Hp) : Cx := (cxOf CX0 X.prog X.w X.K X.mg X.base Nu x sg g cdg X.A X.stack s H E0).nox
/-- the lambda's call: its slots are the argument, then the captured ones -/
def tDeed (f c' : Addr) (q : Str) (Nl : List Str) (ws : List (Option V)) (tb : TE) (i : Nat) (te : TE) : TE := fun σ H Q => σ[i]? = some (some (.ref f)) ∧ te σ H fun v H1 => H1 c' = some (CodeO c' q) ∧ tb (startF Nl [v] ws) H1 Q
abbrev lamNF (X : Cx) (params : Arguments) (scope : Scope) (c' : Addr) : NF := ⟨"<lambda>", X.env.qual ++ "<lambda>", params, [], scope, cloFrom X.env.cells scope.names [], c'⟩
section
variable {X : Cx} {pins : List (Addr × Obj)} {σ : L2.St} {H : Hp} {s : Shared}
theorem pe_deed {Nu Nl fr : List Str} {x a pn : Str} {sg : Scope} {g f c' : Addr} {cdg pm ctv : Value} {params : Arguments} {body e : Expr} {scope : Scope} {k i : Nat} {js : List Nat} {te tb : TE} {p1 p2 : Pos}
    (I : Inv X pins σ H s) (cp : Caps X (cloFrom X.env.cells scope.names []) fr js) (S : NScope Nl [pn] fr scope)
    (hf : s.heap.get? f = some (PySem.W.kla_obj "<lambda>" (X.env.qual ++ "<lambda>") params body scope (cloFrom X.env.cells scope.names []) pm c' ctv)) (hfn : H f = none) (hfr : f ∉ frs X.stack)
    (hbind : ∀ (u : Value), bindArgs (PySem.W.kla_fn "<lambda>" (X.env.qual ++ "<lambda>") params body scope (cloFrom X.env.cells scope.names []) pm (.ref c') ctv) ⟨[u], []⟩ = pure [(pn, u)])
    (hr : Room (k + 1) (X.A.deeper (envOfC x sg s.heap.objs.size g cdg)))
    (hbody : ∀ (A : Around) (outer : List Env) (s : Shared) (H : Hp), Room k (A.deeper (envF (lamNF X params scope c') f s.heap.objs.size)) → PE (ncx CX0 X.prog X.w X.K X.mg X.base Nl (lamNF X params scope c') f A outer s H E0) body tb)
    (hN : Nu[i]? = some a) (hv : Vis sg a) (he : PE (uCx X Nu x sg g cdg s H) e te)
    (hd : (a == ("__debug__" : Str)) = false := by decide) (hcd : (a == ("__classdict__" : Str)) = false := by decide)
    (hs : starEach [e] (uCx X Nu x sg g cdg s H).env = (false, eval e (uCx X Nu x sg g cdg s H).env) :: starEach [] (uCx X Nu x sg g cdg s H).env := by rfl) :
    PE (uCx X Nu x sg g cdg s H) (.Call (.Name a p1) [e] [] p2) (tDeed f c' (X.env.qual ++ "<lambda>") Nl (js.map (slotAt σ)) tb i te) := by
  refine ⟨fun pinsZ sZ σZ HZ Q IZ h => ?_⟩
  obtain ⟨hs1, ht⟩ := h
  refine wpAny_Call_Name_kw (thn ((pe_var (pos := p1) (i := i) hN hv hd hcd).run pinsZ sZ σZ HZ (fun v H1 => v = .ref f ∧ H1 = HZ) IZ ⟨.ref f, hs1, rfl, rfl⟩) fun u s1 ⟨v, H1, I1, r1, q1⟩ => ?_)
  obtain ⟨ev, eH⟩ := q1
  subst ev
  rw [eH] at I1
  obtain rfl : u = Value.ref f := r1
  have here : ∀ {σ' : L2.St} {H' : Hp} {s' : Shared}, Inv (uCx X Nu x sg g cdg s H) pinsZ σ' H' s' → s'.heap.get? f = some (PySem.W.kla_obj "<lambda>" (X.env.qual ++ "<lambda>") params body scope (cloFrom X.env.cells scope.names []) pm c' ctv) := fun I' =>
    I'.base.keep f _ hf hfn hfr (fun z => nomatch (show f ∈ ([] : List Addr) from z))
  refine PySem.W.callWith_F (first := []) ⟨_, _, _, _, here I1⟩ (thn ((pa_cons he pa_nil hs).run p2 pinsZ s1 σZ HZ (fun vs H2 => match vs with | [v] => H2 c' = some (CodeO c' (X.env.qual ++ "<lambda>")) ∧ tb (startF Nl [v] (js.map (slotAt σ))) H2 Q | _ => False) I1 ht) fun us s2 ⟨vs, H2, I2, r, q⟩ => ⟨⟨_, _, _, _, here I2⟩, ?_⟩) hs rfl
  obtain ⟨v, rfl⟩ : ∃ v, vs = [v] := by
    match vs, q with
    | [v], _ => exact ⟨v, rfl⟩
    | [], q => exact q.elim
    | _ :: _ :: _, q => exact q.elim
  obtain ⟨w, rfl, rv⟩ := vals1 r
  obtain ⟨hc, q⟩ := q
  have un : Un (frs X.stack) [] H H2 s.heap s2.heap := I2.base
  have C0 := cells_of I cp
  have C : CellsAt (cloFrom X.env.cells scope.names []) fr (js.map (slotAt σ)) s2.heap H2 := by
    have cellK : ∀ {c : Addr} {v : Option Value}, H c = none → s.heap.IsCell c v → s2.heap.IsCell c v := fun {c v} n ⟨o, ho, hd⟩ => by
      obtain ⟨sl, q⟩ := un.any ho n (by simp)
      exact ⟨_, q, hd⟩
    refine ⟨C0.len, fun y c e => ?_, C0.inj, fun i y e => ?_⟩
    · obtain ⟨n, v, z⟩ := C0.all y c e
      obtain ⟨o, ho, _⟩ := id z
      exact ⟨un.free c o ho n (by simp), v, cellK n z⟩
    · obtain ⟨c, hc, hv⟩ := C0.has i y e
      refine ⟨c, hc, fun v ev => ?_⟩
      obtain ⟨u, r, z⟩ := hv v ev
      exact ⟨u, r, cellK (C0.all y c hc).1 z⟩
  have rc : codeAny (model X.prog X.w) (X.A.deeper (envOfC x sg s.heap.objs.size g cdg)) (.call (.ref f) ⟨[w], []⟩) (CR CX0 (envOfC x sg s.heap.objs.size g cdg :: X.stack) X.prog X.w H2 s2 Q E0) s2 := by
    refine PySem.W.kla_callFunE hr.depth (here I2) rfl S.co S.gen rfl (codeO_at I2.hok hc) ?_
    rw [hbind]
    refine wpAny_pure (wpAny_newFunctionEnv S.nocell (fun y hy => ?_) (fun h₁ hns hsb => ⟨I2.nolimit.fresh _ hsb, ?_⟩) S.kind)
    · obtain rfl := List.mem_singleton.mp hy
      exact S.par pn (by simp)
    show codeAny _ _ (.expr body (envF (lamNF X params scope c') f s2.heap.objs.size)) _ _
    have kp : ∀ b o, s2.heap.get? b = some o → h₁.get? b = some o := fun b o e => hsb.extBut b o (Nat.ne_of_lt (Heap.lt_size e)) (Heap.get?_push_of_some _ e)
    have J : Inv (ncx CX0 X.prog X.w X.K X.mg X.base Nl (lamNF X params scope c') f (X.A.deeper (envOfC x sg s.heap.objs.size g cdg)) (envOfC x sg s.heap.objs.size g cdg :: X.stack) s2 H2 E0) [] (startF Nl [v] (js.map (slotAt σ))) H2 { s2 with heap := h₁, toks := s2.toks + ([(pn, w)] : List (Str × Value)).length } :=
      inv_startN (ps := [pn]) (us := [w]) (vs := [v]) S hr.hd I2.env0 rfl (.cons rv .nil) C hns kp
    refine PySem.W.kla_codeExpr (wpAny_mono ((hbody _ _ s2 H2 (hr.deeper _)).run [] _ _ H2 Q J q) (fun v s' hq => ?_) fun e s' hq => hq)
    obtain ⟨w', H', J', rv, q⟩ := hq
    exact ⟨w', H', J'.os, J'.bare, J'.base, J'.hok, rv, q⟩
  refine wpAny_call (codeAny_mono rc fun r s' hq => ?_)
  cases r with
  | error e => exact False.elim hq
  | ok fl =>
    cases fl with
    | ret u => exact I2.after hq
    | next => exact False.elim hq
    | brk => exact False.elim hq
    | cont => exact False.elim hq
end
def tLam2 (T : List (Addr × Str)) (q : Str) (Nu : List Str) (js : List Nat) (tU : Addr → Addr → List (Option V) → TS) (te : TE) : TE := fun σ H Q => te σ H fun v H1 => Tabs T H1 ∧ ∀ (f c' : Addr) (H2 : Hp), ExtN H1 H2 → Tabs T H2 → H2 c' = some (CodeO c' q) →
  tU f c' (js.map (slotAt σ)) { nx := fun _ H' => Q .non H', rt := Q } (L2.start Nu [v, .ref f]) H2
section
variable {X : Cx}
/-- x(e, lambda p: body) -/
theorem pe_lam2 {T : List (Addr × Str)} {x : Str} {g c P : Addr} {k : Nat} {pg : Arguments} {bg : List Stmt} {sg : Scope} {dV kV doc pm cdv ct oc : Value} {an od : Option Addr} {osl : Array (Option Value)} {Nu Nl ps fr : List Str} {js : List Nat} {pn : Str}
    {params : Arguments} {body e : Expr} {scope : Scope} {te tb : TE} {tU : Addr → Addr → List (Option V) → TS} {p lpos pos : Pos} (hg : Gl X x) (hm : X.mg x = some (.ref g)) (hk : PySem.W.keepIn X.K (.ref g) = true)
    (lk : X.K.lookup g = some ⟨oc, od, .func (PySem.W.fnOf x x pg bg sg dV kV doc pm an cdv ct), osl⟩) (hcg : PySem.W.codeIn X.K cdv x = true) (hb : L2.Binds X.K (PySem.W.fnOf x x pg bg sg dV kV doc pm an cdv ct) ps []) (hps : ps.length = 2) (Sg : FnScope Nu ps sg)
    (TB : TabB X.base X.mg c P) (hcode : X.env.code = .ref c) (hmT : (P, X.env.qual ++ "<lambda>") ∈ T) (hu : ∀ p ∈ T, p.1 = P → p.2 = X.env.qual ++ "<lambda>") (hr : Room (k + 2) X.A)
    (hcap : ndefB X.env.scope scope fr = true) (hjs : js.map (fun j => X.N[j]?) = fr.map some) (S : NScope Nl [pn] fr scope) (hdef : defaultsOf params X.env = ([], []))
    (hbind : ∀ (q : Str) (cl : List (Str × Addr)) (pm cv ctv u : Value), bindArgs (PySem.W.kla_fn "<lambda>" q params body scope cl pm cv ctv) ⟨[u], []⟩ = pure [(pn, u)])
    (hbody : ∀ (A : Around) (outer : List Env) (s : Shared) (H : Hp) (f c' : Addr), Room k (A.deeper (envF (lamNF X params scope c') f s.heap.objs.size)) → PE (ncx CX0 X.prog X.w X.K X.mg X.base Nl (lamNF X params scope c') f A outer s H E0) body tb)
    (hU : ∀ (f c' : Addr) (s : Shared) (H : Hp) (ws : List (Option V)), Room (k + 1) (uCx X Nu x sg g cdv s H).A → (∀ {a : Str} {i : Nat} {p1 p2 : Pos} {e : Expr} {te : TE}, Nu[i]? = some a → Vis sg a → PE (uCx X Nu x sg g cdv s H) e te → (a == ("__debug__" : Str)) = false → (a == ("__classdict__" : Str)) = false →
      starEach [e] (uCx X Nu x sg g cdv s H).env = (false, eval e (uCx X Nu x sg g cdv s H).env) :: starEach [] (uCx X Nu x sg g cdv s H).env → PE (uCx X Nu x sg g cdv s H) (.Call (.Name a p1) [e] [] p2) (tDeed f c' (X.env.qual ++ "<lambda>") Nl ws tb i te)) → PSs (uCx X Nu x sg g cdv s H) bg (tU f c' ws))
    (he : PE X e te) (hs : starEach [e, .Lambda params body scope lpos] X.env = (false, eval e X.env) :: starEach [.Lambda params body scope lpos] X.env := by rfl) (hdb : (x == ("__debug__" : Str)) = false := by decide) :
    PE X (.Call (.Name x p) [e, .Lambda params body scope lpos] [] pos) (tLam2 T (X.env.qual ++ "<lambda>") Nu js tU te) := by
  refine ⟨fun pins s σ H Q I h => ?_⟩
  refine wpAny_Call_Name_kw (ld_glob I hg hm ?_ hdb)
  refine PySem.W.callWith_K (h₀ := X.base) I.ok.mod.kin hk ?_ hs (by rfl)
  rw [hs]
  show wpAny _ _ (spliced ((false, eval e X.env) :: backTo pos (starEach [.Lambda params body scope lpos] X.env))) _ _ s
  refine Calls.spliced_cons (thn (he.run pins s σ H _ I h) fun u s1 ⟨v, H1, I1, r1, hT, q⟩ => ?_)
  show wpAny _ _ (spliced ((false, eval (.Lambda params body scope lpos) X.env) :: backTo pos (starEach [] X.env))) _ _ s1
  have hfree : ∀ y ∈ scope.names, y.2 = .free → ∃ c, X.env.cells.lookup y.1 = some c := fun y hy ey => (ndef_free hcap y hy ey).elim (fun z => I.ok.has _ (.inl z)) fun z => I.ok.has _ (.inr z)
  refine Calls.spliced_cons (lam_make2 I1 TB hcode hmT hu hT hdef hfree fun f c' pm' ctv H2 s2 I2 eN T2 hf hfn hfr hco => ?_)
  refine Calls.spliced_nil ⟨I2.kIn, ?_⟩
  have cp : Caps X (cloFrom X.env.cells scope.names []) fr js := .made I2.ok (ndef_free hcap) (ndef_fr hcap) hjs
  have rc : codeAny (model X.prog X.w) X.A (.call (.ref g) ⟨[u, .ref f], []⟩) (CR CX0 X.stack X.prog X.w H2 s2 Q E0) s2 := by
    have hb2 := hb s2 [u, .ref f] I2.kIn (by rw [List.append_nil, hps] <;> rfl)
    rw [List.append_nil] at hb2
    refine run_ofS (N := Nu) (ps := ps) (us := [u, .ref f]) (vs := [v, .ref f]) lk hcg Sg hr I2.env0 hb2 (.cons r1 (.cons rfl .nil)) (by rw [hps] <;> rfl) fun hr' => ?_
    refine ⟨tU f c' (js.map (slotAt σ)), (hU f c' s2 H2 (js.map (slotAt σ)) hr' fun hN hv he hd hcd hs => pe_deed I2 cp S hf hfn hfr (hbind _ _ _ _ _) hr' (fun A outer s H hr2 => hbody A outer s H f c' hr2) hN hv he hd hcd hs).nox, q f c' H2 eN T2 hco⟩
  refine wpAny_call (codeAny_mono rc fun r s' hq => ?_)
  cases r with
  | error e => exact (show False from hq).elim
  | ok fl =>
    cases fl with
    | ret u => exact I2.after hq
    | next => exact False.elim hq
    | brk => exact False.elim hq
    | cont => exact False.elim hq
end
end SP
/-! P8 -/
namespace SP
open PySem PySem.Spec PyProof.Rows L2

/-! ### the readings of a text, whatever rule gives them, in a family of contexts -/
section
variable {ι : Type} (F : ι → Cx)
def wE (e : Expr) : TE := fun σ H Q => ∃ t, (∀ i, PE (F i) e t) ∧ t σ H Q
def wT (e : Expr) : TT := fun σ H Q => ∃ t, (∀ i, PT (F i) e t) ∧ t σ H Q
def wW (e : Expr) : TT := fun σ H Q => ∃ t, (∀ i, PW (F i) e t) ∧ t σ H Q
def wA (es : List Expr) : TA := fun σ H Q => ∃ t, (∀ i, PA (F i) es t) ∧ t σ H Q
def wO (o : Option Expr) : TO := fun σ H Q => ∃ t, (∀ i, PO (F i) o t) ∧ t σ H Q
def wTs (es : List Expr) : TT := fun σ H Q => ∃ t, (∀ i, PTs (F i) es t) ∧ t σ H Q
def wI (tg it : Expr) : TI := fun σ H R => ∃ t, (∀ i, PI (F i) tg it t) ∧ t σ H R
def wG (tg : Expr) : TG := fun v σ H Q => ∃ t, (∀ i, PG (F i) tg t) ∧ t v σ H Q
def wGs (tgs : List Expr) : TGs := fun v σ H Q => ∃ t, (∀ i, PGs (F i) tgs t) ∧ t v σ H Q
def wS (st : Stmt) : TS := fun D σ H => ∃ t, (∀ i, PS (F i) st t) ∧ t D σ H
def wSs (sts : List Stmt) : TS := fun D σ H => ∃ t, (∀ i, PSs (F i) sts t) ∧ t D σ H
variable {F}
theorem wE_ok {e : Expr} (i : ι) : PE (F i) e (wE F e) := ⟨fun pins s σ H Q I ⟨_, h, q⟩ => (h i).run pins s σ H Q I q⟩
theorem wT_ok {e : Expr} (i : ι) : PT (F i) e (wT F e) := ⟨fun pins s σ H Q I ⟨_, h, q⟩ => (h i).run pins s σ H Q I q⟩
theorem wW_ok {e : Expr} (i : ι) : PW (F i) e (wW F e) := ⟨fun w pins s σ H Q I ⟨_, h, q⟩ => (h i).run w pins s σ H Q I q⟩
theorem wA_ok {e : List Expr} (i : ι) : PA (F i) e (wA F e) := ⟨fun pos pins s σ H Q I ⟨_, h, q⟩ => (h i).run pos pins s σ H Q I q⟩
theorem wO_ok {e : Option Expr} (i : ι) : PO (F i) e (wO F e) := ⟨fun pins s σ H Q I ⟨_, h, q⟩ => (h i).run pins s σ H Q I q⟩
theorem wTs_ok {e : List Expr} (i : ι) : PTs (F i) e (wTs F e) := ⟨fun pins s σ H Q I ⟨_, h, q⟩ => (h i).run pins s σ H Q I q⟩
theorem wI_ok {tg e : Expr} (i : ι) : PI (F i) tg e (wI F tg e) := ⟨fun pins s σ H Q I ⟨_, h, q⟩ => (h i).run pins s σ H Q I q⟩
theorem wG_ok {e : Expr} (i : ι) : PG (F i) e (wG F e) := ⟨fun pins s σ H v u Q I r ⟨_, h, q⟩ => (h i).run pins s σ H v u Q I r q⟩
theorem wGs_ok {e : List Expr} (i : ι) : PGs (F i) e (wGs F e) := ⟨fun pins s σ H v u Q I r ⟨_, h, q⟩ => (h i).run pins s σ H v u Q I r q⟩
theorem wS_ok {e : Stmt} (i : ι) : PS (F i) e (wS F e) := ⟨fun pins s σ H Q I ⟨_, h, q⟩ => (h i).run pins s σ H Q I q⟩
theorem wSs_ok {e : List Stmt} (i : ι) : PSs (F i) e (wSs F e) := ⟨fun pins s σ H Q I ⟨_, h, q⟩ => (h i).run pins s σ H Q I q⟩
end
/-- the single context -/
abbrev un (X : Cx) : Unit → Cx := fun _ => X
section
variable {ι : Type} {F : ι → Cx} {K : PySem.W.Frag} {Φ : MP} {ρ ρ1 ρ' : Rho} {e a b c : Expr} {x y z d : Dt} {pos p : Pos}
theorem lE {t : TE} (h : ∀ i, PE (F i) e t) (k : EvD K Φ t ρ d) : EvD K Φ (wE F e) ρ d := fun σ Hd H ex en p Q q => ⟨t, h, k σ Hd H ex en p Q q⟩
theorem lT {t : TT} {b : Bool} (h : ∀ i, PT (F i) e t) (k : EvT K Φ t ρ b) : EvT K Φ (wT F e) ρ b := fun σ Hd H ex en p Q q => ⟨t, h, k σ Hd H ex en p Q q⟩
theorem lW {t : TT} {b : Bool} (h : ∀ i, PW (F i) e t) (k : EvT K Φ t ρ b) : EvT K Φ (wW F e) ρ b := fun σ Hd H ex en p Q q => ⟨t, h, k σ Hd H ex en p Q q⟩
theorem lTs {t : TT} {b : Bool} {es : List Expr} (h : ∀ i, PTs (F i) es t) (k : EvT K Φ t ρ b) : EvT K Φ (wTs F es) ρ b := fun σ Hd H ex en p Q q => ⟨t, h, k σ Hd H ex en p Q q⟩
theorem lA {t : TA} {es : List Expr} {ds : List Dt} (h : ∀ i, PA (F i) es t) (k : EvA K Φ t ρ ds) : EvA K Φ (wA F es) ρ ds := fun σ Hd H ex en p Q q => ⟨t, h, k σ Hd H ex en p Q q⟩
theorem lO {t : TO} {o : Option Expr} {n : Option Int} (h : ∀ i, PO (F i) o t) (k : EvO K Φ t ρ n) : EvO K Φ (wO F o) ρ n := fun σ Hd H ex en p Q q => ⟨t, h, k σ Hd H ex en p Q q⟩
theorem lI {t : TI} {tg : Expr} {ds : List Dt} (h : ∀ i, PI (F i) tg e t) (k : ItD K Φ t ρ ds) : ItD K Φ (wI F tg e) ρ ds := fun σ Hd H ex en p Q q => ⟨t, h, k σ Hd H ex en p Q q⟩
theorem lG {t : TG} {js : List Nat} (h : ∀ i, PG (F i) e t) (k : GvD K t d ρ ρ' js) : GvD K (wG F e) d ρ ρ' js := fun σ Hd H v ex en iv Q q => ⟨t, h, k σ Hd H v ex en iv Q q⟩
theorem lGs {t : TGs} {es : List Expr} {ds : List Dt} {js : List Nat} (h : ∀ i, PGs (F i) es t) (k : GsD K t ds ρ ρ' js) : GsD K (wGs F es) ds ρ ρ' js := fun σ Hd H v ex en iv Q q => ⟨t, h, k σ Hd H v ex en iv Q q⟩
theorem lS {t : TS} {st : Stmt} {o : Out} (h : ∀ i, PS (F i) st t) (k : SvD K Φ t ρ o) : SvD K Φ (wS F st) ρ o := fun σ Hd H ex en p D q => ⟨t, h, k σ Hd H ex en p D q⟩
theorem lSs {t : TS} {sts : List Stmt} {o : Out} (h : ∀ i, PSs (F i) sts t) (k : SvD K Φ t ρ o) : SvD K Φ (wSs F sts) ρ o := fun σ Hd H ex en p D q => ⟨t, h, k σ Hd H ex en p D q⟩

/-! ### expressions -/
theorem x_var {n : Str} (k : Nat) (h : ρ[k]? = some (some d) := by rfl) (hN : ∀ i, (F i).N[k]? = some n := by intro _; rfl) (hv : ∀ i, Vis (F i).env.scope n := by intro _; first | exact Or.inl rfl | exact Or.inr (Or.inl rfl) | exact Or.inr (Or.inr rfl))
    (hd : (n == ("__debug__" : Str)) = false := by decide) (hcd : (n == ("__classdict__" : Str)) = false := by decide) : EvD K Φ (wE F (.Name n pos)) ρ d := lE (fun i => pe_var (hN i) (hv i) hd hcd) (ed_var h)
theorem x_int {n : Int} {j : Nat} : EvD K Φ (wE F (.Constant (.int n) j pos)) ρ (.int n) := lE (fun _ => pe_int) ed_int
theorem x_str {n : Str} {j : Nat} : EvD K Φ (wE F (.Constant (.str n) j pos)) ρ (.str n) := lE (fun _ => pe_str) ed_str
theorem x_bl {n : Bool} {j : Nat} : EvD K Φ (wE F (.Constant (.bool n) j pos)) ρ (.bl n) := lE (fun _ => pe_bl) ed_bl
theorem x_non {j : Nat} : EvD K Φ (wE F (.Constant .none j pos)) ρ .non := lE (fun _ => pe_non) ed_non
theorem x_gint {n : Str} {v : Int} {t : Tok} (hm : ∀ i, (F i).mg n = some (.int v t)) (hg : ∀ i, Gl (F i) n := by intro _; rfl) (hd : (n == ("__debug__" : Str)) = false := by decide) : EvD K Φ (wE F (.Name n pos)) ρ (.int v) := lE (fun i => pe_glob (v := .int v) (hg i) (hm i) ⟨t, rfl⟩ hd) ed_int
theorem x_gstr {n : Str} {v : Str} {t : Tok} (hm : ∀ i, (F i).mg n = some (.str v t)) (hg : ∀ i, Gl (F i) n := by intro _; rfl) (hd : (n == ("__debug__" : Str)) = false := by decide) : EvD K Φ (wE F (.Name n pos)) ρ (.str v) := lE (fun i => pe_glob (v := .str v) (hg i) (hm i) ⟨t, rfl⟩ hd) ed_str
theorem x_ty {n : Str} {T : String} (hm : ∀ i, (F i).mg n = none) (hv : bootBuiltins n = some (.type T)) (hg : ∀ i, Gl (F i) n := by intro _; rfl) (hn : n ≠ "__name__" := by decide) (hd : (n == ("__debug__" : Str)) = false := by decide) : EvD K Φ (wE F (.Name n pos)) ρ (.raw (.ty T)) :=
  lE (fun i => pe_bltn (v := .ty T) (hg i) (hm i) hv rfl hn hd) ed_raw
theorem x_op {op : Operator} {r : R2} (ho : ∀ i, OpR (F i) (binaryOp op) r) (ha : EvD K Φ (wE F a) ρ x) (hb : EvD K Φ (wE F b) ρ y) (hr : RD2 K Φ r x y z) : EvD K Φ (wE F (.BinOp a op b pos)) ρ z := lE (fun i => pe_op (ho i) (wE_ok i) (wE_ok i)) (ed_op ha hb hr)
theorem x_add {m n : Int} (ha : EvD K Φ (wE F a) ρ (.int m)) (hb : EvD K Φ (wE F b) ρ (.int n)) : EvD K Φ (wE F (.BinOp a .Add b pos)) ρ (.int (m + n)) := x_op (fun _ => op_add) ha hb rd_ii
theorem x_sub {m n : Int} (ha : EvD K Φ (wE F a) ρ (.int m)) (hb : EvD K Φ (wE F b) ρ (.int n)) : EvD K Φ (wE F (.BinOp a .Sub b pos)) ρ (.int (m - n)) := x_op (fun _ => op_sub) ha hb rd_ii
theorem x_mul {m n : Int} (ha : EvD K Φ (wE F a) ρ (.int m)) (hb : EvD K Φ (wE F b) ρ (.int n)) (hc : CMul m n) : EvD K Φ (wE F (.BinOp a .Mult b pos)) ρ (.int (m * n)) := x_op (fun _ => op_mul) ha hb (rd_iic hc)
theorem x_mod {m n : Int} (ha : EvD K Φ (wE F a) ρ (.int m)) (hb : EvD K Φ (wE F b) ρ (.int n)) (hc : 0 < n) : EvD K Φ (wE F (.BinOp a .Mod b pos)) ρ (.int (m % n)) := x_op (fun _ => op_mod) ha hb (rd_iic hc)
theorem x_fdiv {m n : Int} (ha : EvD K Φ (wE F a) ρ (.int m)) (hb : EvD K Φ (wE F b) ρ (.int n)) (hc : CDiv m n) : EvD K Φ (wE F (.BinOp a .FloorDiv b pos)) ρ (.int (m / n)) := x_op (fun _ => op_fdiv) ha hb (rd_iic hc)
theorem x_cat {xs ys : List Dt} (ha : EvD K Φ (wE F a) ρ (.lst xs)) (hb : EvD K Φ (wE F b) ρ (.lst ys)) (hl : xs.length + ys.length ≤ 100000) : EvD K Φ (wE F (.BinOp a .Add b pos)) ρ (.lst (xs ++ ys)) := x_op (fun _ => op_cat) ha hb (rd_cat hl)
theorem x_rep {n : Nat} (ha : EvD K Φ (wE F a) ρ (.lst [x])) (hb : EvD K Φ (wE F b) ρ (.int (n : Int))) (hl : n ≤ 100000) : EvD K Φ (wE F (.BinOp a .Mult b pos)) ρ (.lst (List.replicate n x)) := x_op (fun _ => op_rep) ha hb (rd_rep1 hl)
theorem x_cmp {op : CmpOp} {r : R2} (ho : ∀ i, OpR (F i) (compareOp op) r) (ha : EvD K Φ (wE F a) ρ x) (hb : EvD K Φ (wE F b) ρ y) (hr : RD2 K Φ r x y z) (hm : behindInMarks op b = false) : EvD K Φ (wE F (.Compare a [op] [b] pos)) ρ z := lE (fun i => pe_cmpR (ho i) (wE_ok i) (wE_ok i) hm) (ed_op ha hb hr)
theorem t_cmp {op : CmpOp} {r : R2} {k : Bool} (ho : ∀ i, OpR (F i) (compareOp op) r) (ha : EvD K Φ (wE F a) ρ x) (hb : EvD K Φ (wE F b) ρ y) (hr : RD2 K Φ r x y (.bl k)) (hm : behindInMarks op b = false) : EvT K Φ (wT F (.Compare a [op] [b] pos)) ρ k := lT (fun i => pt_cmpR (ho i) (wE_ok i) (wE_ok i) hm) (et_test (ed_op ha hb hr))
theorem x_chain {op op' : CmpOp} {r r' : R2} {k j : Bool} (ho : ∀ i, OpR (F i) (compareOp op) r) (ho' : ∀ i, OpR (F i) (compareOp op') r') (ha : EvD K Φ (wE F a) ρ x) (hb : EvD K Φ (wE F b) ρ y) (hc : EvD K Φ (wE F c) ρ z) (h1 : RD2 K Φ r x y (.bl k)) (h2 : RD2 K Φ r' y z (.bl j))
    (hm : lastMarks [op, op'] [b, c] = false := by with_unfolding_all rfl) : EvD K Φ (wE F (.Compare a [op, op'] [b, c] pos)) ρ (.bl (k && j)) := lE (fun i => pe_chain (ho i) (ho' i) (wE_ok i) (wE_ok i) (wE_ok i) hm) (ed_chain ha hb (fun _ => hc) h1 fun _ => h2)
theorem t_chain {op op' : CmpOp} {r r' : R2} {k j : Bool} (ho : ∀ i, OpR (F i) (compareOp op) r) (ho' : ∀ i, OpR (F i) (compareOp op') r') (ha : EvD K Φ (wE F a) ρ x) (hb : EvD K Φ (wE F b) ρ y) (hc : EvD K Φ (wE F c) ρ z) (h1 : RD2 K Φ r x y (.bl k)) (h2 : RD2 K Φ r' y z (.bl j))
    (hm : lastMarks [op, op'] [b, c] = false := by with_unfolding_all rfl) : EvT K Φ (wT F (.Compare a [op, op'] [b, c] pos)) ρ (k && j) := lT (fun i => pt_chain (ho i) (ho' i) (wE_ok i) (wE_ok i) (wE_ok i) hm) (et_test (ed_chain ha hb (fun _ => hc) h1 fun _ => h2))
theorem x_bo1 {op : BoolOp} (ha : EvD K Φ (wE F a) ρ x) : EvD K Φ (wE F (.BoolOp op [a] pos)) ρ x := lE (fun i => pe_one (wE_ok i)) ha
theorem x_and {k j : Bool} {rest : List Expr} (ha : EvD K Φ (wE F a) ρ (.bl k)) (hb : k = true → EvD K Φ (wE F (.BoolOp .And (b :: rest) pos)) ρ (.bl j)) : EvD K Φ (wE F (.BoolOp .And (a :: b :: rest) pos)) ρ (.bl (k && j)) := lE (fun i => pe_and (wE_ok i) (wE_ok i)) (ed_and ha hb)
theorem x_or {k j : Bool} {rest : List Expr} (ha : EvD K Φ (wE F a) ρ (.bl k)) (hb : k = false → EvD K Φ (wE F (.BoolOp .Or (b :: rest) pos)) ρ (.bl j)) : EvD K Φ (wE F (.BoolOp .Or (a :: b :: rest) pos)) ρ (.bl (k || j)) := lE (fun i => pe_or (wE_ok i) (wE_ok i)) (ed_or ha hb)
theorem x_not {k : Bool} (ha : EvD K Φ (wE F a) ρ (.bl k)) : EvD K Φ (wE F (.UnaryOp .Not a pos)) ρ (.bl (!k)) := lE (fun i => pe_not (wE_ok i)) (ed_not ha)
theorem t_val {k : Bool} (ha : EvD K Φ (wE F a) ρ (.bl k)) (he : ∀ i whole, isTrue a (F i).env whole = (do let v ← whole; standAt a.pos; holding [v] (truthy v)) := by intro _ _; rfl) : EvT K Φ (wT F a) ρ k := lT (fun i => pt_val (wE_ok i) (he i)) (et_B ha)
theorem t_not {k : Bool} (ha : EvT K Φ (wT F a) ρ k) : EvT K Φ (wT F (.UnaryOp .Not a pos)) ρ (!k) := lT (fun i => pt_not (wT_ok i)) (et_not ha)
theorem t_w {k : Bool} (h : EvT K Φ (wW F e) ρ k) : EvT K Φ (wT F e) ρ k := lT (fun i => (wW_ok i).pt) h
theorem w_and1 {k : Bool} (ha : EvT K Φ (wT F a) ρ k) : EvT K Φ (wW F (.BoolOp .And [a] pos)) ρ k := lW (fun i => pw_and1 (wT_ok i)) ha
theorem w_or1 {k : Bool} (ha : EvT K Φ (wT F a) ρ k) : EvT K Φ (wW F (.BoolOp .Or [a] pos)) ρ k := lW (fun i => pw_or1 (wT_ok i)) ha
theorem w_and {k j : Bool} {rest : List Expr} (ha : EvT K Φ (wT F a) ρ k) (hb : k = true → EvT K Φ (wW F (.BoolOp .And (b :: rest) pos)) ρ j) : EvT K Φ (wW F (.BoolOp .And (a :: b :: rest) pos)) ρ (k && j) := lW (fun i => pw_and (wT_ok i) (wW_ok i)) (et_and ha hb)
theorem w_or {k j : Bool} {rest : List Expr} (ha : EvT K Φ (wT F a) ρ k) (hb : k = false → EvT K Φ (wW F (.BoolOp .Or (b :: rest) pos)) ρ j) : EvT K Φ (wW F (.BoolOp .Or (a :: b :: rest) pos)) ρ (k || j) := lW (fun i => pw_or (wT_ok i) (wW_ok i)) (et_or ha hb)
theorem x_if {k : Bool} (hc : EvT K Φ (wT F c) ρ k) (h1 : k = true → EvD K Φ (wE F a) ρ x) (h2 : k = false → EvD K Φ (wE F b) ρ x) : EvD K Φ (wE F (.IfExp c a b pos)) ρ x := lE (fun i => pe_ifExp (wT_ok i) (wE_ok i) (wE_ok i)) (ed_if hc h1 h2)

/-! ### arguments, displays, subscripts, calls -/
theorem a_nil : EvA K Φ (wA F []) ρ [] := lA (fun _ => pa_nil) ea_nil
theorem a_cons {es : List Expr} {ds : List Dt} (h : EvD K Φ (wE F e) ρ d) (hr : EvA K Φ (wA F es) ρ ds) (hs : ∀ i, starEach (e :: es) (F i).env = (false, eval e (F i).env) :: starEach es (F i).env := by intro _; rfl) : EvA K Φ (wA F (e :: es)) ρ (d :: ds) :=
  lA (fun i => pa_cons (wE_ok i) (wA_ok i) (hs i)) (ea_cons h hr)
theorem a_one (h : EvD K Φ (wE F e) ρ d) (hs : ∀ i, starEach [e] (F i).env = (false, eval e (F i).env) :: starEach [] (F i).env := by intro _; rfl) : EvA K Φ (wA F [e]) ρ [d] := a_cons h a_nil hs
theorem a_two (h : EvD K Φ (wE F a) ρ x) (h' : EvD K Φ (wE F b) ρ y) (hs : ∀ i, starEach [a, b] (F i).env = (false, eval a (F i).env) :: starEach [b] (F i).env := by intro _; rfl) (hs' : ∀ i, starEach [b] (F i).env = (false, eval b (F i).env) :: starEach [] (F i).env := by intro _; rfl) : EvA K Φ (wA F [a, b]) ρ [x, y] := a_cons h (a_one h' hs') hs
theorem x_tup {es : List Expr} {ds : List Dt} {x1} (h : EvA K Φ (wA F es) ρ ds) (hl : ds.length ≤ 100000 := by first | decide | exact Nat.le_of_ble_eq_true rfl) : EvD K Φ (wE F (.Tuple es x1 pos)) ρ (.tup ds) := lE (fun i => pe_tup (wA_ok i)) (ed_tup h hl)
theorem x_tux {es : List Expr} {ds : List Dt} {x1} (h : EvA K Φ (wA F es) ρ ds) (hl : ds.length ≤ 100000 := by first | decide | exact Nat.le_of_ble_eq_true rfl) : EvD K Φ (wE F (.Tuple es x1 pos)) ρ (.tux ds) := lE (fun i => pe_tupX (wA_ok i)) (ed_tux h hl)
theorem x_lst {es : List Expr} {ds : List Dt} (h : EvA K Φ (wA F es) ρ ds) (hl : ds.length ≤ 100000 := by first | decide | exact Nat.le_of_ble_eq_true rfl) : EvD K Φ (wE F (.List es pos)) ρ (.lst ds) := lE (fun i => pe_lst (wA_ok i)) (ed_lst h hl)
theorem kT (hK : ∀ i, (F i).K = K) (i : ι) : IxR (F i) (rIxT K) := by have := ix_tup (X := F i); rwa [hK i] at this
theorem kL (hK : ∀ i, (F i).K = K) (i : ι) : IxR (F i) (rIxL K) := by have := ix_list (X := F i); rwa [hK i] at this
theorem x_ixT {xs : List Dt} {j : Int} {k : Bool} (n : Nat) (ha : EvD K Φ (wE F a) ρ (.tp k xs)) (hb : EvD K Φ (wE F b) ρ (.int j)) (hj : j = (n : Int)) (h : xs[n]? = some d) (hs : PlainIx b := by exact fun _ _ => rfl) (hK : ∀ i, (F i).K = K := by intro _; rfl) : EvD K Φ (wE F (.Subscript a b pos)) ρ d :=
  lE (fun i => pe_ix (kT hK i) (wE_ok i) (wE_ok i) hs) (ed_op ha hb (rd_ixT n hj h))
theorem x_ixL {xs : List Dt} {j : Int} (n : Nat) (ha : EvD K Φ (wE F a) ρ (.lst xs)) (hb : EvD K Φ (wE F b) ρ (.int j)) (hj : j = (n : Int)) (h : xs[n]? = some d) (hs : PlainIx b := by exact fun _ _ => rfl) (hK : ∀ i, (F i).K = K := by intro _; rfl) : EvD K Φ (wE F (.Subscript a b pos)) ρ d :=
  lE (fun i => pe_ix (kL hK i) (wE_ok i) (wE_ok i) hs) (ed_op ha hb (rd_ixL n hj h))
theorem x_ixS {w : Str} {j : Int} {cp : Nat} (n : Nat) (ha : EvD K Φ (wE F a) ρ (.str w)) (hb : EvD K Φ (wE F b) ρ (.int j)) (hj : j = (n : Int)) (h : w.cps.toList[n]? = some cp) (hl : w.length ≤ 100000) (hs : PlainIx b := by exact fun _ _ => rfl) : EvD K Φ (wE F (.Subscript a b pos)) ρ (.str ⟨#[cp]⟩) :=
  lE (fun i => pe_ix ix_str (wE_ok i) (wE_ok i) hs) (ed_op ha hb (rd_ixS n hj hl h))
theorem o_none : EvO K Φ (wO F none) ρ none := lO (fun _ => po_none) eo_none
theorem o_some {n : Int} (h : EvD K Φ (wE F e) ρ (.int n)) : EvO K Φ (wO F (some e)) ρ (some n) := lO (fun i => po_some (wE_ok i)) (eo_some h)
variable {lo hi : Option Expr} {l u : Option Int} {p2 : Pos}
theorem x_slL {xs : List Dt} (h : EvD K Φ (wE F e) ρ (.lst xs)) (h1 : EvO K Φ (wO F lo) ρ l) (h2 : EvO K Φ (wO F hi) ρ u) (hK : ∀ i, (F i).K = K := by intro _; rfl) : EvD K Φ (wE F (.Subscript e (.Slice lo hi none p2) pos)) ρ (.lst (cutD xs l u)) :=
  lE (fun i => pe_slice (by have := sl_list (X := F i); rwa [hK i] at this) (wE_ok i) (wO_ok i) (wO_ok i)) (ed_slL h h1 h2)
theorem x_slT {xs : List Dt} {k : Bool} (h : EvD K Φ (wE F e) ρ (.tp k xs)) (h1 : EvO K Φ (wO F lo) ρ l) (h2 : EvO K Φ (wO F hi) ρ u) (hK : ∀ i, (F i).K = K := by intro _; rfl) : EvD K Φ (wE F (.Subscript e (.Slice lo hi none p2) pos)) ρ (.tup (cutD xs l u)) :=
  lE (fun i => pe_slice (by have := sl_tupA (X := F i); rwa [hK i] at this) (wE_ok i) (wO_ok i) (wO_ok i)) (ed_slT h h1 h2)
theorem x_slX {xs : List Dt} (h : EvD K Φ (wE F e) ρ (.tux xs)) (h1 : EvO K Φ (wO F lo) ρ l) (h2 : EvO K Φ (wO F hi) ρ u) : EvD K Φ (wE F (.Subscript e (.Slice lo hi none p2) pos)) ρ (.tux (cutD xs l u)) :=
  lE (fun i => pe_slice sl_tupX (wE_ok i) (wO_ok i) (wO_ok i)) (ed_slX h h1 h2)
theorem x_slS {w : Str} (h : EvD K Φ (wE F e) ρ (.str w)) (h1 : EvO K Φ (wO F lo) ρ l) (h2 : EvO K Φ (wO F hi) ρ u) (hl : w.length ≤ 100000) : EvD K Φ (wE F (.Subscript e (.Slice lo hi none p2) pos)) ρ (.str (cutS w l u)) :=
  lE (fun i => pe_slice sl_str (wE_ok i) (wO_ok i) (wO_ok i)) (ed_slS h h1 h2 hl)
variable {es : List Expr} {ds : List Dt} {n : Str}
/-- a built-in function -/
theorem x_cb {id : String} {r : List V → Hp → VK → Prop} (hc : ∀ i, CallR (F i) (.builtin id) r) (hv : bootBuiltins n = some (.builtin id)) (hm : ∀ i, (F i).mg n = none) (ha : EvA K Φ (wA F (e :: es)) ρ ds) (hr : RDC K Φ r ds z) (hg : ∀ i, Gl (F i) n := by intro _; rfl) (hn : n ≠ "__name__" := by decide) (hdb : (n == ("__debug__" : Str)) = false := by decide)
    (he : ∀ i, starEach (e :: es) (F i).env = (false, eval e (F i).env) :: starEach es (F i).env := by intro _; rfl) (hpl : ∀ i, (backTo pos (starEach es (F i).env)).any (·.1) = false := by intro _; rfl) : EvD K Φ (wE F (.Call (.Name n p) (e :: es) [] pos)) ρ z :=
  lE (fun i => pe_callB (hc i) (hg i) (hm i) hv (wA_ok i) hn hdb (he i) (hpl i)) (ed_cb ha hr)
/-- a built-in class -/
theorem x_ct {T : String} {r : List V → Hp → VK → Prop} (hc : ∀ i, CallR (F i) (.type T) r) (hv : bootBuiltins n = some (.type T)) (hm : ∀ i, (F i).mg n = none) (ha : EvA K Φ (wA F (e :: es)) ρ ds) (hr : RDC K Φ r ds z) (hg : ∀ i, Gl (F i) n := by intro _; rfl) (hn : n ≠ "__name__" := by decide) (hdb : (n == ("__debug__" : Str)) = false := by decide)
    (he : ∀ i, starEach (e :: es) (F i).env = (false, eval e (F i).env) :: starEach es (F i).env := by intro _; rfl) (hpl : ∀ i, (backTo pos (starEach es (F i).env)).any (·.1) = false := by intro _; rfl) : EvD K Φ (wE F (.Call (.Name n p) (e :: es) [] pos)) ρ z :=
  lE (fun i => pe_callTy (hc i) (hg i) (hm i) hv (wA_ok i) hn hdb (he i) (hpl i)) (ed_cb ha hr)
/-- a def that the module's name holds, with its promise -/
structure Callee (P : Program) (w : World) (K : PySem.W.Frag) (mg : Str → Option Value) (base : Heap) (n : Str) (k : Nat) (ps : List Str) (sp : Sp) : Prop where
  ex : ∃ f fd, mg n = some (.ref f) ∧ PySem.W.keepIn K (.ref f) = true ∧ Binds K fd ps [] ∧ FnOk P w K mg base CX0 k f fd ps sp
abbrev Cal (X : Cx) (n : Str) (k : Nat) (ps : List Str) (sp : Sp) : Prop := Callee X.prog X.w X.K X.mg X.base n k ps sp
/-- the call as a rule (the callee may differ from context to context) -/
theorem pe_cal {X : Cx} {k j : Nat} {ps : List Str} {sp : Sp} {t : TA} (c : Cal X n k ps sp) (hr : Room j X.A) (hkj : k ≤ j) (ha : PA X (e :: es) t) (hg : Gl X n := by rfl) (hdb : (n == ("__debug__" : Str)) = false := by decide)
    (he : starEach (e :: es) X.env = (false, eval e X.env) :: starEach es X.env := by rfl) (hpl : (backTo pos (starEach es X.env)).any (·.1) = false := by rfl) : PE X (.Call (.Name n p) (e :: es) [] pos) (tCall sp [] E0 t) := by
  obtain ⟨f, fd, h1, h2, h3, h4⟩ := c.ex
  exact pe_call h4 (hr.mono hkj) hg h1 h2 h3 .nil pass0 ha hdb he hpl
theorem x_call {k j : Nat} {ps : List Str} {R : List Dt → Dt → Prop} (c : ∀ i, Cal (F i) n k ps (spD K R)) (hr : ∀ i, Room j (F i).A) (ha : EvA K Φ (wA F (e :: es)) ρ ds) (hR : R ds z) (hkj : k ≤ j := by decide) (hg : ∀ i, Gl (F i) n := by intro _; rfl) (hdb : (n == ("__debug__" : Str)) = false := by decide)
    (he : ∀ i, starEach (e :: es) (F i).env = (false, eval e (F i).env) :: starEach es (F i).env := by intro _; rfl) (hpl : ∀ i, (backTo pos (starEach es (F i).env)).any (·.1) = false := by intro _; rfl) : EvD K Φ (wE F (.Call (.Name n p) (e :: es) [] pos)) ρ z :=
  lE (fun i => pe_cal (c i) (hr i) hkj (wA_ok i) (hg i) hdb (he i) (hpl i)) (ed_call ha hR)
end
end SP
/-! P9 -/
namespace SP
open PySem PySem.Spec PyProof.Rows L2
section
variable {ι : Type} {F : ι → Cx} {K : PySem.W.Frag} {Φ : MP} {ρ ρ1 ρ' : Rho} {e a b c : Expr} {x y z d : Dt} {pos p : Pos}
/-! ### what is walked -/
variable {tg : Expr} {ds : List Dt}
theorem i_tup {k : Bool} (h : EvD K Φ (wE F e) ρ (.tp k ds)) (hK : ∀ i, (F i).K = K := by intro _; rfl) : ItD K Φ (wI F tg e) ρ ds := lI (fun i => by have := pi_tup (tg := tg) (wE_ok (F := F) (e := e) i); rwa [hK i] at this) (it_tup h)
theorem i_lst (h : EvD K Φ (wE F e) ρ (.lst ds)) (hK : ∀ i, (F i).K = K := by intro _; rfl) : ItD K Φ (wI F tg e) ρ ds := lI (fun i => by have := pi_list (tg := tg) (wE_ok (F := F) (e := e) i); rwa [hK i] at this) (it_lst h)
theorem i_str {w : Str} (h : EvD K Φ (wE F e) ρ (.str w)) : ItD K Φ (wI F tg e) ρ (w.cps.toList.map fun c => .str (sg c)) := lI (fun i => pi_str (wE_ok i)) (it_str h)
theorem i_rng {n : Int} (hm : ∀ i, (F i).mg "range" = none) (h : EvA K Φ (wA F [a]) ρ [.int n]) (hn : -(2 ^ 62) ≤ n ∧ n < 2 ^ 62) (hg : ∀ i, Gl (F i) "range" := by intro _; rfl) (hs : ∀ i, starEach [a] (F i).env = [(false, eval a (F i).env)] := by intro _; rfl) : ItD K Φ (wI F tg (.Call (.Name "range" p) [a] [] pos)) ρ ((List.range n.toNat).map fun (k : Nat) => Dt.int (k : Int)) :=
  lI (fun i => pi_range1 (hg i) (hm i) (wA_ok i) (hs i)) (it_rng h hn)
theorem i_en {kk : Nat} {tpos : Pos} {elts : List Expr} (hm : ∀ i, (F i).mg "enumerate" = none) (h : EvA K Φ (wA F [a]) ρ [x]) (hs : SrcD x ds) (hg : ∀ i, Gl (F i) "enumerate" := by intro _; rfl) (hst : ∀ i, starEach [a] (F i).env = [(false, eval a (F i).env)] := by intro _; rfl) : ItD K Φ (wI F (.Tuple elts kk tpos) (.Call (.Name "enumerate" p) [a] [] pos)) ρ (ds.zipIdx.map numD) :=
  lI (fun i => pi_enG (hg i) (hm i) (wA_ok i) (hst i)) (it_en h hs)
theorem i_zp {kk : Nat} {tpos : Pos} {elts : List Expr} {fs : List Dt} (hm : ∀ i, (F i).mg "zip" = none) (h : EvA K Φ (wA F [a, b]) ρ [x, y]) (hs : SrcD x ds) (hs2 : SrcD y fs) (hg : ∀ i, Gl (F i) "zip" := by intro _; rfl)
    (hst : ∀ i, starEach [a, b] (F i).env = (false, eval a (F i).env) :: starEach [b] (F i).env := by intro _; rfl) (hpl : ∀ i, (backTo pos (starEach [b] (F i).env)).any (·.1) = false := by intro _; rfl) : ItD K Φ (wI F (.Tuple elts kk tpos) (.Call (.Name "zip" p) [a, b] [] pos)) ρ ((ds.zip fs).map pairD) :=
  lI (fun i => pi_zpG (hg i) (hm i) (wA_ok i) (hst i) (hpl i)) (it_zp h hs hs2)
/-! ### targets -/
variable {n : Str} {js ks : List Nat}
theorem g_name (k : Nat) (hN : ∀ i, (F i).N.Nodup) (hi : ∀ i, (F i).N[k]? = some n := by intro _; rfl) (hx : ∀ i, Loc (F i).env.scope n := by intro _; first | exact Or.inl rfl | exact Or.inr rfl)
    (hf : ∀ i, (F i).fn n = true ∨ (F i).env.scope.names.lookup n = some .local := by intro _; first | exact .inl rfl | exact .inr rfl) : GvD K (wG F (.Name n pos)) d ρ (ρ.set k (some d)) [k] := lG (fun i => pg_name (hN i) (hi i) (hx i) (hf i)) gv_name
theorem g_nil : GsD K (wGs F []) [] ρ ρ [] := lGs (fun _ => pgs_nil) gs_nil
theorem g_cons {es : List Expr} (h : GvD K (wG F e) d ρ ρ1 js) (k : GsD K (wGs F es) ds ρ1 ρ' ks) (hs : ∀ i, (assignEach (e :: es) (F i).env).map (·.2) = assign e (F i).env :: (assignEach es (F i).env).map (·.2) := by intro _; rfl) : GsD K (wGs F (e :: es)) (d :: ds) ρ ρ' (js ++ ks) :=
  lGs (fun i => pgs_cons (wG_ok i) (wGs_ok i) (hs i)) (gs_cons h k)
theorem g_tup {es : List Expr} {k m : Nat} {w : Bool} (h : GsD K (wGs F es) ds ρ ρ' js) (hn : ∀ i, (assignEach es (F i).env).length = m := by intro _; rfl) (hd : ds.length = m := by rfl) (hst : ∀ i, (assignEach es (F i).env).findIdx? (·.1) = none := by intro _; rfl) (hc : ∀ i, (F i).calm = true := by intro _; rfl) (hK : ∀ i, (F i).K = K := by intro _; rfl) :
    GvD K (wG F (.Tuple es k pos)) (.tp w ds) ρ ρ' js := lG (fun i => by have := pg_tup (k := k) (pos := pos) (hc i) (wGs_ok (F := F) (e := es) i) (hn i) (hst i); rwa [hK i] at this) (gv_tup h hd)
theorem g_two {k1 k2 : Nat} {m : Str} {w : Bool} {d1 d2 : Dt} {kk : Nat} {q1 q2 : Pos} (hN : ∀ i, (F i).N.Nodup) (h1 : ∀ i, (F i).N[k1]? = some n := by intro _; rfl) (h2 : ∀ i, (F i).N[k2]? = some m := by intro _; rfl) (hx : ∀ i, Loc (F i).env.scope n := by intro _; first | exact Or.inl rfl | exact Or.inr rfl) (hy : ∀ i, Loc (F i).env.scope m := by intro _; first | exact Or.inl rfl | exact Or.inr rfl)
    (hf : ∀ i, (F i).fn n = true ∨ (F i).env.scope.names.lookup n = some .local := by intro _; first | exact .inl rfl | exact .inr rfl) (hf2 : ∀ i, (F i).fn m = true ∨ (F i).env.scope.names.lookup m = some .local := by intro _; first | exact .inl rfl | exact .inr rfl) (hc : ∀ i, (F i).calm = true := by intro _; rfl) (hK : ∀ i, (F i).K = K := by intro _; rfl) :
    GvD K (wG F (.Tuple [.Name n q1, .Name m q2] kk pos)) (.tp w [d1, d2]) ρ ((ρ.set k1 (some d1)).set k2 (some d2)) [k1, k2] :=
  g_tup (g_cons (g_name k1 hN h1 hx hf) (g_cons (g_name k2 hN h2 hy hf2) g_nil (fun _ => rfl)) (fun _ => rfl)) (fun _ => rfl) rfl (fun _ => rfl) hc hK
/-! ### comprehensions -/
abbrev blkF (X : Cx) (scope : Scope) : (Shared × Hp × Addr × List (Str × Addr) × List Addr) → Cx := fun i => X.blk i.1 i.2.1 scope (compEnvC scope i.2.2.2.1 i.2.2.1 X.env) i.2.2.2.2
theorem x_lc {X : Cx} {α : Type} {elt iter : Expr} {ifs : List Expr} {scope : Scope} {N ps : List Str} {sc : Scope} (S : FnScope N ps sc) (own : List (Str × Nat)) (l : List α) (enc : α → Dt) (f : α → Bool) (v : α → Dt) (hi : ItD K Φ (wI (un X) tg iter) ρ (l.map enc)) (hn : l.length ≤ 100000)
    (hs : ∀ a, a ∈ l → ∃ ρ1 js, GvD K (wG (blkF X scope) tg) (enc a) (wipeD ρ (own.map (·.2))) ρ1 js ∧ (∀ j ∈ js, j ∈ own.map (·.2)) ∧ EvT K Φ (wTs (blkF X scope) ifs) ρ1 (f a) ∧ (f a = true → EvD K Φ (wE (blkF X scope) elt) ρ1 (v a)))
    (hK : X.K = K := by rfl) (hX : X.N = N := by rfl) (hS : X.env.scope = sc := by rfl) (ok : BlkOk N sc scope own := by exact blkOk_by (by decide +kernel)) (hc : X.calm = true := by rfl) (hf : ∀ x, foldedSetIterable iter X.env x = pure x := by intro _; rfl) : EvD K Φ (wE (un X) (.ListComp elt [⟨tg, iter, ifs, 0⟩] scope pos)) ρ (.lst ((l.filter f).map v)) := by
  subst hK hX hS
  exact lE (fun _ => pe_lc hc S.nd (wI_ok ()) ok (fun s H C cl fp => wG_ok (F := blkF X scope) (s, H, C, cl, fp)) (fun s H C cl fp => wTs_ok (F := blkF X scope) (s, H, C, cl, fp)) (fun s H C cl fp => wE_ok (F := blkF X scope) (s, H, C, cl, fp)) hf) (ed_lc l enc hi f v hn hs)
theorem ts_nil : EvT K Φ (wTs F []) ρ true := lTs (fun _ => pts_nil) et_yes
theorem ts_one {k : Bool} (h : EvT K Φ (wT F e) ρ k) : EvT K Φ (wTs F [e]) ρ k := lTs (fun i => pts_one (wT_ok i)) h
/-- .. without a test -/
theorem x_lcA {X : Cx} {α : Type} {elt iter : Expr} {scope : Scope} {N ps : List Str} {sc : Scope} (S : FnScope N ps sc) (own : List (Str × Nat)) (l : List α) (enc : α → Dt) (v : α → Dt) (hi : ItD K Φ (wI (un X) tg iter) ρ (l.map enc)) (hn : l.length ≤ 100000)
    (hs : ∀ a, a ∈ l → ∃ ρ1 js, GvD K (wG (blkF X scope) tg) (enc a) (wipeD ρ (own.map (·.2))) ρ1 js ∧ (∀ j ∈ js, j ∈ own.map (·.2)) ∧ EvD K Φ (wE (blkF X scope) elt) ρ1 (v a))
    (hK : X.K = K := by rfl) (hX : X.N = N := by rfl) (hS : X.env.scope = sc := by rfl) (ok : BlkOk N sc scope own := by exact blkOk_by (by decide +kernel)) (hc : X.calm = true := by rfl) (hf : ∀ x, foldedSetIterable iter X.env x = pure x := by intro _; rfl) : EvD K Φ (wE (un X) (.ListComp elt [⟨tg, iter, [], 0⟩] scope pos)) ρ (.lst (l.map v)) := by
  have h := x_lc (Φ := Φ) (pos := pos) (ifs := []) S own l enc (fun _ => true) v hi hn (fun a ha => by
    obtain ⟨ρ1, js, h1, h2, h3⟩ := hs a ha
    exact ⟨ρ1, js, h1, h2, ts_nil, fun _ => h3⟩) hK hX hS ok hc hf
  rw [filter_true] at h
  exact h
/-! ### statements -/
variable {st : Stmt} {sts body orelse : List Stmt} {o : Out}
theorem ss_nil : SvD K Φ (wSs F []) ρ (.nx ρ) := lSs (fun _ => pss_nil) sv_next
theorem ss_cons (h : SvD K Φ (wS F st) ρ (.nx ρ1)) (k : SvD K Φ (wSs F sts) ρ1 o) : SvD K Φ (wSs F (st :: sts)) ρ o := lSs (fun i => pss_cons (wS_ok i) (wSs_ok i)) (sv_seq h k)
theorem ss_one (h : SvD K Φ (wS F st) ρ o) : SvD K Φ (wSs F [st]) ρ o := lSs (fun i => pss_one (wS_ok i)) h
/-- a statement that returns: what follows is never read -/
theorem ss_ret (h : SvD K Φ (wS F st) ρ (.rt d)) : SvD K Φ (wSs F (st :: sts)) ρ (.rt d) := lSs (fun i => pss_cons (wS_ok i) (pss_never)) (sv_seqR h)
theorem s_ret (h : EvD K Φ (wE F e) ρ d) : SvD K Φ (wS F (.Return (some e) pos)) ρ (.rt d) := lS (fun i => ps_ret (wE_ok i)) (sv_ret h)
theorem s_expr (h : EvD K Φ (wE F e) ρ d) (hs : ∀ i, swapsWith e none pos.line (F i).env = pure false := by intro _; rfl) : SvD K Φ (wS F (.Expr e pos)) ρ (.nx ρ) := lS (fun i => ps_expr (wE_ok i) (hs i)) (sv_drop h)
theorem s_set {p' : Pos} (k : Nat) (hN : ∀ i, (F i).N.Nodup) (h : EvD K Φ (wE F e) ρ d) (hi : ∀ i, (F i).N[k]? = some n := by intro _; rfl) (hx : ∀ i, Loc (F i).env.scope n := by intro _; first | exact Or.inl rfl | exact Or.inr rfl)
    (hs : ∀ i, swapsWith e (some (.Name n p')) pos.line (F i).env = pure false := by intro _; rfl) (hf : ∀ i, (F i).fn n = true ∨ (F i).env.scope.names.lookup n = some .local := by intro _; first | exact .inl rfl | exact .inr rfl) : SvD K Φ (wS F (.Assign [.Name n p'] e pos)) ρ (.nx (ρ.set k (some d))) :=
  lS (fun i => ps_set (hN i) (hi i) (hx i) (wE_ok i) (hs i) (hf i)) (sv_set h)
theorem s_asg (h : EvD K Φ (wE F e) ρ d) (g : GvD K (wG F tg) d ρ ρ' js) (hs : ∀ i, swapsWithSole [tg] e pos.line (F i).env = pure false := by intro _; rfl) (hw : ∀ i, swappedStores [tg] e (F i).env = pure none := by intro _; rfl) (h1 : ∀ i, (assignEach [tg] (F i).env).map (·.2) = [assign tg (F i).env] := by intro _; rfl) :
    SvD K Φ (wS F (.Assign [tg] e pos)) ρ (.nx ρ') := lS (fun i => ps_asg (wE_ok i) (wG_ok i) (hs i) (hw i) (h1 i)) (sv_asg h g)
theorem s_par {k1 k2 : Nat} {m : Str} {px py pt pt2 : Pos} {kt kt2} {d1 d2 : Dt} (hN : ∀ i, (F i).N.Nodup) (h : EvA K Φ (wA F [a, b]) ρ [d1, d2]) (hi : ∀ i, (F i).N[k1]? = some n := by intro _; rfl) (hj : ∀ i, (F i).N[k2]? = some m := by intro _; rfl) (hij : k1 ≠ k2 := by decide) (hx : ∀ i, (F i).env.scope.names.lookup n = some .local := by intro _; rfl) (hy : ∀ i, (F i).env.scope.names.lookup m = some .local := by intro _; rfl)
    (hw : ∀ i, swappedStores [.Tuple [.Name n px, .Name m py] kt pt] (.Tuple [a, b] kt2 pt2) (F i).env = pure (some [n, m]) := by intro _; rfl) (hs : ∀ i, swapsWithSole [.Tuple [.Name n px, .Name m py] kt pt] (.Tuple [a, b] kt2 pt2) pos.line (F i).env = pure false := by intro _; rfl) (hc : ∀ i, (F i).calm = true := by intro _; rfl) :
    SvD K Φ (wS F (.Assign [.Tuple [.Name n px, .Name m py] kt pt] (.Tuple [a, b] kt2 pt2) pos)) ρ (.nx ((ρ.set k1 (some d1)).set k2 (some d2))) := lS (fun i => ps_par (hc i) (hN i) (hi i) (hj i) hij (hx i) (hy i) (wA_ok i) (hw i) (hs i)) (sv_par h)
theorem s_if {k : Bool} (h : EvT K Φ (wT F c) ρ k) (h1 : k = true → SvD K Φ (wSs F body) ρ o) (h2 : k = false → SvD K Φ (wSs F orelse) ρ o) : SvD K Φ (wS F (.If c body orelse pos)) ρ o := lS (fun i => ps_if (wT_ok i) (wSs_ok i) (wSs_ok i)) (sv_if h h1 h2)
theorem s_ifF {sts' : List Stmt} (h : EvT K Φ (wT F c) ρ false) (h2 : SvD K Φ (wSs F orelse) ρ o) : SvD K Φ (wS F (.If c body orelse pos)) ρ o := s_if h (fun z => nomatch z) fun _ => h2
theorem s_ifN (h : EvT K Φ (wT F c) ρ false) : SvD K Φ (wS F (.If c body [] pos)) ρ (.nx ρ) := s_if h (fun z => nomatch z) fun _ => ss_nil
theorem s_ifT (h : EvT K Φ (wT F c) ρ true) (h2 : SvD K Φ (wSs F body) ρ o) : SvD K Φ (wS F (.If c body orelse pos)) ρ o := s_if h (fun _ => h2) fun z => nomatch z
theorem s_augA {p' : Pos} {m k' : Int} (k : Nat) (hN : ∀ i, (F i).N.Nodup) (hx : ρ[k]? = some (some (.int m))) (h : EvD K Φ (wE F e) ρ (.int k')) (hi : ∀ i, (F i).N[k]? = some n := by intro _; rfl) (hl : ∀ i, Loc (F i).env.scope n := by intro _; first | exact Or.inl rfl | exact Or.inr rfl) (hf : ∀ i, (F i).fn n = true ∨ (F i).env.scope.names.lookup n = some .local := by intro _; first | exact .inl rfl | exact .inr rfl) :
    SvD K Φ (wS F (.AugAssign (.Name n p') .Add e pos)) ρ (.nx (ρ.set k (some (.int (m + k'))))) := lS (fun i => ps_aug (hN i) (hi i) (hl i) (wE_ok i) ip_add (hf i)) (sv_aug hx h)
theorem s_augS {p' : Pos} {m k' : Int} (k : Nat) (hN : ∀ i, (F i).N.Nodup) (hx : ρ[k]? = some (some (.int m))) (h : EvD K Φ (wE F e) ρ (.int k')) (hi : ∀ i, (F i).N[k]? = some n := by intro _; rfl) (hl : ∀ i, Loc (F i).env.scope n := by intro _; first | exact Or.inl rfl | exact Or.inr rfl) (hf : ∀ i, (F i).fn n = true ∨ (F i).env.scope.names.lookup n = some .local := by intro _; first | exact .inl rfl | exact .inr rfl) :
    SvD K Φ (wS F (.AugAssign (.Name n p') .Sub e pos)) ρ (.nx (ρ.set k (some (.int (m - k'))))) := lS (fun i => ps_aug (hN i) (hi i) (hl i) (wE_ok i) ip_sub (hf i)) (sv_aug hx h)
/-- a for statement: its reading, by the readings of its parts -/
theorem for_ok {X : Cx} {it : Expr} (hp : PassesOwn (model X.prog X.w) X.A X.env X.xe) (hc : X.calm = true := by rfl) (hs : ∀ x, foldedSetIterable it X.env x = pure x := by intro _; rfl) : ∀ i : Unit, PS (un X i) (.For tg it body [] pos) (tFor (wI (un X) tg it) (wG (un X) tg) (wSs (un X) body)) := fun _ => ps_for hp hc (wI_ok ()) (wG_ok ()) (wSs_ok ()) hs
theorem s_forG {X : Cx} {α : Type} {it : Expr} (l : List α) (enc : α → Dt) (hi : ItD K Φ (wI (un X) tg it) ρ (l.map enc)) (R : Nat → Rho) (h0 : R 0 = ρ) (hs : ∀ (i : Nat) a, l[i]? = some a → ∃ ρ1 js, GvD K (wG (un X) tg) (enc a) (R i) ρ1 js ∧ SvD K Φ (wSs (un X) body) ρ1 (.nx (R (i + 1))))
    (hp : PassesOwn (model X.prog X.w) X.A X.env X.xe := by exact PassesOwn.never) (hc : X.calm = true := by rfl) (hf : ∀ x, foldedSetIterable it X.env x = pure x := by intro _; rfl) : SvD K Φ (wS (un X) (.For tg it body [] pos)) ρ (.nx (R l.length)) :=
  lS (for_ok hp hc hf) (sv_for l enc hi R h0 hs)
theorem s_forRt {X : Cx} {α : Type} {it : Expr} {r : Dt} (l : List α) (enc : α → Dt) (hi : ItD K Φ (wI (un X) tg it) ρ (l.map enc)) (R : Nat → Rho) (k : Nat) {v : α} (h0 : R 0 = ρ) (hv : l[k]? = some v) (hs : ∀ (i : Nat) a, i < k → l[i]? = some a → ∃ ρ1 js, GvD K (wG (un X) tg) (enc a) (R i) ρ1 js ∧ SvD K Φ (wSs (un X) body) ρ1 (.nx (R (i + 1))))
    (he : ∃ ρ1 js, GvD K (wG (un X) tg) (enc v) (R k) ρ1 js ∧ SvD K Φ (wSs (un X) body) ρ1 (.rt r))
    (hp : PassesOwn (model X.prog X.w) X.A X.env X.xe := by exact PassesOwn.never) (hc : X.calm = true := by rfl) (hf : ∀ x, foldedSetIterable it X.env x = pure x := by intro _; rfl) : SvD K Φ (wS (un X) (.For tg it body [] pos)) ρ (.rt r) :=
  lS (for_ok hp hc hf) (sv_forR l enc hi R k h0 hv hs he)
/-- less is told of the slots -/
inductive Wk : Rho → Rho → Prop
  | nil : Wk [] []
  | skip {o : Option Dt} {r r' : Rho} : Wk r r' → Wk (o :: r) (none :: r')
  | keep {o : Option Dt} {r r' : Rho} : Wk r r' → Wk (o :: r) (o :: r')
theorem Wk.len : ∀ {r r' : Rho}, Wk r r' → r'.length = r.length
  | _, _, .nil => rfl
  | _, _, .skip h => by rw [List.length_cons, List.length_cons, Wk.len h]
  | _, _, .keep h => by rw [List.length_cons, List.length_cons, Wk.len h]
theorem Wk.get : ∀ {r r' : Rho}, Wk r r' → ∀ (i : Nat) (d : Dt), r'[i]? = some (some d) → r[i]? = some (some d)
  | _, _, .nil, _, _, h => h
  | _, _, .skip h, 0, _, e => by simp at e
  | _, _, .skip h, i + 1, d, e => by simpa using Wk.get h i d (by simpa using e)
  | _, _, .keep h, 0, _, e => e
  | _, _, .keep h, i + 1, d, e => by simpa using Wk.get h i d (by simpa using e)
theorem sv_wk {t : TS} {ρ2 : Rho} (h : SvD K Φ t ρ (.nx ρ1)) (w : Wk ρ1 ρ2) : SvD K Φ t ρ (.nx ρ2) := fun σ Hd H e en p D q => h σ Hd H e en p D fun σ' Hd' H' s en' => q σ' Hd' H' s (en'.weak w.len w.get)
/-- a loop that tells nothing of the slots that it writes -/
theorem s_forC {X : Cx} {α : Type} {it : Expr} (l : List α) (enc : α → Dt) (hi : ItD K Φ (wI (un X) tg it) ρ (l.map enc)) (hs : ∀ (i : Nat) a, l[i]? = some a → ∃ ρ1 js ρ2, GvD K (wG (un X) tg) (enc a) ρ ρ1 js ∧ SvD K Φ (wSs (un X) body) ρ1 (.nx ρ2) ∧ Wk ρ2 ρ)
    (hp : PassesOwn (model X.prog X.w) X.A X.env X.xe := by exact PassesOwn.never) (hc : X.calm = true := by rfl) (hf : ∀ x, foldedSetIterable it X.env x = pure x := by intro _; rfl) : SvD K Φ (wS (un X) (.For tg it body [] pos)) ρ (.nx ρ) :=
  s_forG l enc hi (fun _ => ρ) rfl (fun i a ha => by
    obtain ⟨ρ1, js, ρ2, h1, h2, h3⟩ := hs i a ha
    exact ⟨ρ1, js, h1, sv_wk h2 h3⟩) hp hc hf
/-- y = [.. for ..] -/
theorem s_setLc {X : Cx} {α : Type} {elt iter : Expr} {ifs : List Expr} {scope : Scope} {y : Str} {py spos : Pos} {N ps : List Str} {sc : Scope} (S : FnScope N ps sc) (k : Nat) (own : List (Str × Nat)) (l : List α) (enc : α → Dt) (f : α → Bool) (v : α → Dt) (hi : ItD K Φ (wI (un X) tg iter) ρ (l.map enc)) (hn : l.length ≤ 100000)
    (hs : ∀ a, a ∈ l → ∃ ρ1 js, GvD K (wG (blkF X scope) tg) (enc a) (wipeD ρ (own.map (·.2))) ρ1 js ∧ (∀ j ∈ js, j ∈ own.map (·.2)) ∧ EvT K Φ (wTs (blkF X scope) ifs) ρ1 (f a) ∧ (f a = true → EvD K Φ (wE (blkF X scope) elt) ρ1 (v a)))
    (hK : X.K = K := by rfl) (hX : X.N = N := by rfl) (hS : X.env.scope = sc := by rfl) (ok : BlkOk N sc scope own := by exact blkOk_by (by decide +kernel)) (hc : X.calm = true := by rfl) (hf : ∀ x, foldedSetIterable iter X.env x = pure x := by intro _; rfl)
    (hy : X.N[k]? = some y := by rfl) (hyl : X.env.scope.names.lookup y = some .local := by rfl) (hsw : swapsWith (.ListComp elt [⟨tg, iter, ifs, 0⟩] scope pos) (some (.Name y py)) spos.line X.env = pure true := by exact sw_true rfl rfl rfl (by decide +kernel)) :
    SvD K Φ (wS (un X) (.Assign [.Name y py] (.ListComp elt [⟨tg, iter, ifs, 0⟩] scope pos) spos)) ρ (.nx (ρ.set k (some (.lst ((l.filter f).map v))))) := by
  subst hK hX hS
  exact lS (fun _ => ps_setLc hc S.nd hy hyl hsw (wI_ok ()) ok (fun s H C cl fp => wG_ok (F := blkF X scope) (s, H, C, cl, fp)) (fun s H C cl fp => wTs_ok (F := blkF X scope) (s, H, C, cl, fp)) (fun s H C cl fp => wE_ok (F := blkF X scope) (s, H, C, cl, fp)) hf) (sv_set (ed_lc l enc hi f v hn hs))
theorem s_setLcA {X : Cx} {α : Type} {elt iter : Expr} {scope : Scope} {y : Str} {py spos : Pos} {N ps : List Str} {sc : Scope} (S : FnScope N ps sc) (k : Nat) (own : List (Str × Nat)) (l : List α) (enc : α → Dt) (v : α → Dt) (hi : ItD K Φ (wI (un X) tg iter) ρ (l.map enc)) (hn : l.length ≤ 100000)
    (hs : ∀ a, a ∈ l → ∃ ρ1 js, GvD K (wG (blkF X scope) tg) (enc a) (wipeD ρ (own.map (·.2))) ρ1 js ∧ (∀ j ∈ js, j ∈ own.map (·.2)) ∧ EvD K Φ (wE (blkF X scope) elt) ρ1 (v a))
    (hK : X.K = K := by rfl) (hX : X.N = N := by rfl) (hS : X.env.scope = sc := by rfl) (ok : BlkOk N sc scope own := by exact blkOk_by (by decide +kernel)) (hc : X.calm = true := by rfl) (hf : ∀ x, foldedSetIterable iter X.env x = pure x := by intro _; rfl)
    (hy : X.N[k]? = some y := by rfl) (hyl : X.env.scope.names.lookup y = some .local := by rfl) (hsw : swapsWith (.ListComp elt [⟨tg, iter, [], 0⟩] scope pos) (some (.Name y py)) spos.line X.env = pure true := by exact sw_true rfl rfl rfl (by decide +kernel)) :
    SvD K Φ (wS (un X) (.Assign [.Name y py] (.ListComp elt [⟨tg, iter, [], 0⟩] scope pos) spos)) ρ (.nx (ρ.set k (some (.lst (l.map v))))) := by
  have h := s_setLc (Φ := Φ) (pos := pos) (ifs := []) (py := py) (spos := spos) S k own l enc (fun _ => true) v hi hn (fun a ha => by
    obtain ⟨ρ1, js, h1, h2, h3⟩ := hs a ha
    exact ⟨ρ1, js, h1, h2, ts_nil, fun _ => h3⟩) hK hX hS ok hc hf hy hyl hsw
  rw [filter_true] at h
  exact h
/-! ### methods of built-in types -/
theorem x_m1 {id : String} {nm : Str} {apos : Pos} {r : V → List V → Hp → VK → Prop} {w : Str} (slot : Slot "str" nm id) (ty : typeOf (.builtin id) = pure (.type "method_descriptor")) (rule : ∀ i, MtR (F i) id r) (ho : EvD K Φ (wE F a) ρ (.str w)) (hb : EvD K Φ (wE F b) ρ x) (hr : RDM K Φ r (.str w) [x] z)
    (hs : ∀ i, starEach [b] (F i).env = [(false, eval b (F i).env)] := by intro _; rfl) (hbase : ∀ i, attributeBase a nm (F i).env (eval a (F i).env) = eval a (F i).env := by intro _; rfl) (hline : (apos.endLine == pos.line) = true := by rfl) : EvD K Φ (wE F (.Call (.Attribute a nm apos) [b] [] pos)) ρ z :=
  lE (fun i => pe_m1 slot ty (rule i) (wE_ok i) (wE_ok i) (hs i) (hbase i) hline) (ed_m1 ho hb hr)
theorem x_count {apos : Pos} {w c : Str} (ho : EvD K Φ (wE F a) ρ (.str w)) (hb : EvD K Φ (wE F b) ρ (.str c)) (hs : ∀ i, starEach [b] (F i).env = [(false, eval b (F i).env)] := by intro _; rfl) (hbase : ∀ i, attributeBase a "count" (F i).env (eval a (F i).env) = eval a (F i).env := by intro _; rfl) (hline : (apos.endLine == pos.line) = true := by rfl) :
    EvD K Φ (wE F (.Call (.Attribute a "count" apos) [b] [] pos)) ρ (.int (Txt.count w c)) := x_m1 PySem.F.slot_str_count PySem.F.type_str_count (fun _ => mt_count) ho hb rm_count hs hbase hline
theorem x_tIx {apos : Pos} {ys : List Str} {k : Str} (ho : EvD K Φ (wE F a) ρ (.tux (ys.map Dt.str))) (hb : EvD K Φ (wE F b) ρ (.str k)) (hk : k ∈ ys) (hbase : ∀ i, attributeBase a "index" (F i).env (eval a (F i).env) = eval a (F i).env := by intro _; rfl)
    (hfew : ∀ i, ((backTo pos (starEach [b] (F i).env)).all (fun x => !x.1) && (backToKw pos (keywordEach [] (F i).env)).all (fun x => x.1.isSome)
      && decide (([b] : List Expr).length + ([] : List Keyword).length + (if ([] : List Keyword).isEmpty then 0 else 1) < 30)) = true := by intro _; rfl)
    (hline : (apos.endLine == pos.line) = true := by rfl) (hs : ∀ i, starEach [b] (F i).env = (false, eval b (F i).env) :: starEach [] (F i).env := by intro _; rfl) : EvD K Φ (wE F (.Call (.Attribute a "index" apos) [b] [] pos)) ρ (.int (ys.idxOf k : Nat)) :=
  lE (fun i => pe_tIndex (wE_ok i) (wE_ok i) (hbase i) (hfew i) hline (hs i)) (ed_tIx ho hb hk)
theorem x_inT {s : Str} {ns : List Str} {k : Bool} (ha : EvD K Φ (wE F a) ρ (.str s)) (hb : EvD K Φ (wE F b) ρ (.tp k (ns.map Dt.str))) (hm : behindInMarks .In b = false) (hK : ∀ i, (F i).K = K := by intro _; rfl) : EvD K Φ (wE F (.Compare a [.In] [b] pos)) ρ (.bl (decide (s ∈ ns))) :=
  x_cmp (fun i => by have := op_in_seq (X := F i); rwa [hK i] at this) ha hb (rd_inT (neg := false)) hm
theorem t_inT {s : Str} {ns : List Str} {k : Bool} (ha : EvD K Φ (wE F a) ρ (.str s)) (hb : EvD K Φ (wE F b) ρ (.tp k (ns.map Dt.str))) (hm : behindInMarks .In b = false) (hK : ∀ i, (F i).K = K := by intro _; rfl) : EvT K Φ (wT F (.Compare a [.In] [b] pos)) ρ (decide (s ∈ ns)) :=
  t_cmp (fun i => by have := op_in_seq (X := F i); rwa [hK i] at this) ha hb (rd_inT (neg := false)) hm
theorem t_ninT {s : Str} {ns : List Str} {k : Bool} (ha : EvD K Φ (wE F a) ρ (.str s)) (hb : EvD K Φ (wE F b) ρ (.tp k (ns.map Dt.str))) (hm : behindInMarks .NotIn b = false) (hK : ∀ i, (F i).K = K := by intro _; rfl) : EvT K Φ (wT F (.Compare a [.NotIn] [b] pos)) ρ (!decide (s ∈ ns)) :=
  t_cmp (fun i => by have := op_notIn_seq (X := F i); rwa [hK i] at this) ha hb (rd_inT (neg := true)) hm
theorem t_ninL {s : Str} {ns : List Str} (ha : EvD K Φ (wE F a) ρ (.str s)) (hb : EvD K Φ (wE F b) ρ (.lst (ns.map Dt.str))) (hm : behindInMarks .NotIn b = false) (hK : ∀ i, (F i).K = K := by intro _; rfl) : EvT K Φ (wT F (.Compare a [.NotIn] [b] pos)) ρ (!decide (s ∈ ns)) :=
  t_cmp (fun i => by have := op_notIn_seq (X := F i); rwa [hK i] at this) ha hb (rd_inL (neg := true)) hm
end
end SP
/-! Q0 -/
namespace SP
open PySem PySem.Spec PyProof.Rows L2

/-! ### the program's text -/
def top (i : Nat) : Stmt := PySem.Challenge.pw_stairpay_k20_whole_pots.main.body.getD i (.Pass ⟨0, 0, 0, 0⟩)
/-- the module's names that are built-in, and its constants -/
structure TX (mg : Str → Option Value) : Prop where
  isinstance : mg "isinstance" = none
  int : mg "int" = none
  bool : mg "bool" = none
  str : mg "str" = none
  tuple : mg "tuple" = none
  list : mg "list" = none
  dict : mg "dict" = none
  len : mg "len" = none
  all : mg "all" = none
  any : mg "any" = none
  sum : mg "sum" = none
  zip : mg "zip" = none
  enumerate : mg "enumerate" = none
  divmod : mg "divmod" = none
  min : mg "min" = none
  range : mg "range" = none
  sorted : mg "sorted" = none
  repr : mg "repr" = none
  mostNames : ∃ t, mg "MOST_NAMES" = some (.int 6 t)
  mostSigns : ∃ t, mg "MOST_SIGNS" = some (.int 6 t)
  mostCoins : ∃ t, mg "MOST_COINS" = some (.int 1000000000000 t)
  mostFigures : ∃ t, mg "MOST_FIGURES" = some (.int 400 t)
  mostRuns : ∃ t, mg "MOST_RUNS" = some (.int 60 t)
  letters : ∃ t, mg "LETTERS" = some (.str "abcdefghijklmnopqrstuvwxyz" t)
  digits : ∃ t, mg "DIGITS" = some (.str "0123456789" t)
/-- a def as it stands behind the top -/
structure DefAt (K : PySem.W.Frag) (mg : Str → Option Value) (n : Str) (st : Stmt) (ps : List Str) : Prop where
  ex : ∃ f fd, mg n = some (.ref f) ∧ Fun K n n st f fd ∧ Binds K fd ps []
section
variable {P : Program} {w : World} {K : PySem.W.Frag} {mg : Str → Option Value} {base : Heap} {n : Str} {st : Stmt} {N ps : List Str} {k : Nat}
/-- the context of its body -/
abbrev dCx (P : Program) (w : World) (K : PySem.W.Frag) (mg : Str → Option Value) (base : Heap) (N : List Str) (n : Str) (st : Stmt) (f : Addr) (cdv : Value) (A : Around) (outer : List Env) (s : Shared) (H : Hp) (E : XK) : Cx := (cxOf CX0 P w K mg base N n (defScope st) f cdv A outer s H E).nox
/-- a def over data -/
theorem cal_data {R : List Dt → Dt → Prop} (D : DefAt K mg n st ps) (S : FnScope N ps (defScope st)) (len : ∀ ts r, R ts r → ts.length = ps.length)
    (hbody : ∀ (f : Addr) (cdv : Value) (A : Around) (outer : List Env) (s : Shared) (H : Hp) (E : XK), Room k (dCx P w K mg base N n st f cdv A outer s H E).A → ∀ ts r, R ts r →
      ∃ o, SvD K MP.tt (wSs (un (dCx P w K mg base N n st f cdv A outer s H E)) (defBody st)) (startD N ts) o ∧ Gives o r) : Callee P w K mg base n (k + 1) ps (spD K R) := by
  obtain ⟨f, fd, h1, h2, h3⟩ := D.ex
  exact ⟨f, fd, h1, h2.kp, h3, fn_data h2 S len fun cdv A outer s H E hr => ⟨_, wSs_ok (F := un (dCx P w K mg base N n st f cdv A outer s H E)) (), fun ts r hR => hbody f cdv A outer s H E hr ts r hR⟩⟩
/-- any def: its promise, in the state as it is -/
theorem cal_any {sp : Sp} (D : DefAt K mg n st ps) (S : FnScope N ps (defScope st)) (len : ∀ vs H Q E, sp vs H Q E → vs.length = ps.length)
    (hbody : ∀ (f : Addr) (cdv : Value) (A : Around) (outer : List Env) (s : Shared) (H : Hp) (E : XK), Room k (dCx P w K mg base N n st f cdv A outer s H E).A → ∀ vs Q, sp vs H Q E →
      wSs (un (dCx P w K mg base N n st f cdv A outer s H E)) (defBody st) { nx := fun _ H' => Q .non H', rt := Q } (start N vs) H) : Callee P w K mg base n (k + 1) ps sp := by
  obtain ⟨f, fd, h1, h2, h3⟩ := D.ex
  refine ⟨f, fd, h1, h2.kp, h3, h2.ok S len fun cdv A outer s H vs Q E hr hsp => ⟨_, wSs_ok (F := un (dCx P w K mg base N n st f cdv A outer s H E)) (), hbody f cdv A outer s H E hr vs Q hsp⟩⟩
end
/-! ### the built-ins that are used -/
section
variable {ι : Type} {F : ι → Cx} {K : PySem.W.Frag} {Φ : MP} {ρ : Rho} {e a b : Expr} {x y z d : Dt} {pos p q : Pos} {mg : Str → Option Value}
theorem x_isi {n : Str} {T U : String} {k : Bool} (T_ : TX mg) (h : EvD K Φ (wE F a) ρ x) (hx : x.tyOf = some T) (hk : kitB T U = some k) (hv : bootBuiltins n = some (.type U)) (hn : mg n = none) (hmg : ∀ i, (F i).mg = mg := by intro _; rfl) (hg : ∀ i, Gl (F i) "isinstance" := by intro _; rfl) (hg2 : ∀ i, Gl (F i) n := by intro _; rfl) (hn2 : n ≠ "__name__" := by decide) (hd2 : (n == ("__debug__" : Str)) = false := by decide)
    (he : ∀ i, starEach [a, .Name n q] (F i).env = (false, eval a (F i).env) :: starEach [.Name n q] (F i).env := by intro _; rfl) (he2 : ∀ i, starEach [.Name n q] (F i).env = (false, eval (.Name n q) (F i).env) :: starEach [] (F i).env := by intro _; rfl) (hpl : ∀ i, (backTo pos (starEach [.Name n q] (F i).env)).any (·.1) = false := by intro _; rfl) (hK : ∀ i, (F i).K = K := by intro _; rfl) :
    EvD K Φ (wE F (.Call (.Name "isinstance" p) [a, .Name n q] [] pos)) ρ (.bl k) :=
  x_cb (fun i => by have := call_isi (X := F i); rwa [hK i] at this) boot_isinstance (fun i => by rw [hmg i]; exact T_.isinstance) (a_cons h (a_one (x_ty (fun i => by rw [hmg i]; exact hn) hv hg2 hn2 hd2) he2) he) (rc_isi hx hk) hg (by decide) (by decide) he hpl
theorem x_lenS (T_ : TX mg) {w : Str} (h : EvD K Φ (wE F a) ρ (.str w)) (hl : w.length ≤ 100000) (hg : ∀ i, Gl (F i) "len" := by intro _; rfl) (hmg : ∀ i, (F i).mg = mg := by intro _; rfl) (hK : ∀ i, (F i).K = K := by intro _; rfl) (hc : ∀ i, (F i).calm = true := by intro _; rfl) (he : ∀ i, starEach [a] (F i).env = (false, eval a (F i).env) :: starEach [] (F i).env := by intro _; rfl) (hpl : ∀ i, (backTo pos (starEach [] (F i).env)).any (·.1) = false := by intro _; rfl) : EvD K Φ (wE F (.Call (.Name "len" p) [a] [] pos)) ρ (.int w.length) :=
  x_cb (fun i => by have := call_len (X := F i); rwa [hK i] at this) PySem.boot_len (fun i => by rw [hmg i]; exact T_.len) (a_one h he) (rc_lenS hl) hg (by decide) (by decide) he hpl
theorem x_lenT (T_ : TX mg) {xs : List Dt} {k : Bool} (h : EvD K Φ (wE F a) ρ (.tp k xs)) (hg : ∀ i, Gl (F i) "len" := by intro _; rfl) (hmg : ∀ i, (F i).mg = mg := by intro _; rfl) (hK : ∀ i, (F i).K = K := by intro _; rfl) (hc : ∀ i, (F i).calm = true := by intro _; rfl) (he : ∀ i, starEach [a] (F i).env = (false, eval a (F i).env) :: starEach [] (F i).env := by intro _; rfl) (hpl : ∀ i, (backTo pos (starEach [] (F i).env)).any (·.1) = false := by intro _; rfl) : EvD K Φ (wE F (.Call (.Name "len" p) [a] [] pos)) ρ (.int xs.length) :=
  x_cb (fun i => by have := call_len (X := F i); rwa [hK i] at this) PySem.boot_len (fun i => by rw [hmg i]; exact T_.len) (a_one h he) rc_lenT hg (by decide) (by decide) he hpl
theorem x_lenL (T_ : TX mg) {xs : List Dt} (h : EvD K Φ (wE F a) ρ (.lst xs)) (hg : ∀ i, Gl (F i) "len" := by intro _; rfl) (hmg : ∀ i, (F i).mg = mg := by intro _; rfl) (hK : ∀ i, (F i).K = K := by intro _; rfl) (hc : ∀ i, (F i).calm = true := by intro _; rfl) (he : ∀ i, starEach [a] (F i).env = (false, eval a (F i).env) :: starEach [] (F i).env := by intro _; rfl) (hpl : ∀ i, (backTo pos (starEach [] (F i).env)).any (·.1) = false := by intro _; rfl) : EvD K Φ (wE F (.Call (.Name "len" p) [a] [] pos)) ρ (.int xs.length) :=
  x_cb (fun i => by have := call_len (X := F i); rwa [hK i] at this) PySem.boot_len (fun i => by rw [hmg i]; exact T_.len) (a_one h he) rc_lenL hg (by decide) (by decide) he hpl
theorem x_all (T_ : TX mg) {bs : List Bool} (h : EvD K Φ (wE F a) ρ (.lst (bs.map Dt.bl))) (hg : ∀ i, Gl (F i) "all" := by intro _; rfl) (hmg : ∀ i, (F i).mg = mg := by intro _; rfl) (hK : ∀ i, (F i).K = K := by intro _; rfl) (hc : ∀ i, (F i).calm = true := by intro _; rfl) (he : ∀ i, starEach [a] (F i).env = (false, eval a (F i).env) :: starEach [] (F i).env := by intro _; rfl) (hpl : ∀ i, (backTo pos (starEach [] (F i).env)).any (·.1) = false := by intro _; rfl) : EvD K Φ (wE F (.Call (.Name "all" p) [a] [] pos)) ρ (.bl (bs.all id)) :=
  x_cb (fun i => by have := cr_all (X := F i) (hc i); rwa [hK i] at this) boot_all (fun i => by rw [hmg i]; exact T_.all) (a_one h he) rc_all hg (by decide) (by decide) he hpl
theorem x_any (T_ : TX mg) {bs : List Bool} (h : EvD K Φ (wE F a) ρ (.lst (bs.map Dt.bl))) (hg : ∀ i, Gl (F i) "any" := by intro _; rfl) (hmg : ∀ i, (F i).mg = mg := by intro _; rfl) (hK : ∀ i, (F i).K = K := by intro _; rfl) (hc : ∀ i, (F i).calm = true := by intro _; rfl) (he : ∀ i, starEach [a] (F i).env = (false, eval a (F i).env) :: starEach [] (F i).env := by intro _; rfl) (hpl : ∀ i, (backTo pos (starEach [] (F i).env)).any (·.1) = false := by intro _; rfl) : EvD K Φ (wE F (.Call (.Name "any" p) [a] [] pos)) ρ (.bl (bs.any id)) :=
  x_cb (fun i => by have := cr_any (X := F i) (hc i); rwa [hK i] at this) boot_any (fun i => by rw [hmg i]; exact T_.any) (a_one h he) rc_any hg (by decide) (by decide) he hpl
theorem x_sum (T_ : TX mg) {ns : List Int} (h : EvD K Φ (wE F a) ρ (.lst (ns.map Dt.int))) (hg : ∀ i, Gl (F i) "sum" := by intro _; rfl) (hmg : ∀ i, (F i).mg = mg := by intro _; rfl) (hK : ∀ i, (F i).K = K := by intro _; rfl) (hc : ∀ i, (F i).calm = true := by intro _; rfl) (he : ∀ i, starEach [a] (F i).env = (false, eval a (F i).env) :: starEach [] (F i).env := by intro _; rfl) (hpl : ∀ i, (backTo pos (starEach [] (F i).env)).any (·.1) = false := by intro _; rfl) : EvD K Φ (wE F (.Call (.Name "sum" p) [a] [] pos)) ρ (.int ns.sum) :=
  x_cb (fun i => by have := cr_sum (X := F i) (hc i); rwa [hK i] at this) boot_sum (fun i => by rw [hmg i]; exact T_.sum) (a_one h he) rc_sum hg (by decide) (by decide) he hpl
theorem x_int1 (T_ : TX mg) {n : Int} (h : EvD K Φ (wE F a) ρ (.int n)) (hg : ∀ i, Gl (F i) "int" := by intro _; rfl) (hmg : ∀ i, (F i).mg = mg := by intro _; rfl) (hK : ∀ i, (F i).K = K := by intro _; rfl) (hc : ∀ i, (F i).calm = true := by intro _; rfl) (he : ∀ i, starEach [a] (F i).env = (false, eval a (F i).env) :: starEach [] (F i).env := by intro _; rfl) (hpl : ∀ i, (backTo pos (starEach [] (F i).env)).any (·.1) = false := by intro _; rfl) : EvD K Φ (wE F (.Call (.Name "int" p) [a] [] pos)) ρ (.int n) :=
  x_ct (fun i => call_int1) boot_int (fun i => by rw [hmg i]; exact T_.int) (a_one h he) rc_int hg (by decide) (by decide) he hpl
theorem x_tupleX (T_ : TX mg) {xs : List Dt} (h : EvD K Φ (wE F a) ρ (.lst xs)) (hg : ∀ i, Gl (F i) "tuple" := by intro _; rfl) (hmg : ∀ i, (F i).mg = mg := by intro _; rfl) (hK : ∀ i, (F i).K = K := by intro _; rfl) (hc : ∀ i, (F i).calm = true := by intro _; rfl) (he : ∀ i, starEach [a] (F i).env = (false, eval a (F i).env) :: starEach [] (F i).env := by intro _; rfl) (hpl : ∀ i, (backTo pos (starEach [] (F i).env)).any (·.1) = false := by intro _; rfl) : EvD K Φ (wE F (.Call (.Name "tuple" p) [a] [] pos)) ρ (.tux xs) :=
  x_ct (fun i => by have := call_tupleX (X := F i); rwa [hK i] at this) boot_tuple (fun i => by rw [hmg i]; exact T_.tuple) (a_one h he) rc_tupleX hg (by decide) (by decide) he hpl
theorem x_sortedS (T_ : TX mg) {ns ms : List Str} (h : EvD K Φ (wE F a) ρ (.lst (ns.map Dt.str))) (hl : ns.length < 64) (hu : ∀ ys : List Str, ys.Perm ns → PyProof.Rows.sortedS ys = true → ys = ms) (hg : ∀ i, Gl (F i) "sorted" := by intro _; rfl) (hmg : ∀ i, (F i).mg = mg := by intro _; rfl) (hK : ∀ i, (F i).K = K := by intro _; rfl) (hc : ∀ i, (F i).calm = true := by intro _; rfl) (he : ∀ i, starEach [a] (F i).env = (false, eval a (F i).env) :: starEach [] (F i).env := by intro _; rfl) (hpl : ∀ i, (backTo pos (starEach [] (F i).env)).any (·.1) = false := by intro _; rfl) : EvD K Φ (wE F (.Call (.Name "sorted" p) [a] [] pos)) ρ (.lst (ms.map Dt.str)) :=
  x_cb (fun i => by have := cr_sortedS (X := F i); rwa [hK i] at this) boot_sorted (fun i => by rw [hmg i]; exact T_.sorted) (a_one h he) (rc_sorted hl hu) hg (by decide) (by decide) he hpl
theorem x_repr (T_ : TX mg) (hG : ∀ i, (F i).A.guards = some []) {j : Nat} (hr : ∀ i, Room j (F i).A) (h : EvD K Φ (wE F a) ρ x) (p0 : x.pure = true) (h1 : x.py.showable = true) (h2 : x.py.depth ≤ 50) (h3 : x.py.hasDict = false) (h4 : x.py.shown.length ≤ sizeLine) (hg : ∀ i, Gl (F i) "repr" := by intro _; rfl) (hmg : ∀ i, (F i).mg = mg := by intro _; rfl) (hK : ∀ i, (F i).K = K := by intro _; rfl) (hc : ∀ i, (F i).calm = true := by intro _; rfl) (he : ∀ i, starEach [a] (F i).env = (false, eval a (F i).env) :: starEach [] (F i).env := by intro _; rfl) (hpl : ∀ i, (backTo pos (starEach [] (F i).env)).any (·.1) = false := by intro _; rfl) : EvD K Φ (wE F (.Call (.Name "repr" p) [a] [] pos)) ρ (.str x.py.shown) :=
  x_cb (fun i => by have := call_repr (X := F i) (hG i) (hr i).units; rwa [hK i] at this) boot_repr (fun i => by rw [hmg i]; exact T_.repr) (a_one h he) (rc_repr p0 h1 h2 h3 h4) hg (by decide) (by decide) he hpl
theorem x_divmod (T_ : TX mg) {m n : Int} (h : EvD K Φ (wE F a) ρ (.int m)) (h' : EvD K Φ (wE F b) ρ (.int n)) (hn : 0 < n) (hn2 : n < 1073741824) (hg : ∀ i, Gl (F i) "divmod" := by intro _; rfl) (hmg : ∀ i, (F i).mg = mg := by intro _; rfl) (hK : ∀ i, (F i).K = K := by intro _; rfl) (hc : ∀ i, (F i).calm = true := by intro _; rfl) (he : ∀ i, starEach [a, b] (F i).env = (false, eval a (F i).env) :: starEach [b] (F i).env := by intro _; rfl) (he2 : ∀ i, starEach [b] (F i).env = (false, eval b (F i).env) :: starEach [] (F i).env := by intro _; rfl) (hpl : ∀ i, (backTo pos (starEach [b] (F i).env)).any (·.1) = false := by intro _; rfl) : EvD K Φ (wE F (.Call (.Name "divmod" p) [a, b] [] pos)) ρ (.tup [.int (m / n), .int (m % n)]) :=
  x_cb (fun i => call_divmod) boot_divmod (fun i => by rw [hmg i]; exact T_.divmod) (a_two h h' he he2) (rc_divmod hn hn2) hg (by decide) (by decide) he hpl
theorem x_min (T_ : TX mg) {m n : Int} (h : EvD K Φ (wE F a) ρ (.int m)) (h' : EvD K Φ (wE F b) ρ (.int n)) (hg : ∀ i, Gl (F i) "min" := by intro _; rfl) (hmg : ∀ i, (F i).mg = mg := by intro _; rfl) (hK : ∀ i, (F i).K = K := by intro _; rfl) (hc : ∀ i, (F i).calm = true := by intro _; rfl) (he : ∀ i, starEach [a, b] (F i).env = (false, eval a (F i).env) :: starEach [b] (F i).env := by intro _; rfl) (he2 : ∀ i, starEach [b] (F i).env = (false, eval b (F i).env) :: starEach [] (F i).env := by intro _; rfl) (hpl : ∀ i, (backTo pos (starEach [b] (F i).env)).any (·.1) = false := by intro _; rfl) : EvD K Φ (wE F (.Call (.Name "min" p) [a, b] [] pos)) ρ (.int (min m n)) :=
  x_cb (fun i => call_min2 (hc i)) boot_min (fun i => by rw [hmg i]; exact T_.min) (a_two h h' he he2) rc_min2 hg (by decide) (by decide) he hpl
theorem x_allM (T_ : TX mg) {α : Type} {l : List α} {f : α → Bool} (h : EvD K Φ (wE F a) ρ (.lst (l.map fun c => .bl (f c)))) (hg : ∀ i, Gl (F i) "all" := by intro _; rfl) (hmg : ∀ i, (F i).mg = mg := by intro _; rfl) (hK : ∀ i, (F i).K = K := by intro _; rfl) (hc : ∀ i, (F i).calm = true := by intro _; rfl) (he : ∀ i, starEach [a] (F i).env = (false, eval a (F i).env) :: starEach [] (F i).env := by intro _; rfl) (hpl : ∀ i, (backTo pos (starEach [] (F i).env)).any (·.1) = false := by intro _; rfl) : EvD K Φ (wE F (.Call (.Name "all" p) [a] [] pos)) ρ (.bl (l.all f)) := by
  have e : (l.map fun c => Dt.bl (f c)) = (l.map f).map Dt.bl := by rw [List.map_map]; rfl
  rw [e] at h
  have q := x_all (p := p) (pos := pos) T_ h hg hmg hK hc he hpl
  rw [List.all_map] at q
  exact q
theorem x_anyM (T_ : TX mg) {α : Type} {l : List α} {f : α → Bool} (h : EvD K Φ (wE F a) ρ (.lst (l.map fun c => .bl (f c)))) (hg : ∀ i, Gl (F i) "any" := by intro _; rfl) (hmg : ∀ i, (F i).mg = mg := by intro _; rfl) (hK : ∀ i, (F i).K = K := by intro _; rfl) (hc : ∀ i, (F i).calm = true := by intro _; rfl) (he : ∀ i, starEach [a] (F i).env = (false, eval a (F i).env) :: starEach [] (F i).env := by intro _; rfl) (hpl : ∀ i, (backTo pos (starEach [] (F i).env)).any (·.1) = false := by intro _; rfl) : EvD K Φ (wE F (.Call (.Name "any" p) [a] [] pos)) ρ (.bl (l.any f)) := by
  have e : (l.map fun c => Dt.bl (f c)) = (l.map f).map Dt.bl := by rw [List.map_map]; rfl
  rw [e] at h
  have q := x_any (p := p) (pos := pos) T_ h hg hmg hK hc he hpl
  rw [List.any_map] at q
  exact q
theorem x_sumM (T_ : TX mg) {α : Type} {l : List α} {f : α → Int} (h : EvD K Φ (wE F a) ρ (.lst (l.map fun c => .int (f c)))) (hg : ∀ i, Gl (F i) "sum" := by intro _; rfl) (hmg : ∀ i, (F i).mg = mg := by intro _; rfl) (hK : ∀ i, (F i).K = K := by intro _; rfl) (hc : ∀ i, (F i).calm = true := by intro _; rfl) (he : ∀ i, starEach [a] (F i).env = (false, eval a (F i).env) :: starEach [] (F i).env := by intro _; rfl) (hpl : ∀ i, (backTo pos (starEach [] (F i).env)).any (·.1) = false := by intro _; rfl) : EvD K Φ (wE F (.Call (.Name "sum" p) [a] [] pos)) ρ (.int (l.map f).sum) := by
  have e : (l.map fun c => Dt.int (f c)) = (l.map f).map Dt.int := by rw [List.map_map]; rfl
  rw [e] at h
  exact x_sum (p := p) (pos := pos) T_ h hg hmg hK hc he hpl
end
end SP
/-! P10 -/
namespace SP
open PySem PySem.Spec PyProof.Rows L2
/-! ### statements step by step -/
section
variable {ι : Type} {F : ι → Cx} {σ : L2.St} {H : Hp} {D : Ends} {st : Stmt} {sts body orelse : List Stmt} {e a b c tg it : Expr} {es : List Expr} {pos p : Pos} {Q : VK} {n : Str}
theorem c_cons (h : wS F st { D with nx := wSs F sts D } σ H) : wSs F (st :: sts) D σ H := ⟨_, fun i => pss_cons (wS_ok i) (wSs_ok i), h⟩
theorem c_one (h : wS F st D σ H) : wSs F [st] D σ H := ⟨_, fun i => pss_one (wS_ok i), h⟩
theorem c_nil (h : D.nx σ H) : wSs F [] D σ H := ⟨_, fun _ => pss_nil, h⟩
theorem c_ret (h : wE F e σ H D.rt) : wS F (.Return (some e) pos) D σ H := ⟨_, fun i => ps_ret (wE_ok i), h⟩
theorem c_expr (h : wE F e σ H fun _ H' => D.nx σ H') (hs : ∀ i, swapsWith e none pos.line (F i).env = pure false := by intro _; rfl) : wS F (.Expr e pos) D σ H := ⟨_, fun i => ps_expr (wE_ok i) (hs i), h⟩
theorem c_set {p' : Pos} (k : Nat) (hN : ∀ i, (F i).N.Nodup) (h : wE F e σ H fun v H' => D.nx (σ.set k (some v)) H') (hi : ∀ i, (F i).N[k]? = some n := by intro _; rfl) (hx : ∀ i, Loc (F i).env.scope n := by intro _; first | exact Or.inl rfl | exact Or.inr rfl)
    (hs : ∀ i, swapsWith e (some (.Name n p')) pos.line (F i).env = pure false := by intro _; rfl) (hf : ∀ i, (F i).fn n = true ∨ (F i).env.scope.names.lookup n = some .local := by intro _; first | exact .inl rfl | exact .inr rfl) : wS F (.Assign [.Name n p'] e pos) D σ H := ⟨_, fun i => ps_set (hN i) (hi i) (hx i) (wE_ok i) (hs i) (hf i), h⟩
theorem c_asg (h : wE F e σ H fun v H' => wG F tg v σ H' D.nx) (hs : ∀ i, swapsWithSole [tg] e pos.line (F i).env = pure false := by intro _; rfl) (hw : ∀ i, swappedStores [tg] e (F i).env = pure none := by intro _; rfl) (h1 : ∀ i, (assignEach [tg] (F i).env).map (·.2) = [assign tg (F i).env] := by intro _; rfl) : wS F (.Assign [tg] e pos) D σ H := ⟨_, fun i => ps_asg (wE_ok i) (wG_ok i) (hs i) (hw i) (h1 i), h⟩
theorem c_par {k1 k2 : Nat} {m : Str} {px py pt pt2 : Pos} {kt kt2} (hN : ∀ i, (F i).N.Nodup) (h : wA F [a, b] σ H fun vs H' => ∃ v w, vs = [v, w] ∧ D.nx ((σ.set k1 (some v)).set k2 (some w)) H') (hi : ∀ i, (F i).N[k1]? = some n := by intro _; rfl) (hj : ∀ i, (F i).N[k2]? = some m := by intro _; rfl) (hij : k1 ≠ k2 := by decide) (hx : ∀ i, (F i).env.scope.names.lookup n = some .local := by intro _; rfl) (hy : ∀ i, (F i).env.scope.names.lookup m = some .local := by intro _; rfl)
    (hw : ∀ i, swappedStores [.Tuple [.Name n px, .Name m py] kt pt] (.Tuple [a, b] kt2 pt2) (F i).env = pure (some [n, m]) := by intro _; rfl) (hs : ∀ i, swapsWithSole [.Tuple [.Name n px, .Name m py] kt pt] (.Tuple [a, b] kt2 pt2) pos.line (F i).env = pure false := by intro _; rfl) (hc : ∀ i, (F i).calm = true := by intro _; rfl) :
    wS F (.Assign [.Tuple [.Name n px, .Name m py] kt pt] (.Tuple [a, b] kt2 pt2) pos) D σ H := ⟨_, fun i => ps_par (hc i) (hN i) (hi i) (hj i) hij (hx i) (hy i) (wA_ok i) (hw i) (hs i), h⟩
theorem c_if (h : wT F c σ H fun k H' => if k = true then wSs F body D σ H' else wSs F orelse D σ H') : wS F (.If c body orelse pos) D σ H := ⟨_, fun i => ps_if (wT_ok i) (wSs_ok i) (wSs_ok i), h⟩
theorem c_for {X : Cx} (h : tFor (wI (un X) tg it) (wG (un X) tg) (wSs (un X) body) D σ H) (hp : PassesOwn (model X.prog X.w) X.A X.env X.xe := by exact PassesOwn.never) (hc : X.calm = true := by rfl) (hf : ∀ x, foldedSetIterable it X.env x = pure x := by intro _; rfl) : wS (un X) (.For tg it body [] pos) D σ H := ⟨_, for_ok hp hc hf, h⟩
theorem c_anil {Q : List V → Hp → Prop} (h : Q [] H) : wA F [] σ H Q := ⟨_, fun _ => pa_nil, h⟩
theorem c_acons {Q : List V → Hp → Prop} (h : wE F e σ H fun v H1 => wA F es σ H1 fun vs H2 => Q (v :: vs) H2) (hs : ∀ i, starEach (e :: es) (F i).env = (false, eval e (F i).env) :: starEach es (F i).env := by intro _; rfl) : wA F (e :: es) σ H Q := ⟨_, fun i => pa_cons (wE_ok i) (wA_ok i) (hs i), h⟩
theorem c_lst (h : wA F es σ H fun vs H1 => vs.length ≤ sizeLine ∧ ∀ p, H1 p = none → Q (.ref p) (upd H1 p (.lst vs))) : wE F (.List es pos) σ H Q := ⟨tLst (wA F es), fun i => pe_lst (wA_ok i), h⟩
theorem c_var (k : Nat) {v : V} (h : σ[k]? = some (some v)) (q : Q v H) (hN : ∀ i, (F i).N[k]? = some n := by intro _; rfl) (hv : ∀ i, Vis (F i).env.scope n := by intro _; first | exact Or.inl rfl | exact Or.inr (Or.inl rfl) | exact Or.inr (Or.inr rfl))
    (hd : (n == ("__debug__" : Str)) = false := by decide) (hcd : (n == ("__classdict__" : Str)) = false := by decide) : wE F (.Name n pos) σ H Q := ⟨_, fun i => pe_var (hN i) (hv i) hd hcd, v, h, q⟩
/-- l.append(e), the list in slot k -/
theorem c_app {apos cpos ap : Pos} (k : Nat) {l : Addr} {ys : List V} (hk : σ[k]? = some (some (.ref l))) (hl : H l = some (.lst ys)) (h : wE F e σ H fun v H2 => rAppend (.ref l) [v] H2 Q) (hN : ∀ i, (F i).N[k]? = some n := by intro _; rfl) (hv : ∀ i, Vis (F i).env.scope n := by intro _; first | exact Or.inl rfl | exact Or.inr (Or.inl rfl) | exact Or.inr (Or.inr rfl))
    (hd : (n == ("__debug__" : Str)) = false := by decide) (hcd : (n == ("__classdict__" : Str)) = false := by decide)
    (hbase : ∀ i, attributeBase (.Name n ap) "append" (F i).env (eval (.Name n ap) (F i).env) = eval (.Name n ap) (F i).env := by intro _; rfl)
    (hfew : ∀ i, ((backTo cpos (starEach [e] (F i).env)).all (fun x => !x.1) && (backToKw cpos (keywordEach [] (F i).env)).all (fun x => x.1.isSome)
      && decide (([e] : List Expr).length + ([] : List Keyword).length + (if ([] : List Keyword).isEmpty then 0 else 1) < 30)) = true := by intro _; rfl)
    (hline : (apos.endLine == cpos.line) = true := by rfl) (hs : ∀ i, starEach [e] (F i).env = (false, eval e (F i).env) :: starEach [] (F i).env := by intro _; rfl) (hpl : ∀ i, (backTo cpos (starEach [] (F i).env)).any (·.1) = false := by intro _; rfl)
    (K : PySem.W.Frag) (hK : ∀ i, (F i).K = K := by intro _; rfl) : wE F (.Call (.Attribute (.Name n ap) "append" apos) [e] [] cpos) σ H Q := by
  refine ⟨tBM K "list" rAppend (tVar k) (tCons (wE F e) tNil), fun i => ?_, .ref l, hk, .inl ⟨rfl, ys, .inl (.inl hl)⟩, h⟩
  have := pe_bm (X := F i) PySem.F.plainAttrs_list PySem.F.slot_list_append PySem.F.type_list_append mt_append (pe_var (hN i) (hv i) hd hcd) (pa_cons (wE_ok (F := F) (e := e) i) pa_nil (hs i)) (hbase i) (hfew i) hline (hs i) (hpl i)
  rw [hK i] at this
  exact this
end
/-! ### with what is known carried along -/
def SvI (K : PySem.W.Frag) (t : TS) (ρ : Rho) (I : MP) (ρ' : Rho) (I' : MP) : Prop := ∀ σ Hd H, Ex Hd H → EnvD K Hd σ ρ → I.p Hd H → ∀ D : Ends, (∀ σ' Hd' H', Ex Hd Hd' → Ex Hd' H' → EnvD K Hd' σ' ρ' → I'.p Hd' H' → D.nx σ' H') → t D σ H
section
variable {K : PySem.W.Frag} {ρ ρ1 ρ' : Rho} {I I1 I' : MP} {t u : TS} {g : TG} {wi : TI} {tb : TS}
theorem svi_of (h : SvD K I t ρ (.nx ρ')) : SvI K t ρ I ρ' I := fun σ Hd H e en p D q => h σ Hd H e en p D fun σ' Hd' H' s en' => q σ' Hd' H' s.ud s.sub en' (I.mono s p)
theorem svi_seq (h : SvI K t ρ I ρ1 I1) (k : SvI K u ρ1 I1 ρ' I') : SvI K (tSeq t u) ρ I ρ' I' := fun σ Hd H e en p D q => h σ Hd H e en p { D with nx := u D } fun σ1 Hd1 H1 u1 e1 en1 p1 => k σ1 Hd1 H1 e1 en1 p1 D fun σ2 Hd2 H2 u2 e2 en2 p2 => q σ2 Hd2 H2 (u1.trans u2) e2 en2 p2
theorem svi_for {α : Type} (l : List α) (enc : α → Dt) (hi : ItD K I wi ρ (l.map enc)) (R : Nat → Rho) (J : Nat → MP) (h0 : R 0 = ρ) (hJ : ∀ Hd H, I.p Hd H → (J 0).p Hd H) (hs : ∀ (i : Nat) a, l[i]? = some a → ∃ ρ1 js, GvD K g (enc a) (R i) ρ1 js ∧ SvI K tb ρ1 (J i) (R (i + 1)) (J (i + 1))) : SvI K (tFor wi g tb) ρ I (R l.length) (J l.length) := by
  intro σ Hd H e en p D q
  refine hi σ Hd H e en p _ fun W Hd1 H1 s1 ok => ?_
  have hlen : (l.map enc).length = l.length := List.length_map ..
  refine ⟨fun i m σ' H' => i ≤ l.length ∧ m = l.length - i ∧ ∃ Hd', Ex Hd1 Hd' ∧ Ex Hd' H' ∧ EnvD K Hd' σ' (R i) ∧ (J i).p Hd' H', ⟨l.length, Nat.zero_le _, rfl, Hd1, .refl _, s1.sub, by rw [h0]; exact en.mono s1.ud, hJ _ _ (I.mono s1 p)⟩, ?_⟩
  rintro i m σ' H' ⟨hil, rfl, Hd', u2, e2, en2, p2⟩
  have ex1 : Ex Hd1 H' := u2.trans e2
  by_cases hlt : i < l.length
  · obtain ⟨ρ1, js, hg, hb⟩ := hs i l[i] (List.getElem?_eq_getElem hlt)
    refine .inr ⟨ok.go i H' ex1 (by rw [hlen]; exact hlt), fun σ2 H2 => ∃ Hd2, Ex Hd1 Hd2 ∧ Ex Hd2 H2 ∧ EnvD K Hd2 σ2 (R (i + 1)) ∧ (J (i + 1)).p Hd2 H2, fun σ2 H2 ⟨Hd2, a, b, c, d⟩ => ⟨l.length - (i + 1), by omega, hlt, rfl, Hd2, a, b, c, d⟩, fun x H2 y => ?_⟩
    obtain ⟨Hd3, s3, ix⟩ := ok.yld i (enc l[i]) H' x H2 ex1 (by rw [List.getElem?_map, List.getElem?_eq_getElem hlt]; rfl) y Hd' u2 e2
    refine hg σ' Hd3 H2 x s3.sub (en2.mono s3.ud) ix _ fun σ3 en3 _ => ?_
    exact hb σ3 Hd3 H2 s3.sub en3 ((J i).mono s3 p2) _ fun σ4 Hd4 H4 u4 e4 en4 p4 => ⟨Hd4, u2.trans (s3.ud.trans u4), e4, en4, p4⟩
  · have hik : i = l.length := by omega
    subst hik
    exact .inl ⟨by have := ok.stop H' ex1; rw [hlen] at this; exact this, q σ' Hd' H' (s1.ud.trans u2) e2 en2 p2⟩
variable {F : Unit → Cx} {st : Stmt} {sts body : List Stmt} {tg it : Expr} {pos : Pos}
theorem si_one (h : SvI K (wS F st) ρ I ρ' I') : SvI K (wSs F [st]) ρ I ρ' I' := fun σ Hd H e en p D q => c_one (h σ Hd H e en p D q)
theorem si_cons (h : SvI K (wS F st) ρ I ρ1 I1) (k : SvI K (wSs F sts) ρ1 I1 ρ' I') : SvI K (wSs F (st :: sts)) ρ I ρ' I' := fun σ Hd H e en p D q => c_cons (svi_seq h k σ Hd H e en p D q)
theorem si_wk {ρ2 : Rho} (h : SvI K t ρ I ρ1 I') (w : Wk ρ1 ρ2) : SvI K t ρ I ρ2 I' := fun σ Hd H e en p D q => h σ Hd H e en p D fun σ' Hd' H' u1 e1 en1 p1 => q σ' Hd' H' u1 e1 (en1.weak w.len w.get) p1
theorem si_for {X : Cx} {α : Type} (l : List α) (enc : α → Dt) (hi : ItD K I (wI (un X) tg it) ρ (l.map enc)) (R : Nat → Rho) (J : Nat → MP) (h0 : R 0 = ρ) (hJ : ∀ Hd H, I.p Hd H → (J 0).p Hd H) (hs : ∀ (i : Nat) a, l[i]? = some a → ∃ ρ1 js, GvD K (wG (un X) tg) (enc a) (R i) ρ1 js ∧ SvI K (wSs (un X) body) ρ1 (J i) (R (i + 1)) (J (i + 1)))
    (hp : PassesOwn (model X.prog X.w) X.A X.env X.xe := by exact PassesOwn.never) (hc : X.calm = true := by rfl) (hf : ∀ x, foldedSetIterable it X.env x = pure x := by intro _; rfl) : SvI K (wS (un X) (.For tg it body [] pos)) ρ I (R l.length) (J l.length) := fun σ Hd H e en p D q =>
  c_for (svi_for l enc hi R J h0 hJ hs σ Hd H e en p D q) hp hc hf
end
/-! ### a list of the def's own, in slot k, that is appended to -/
/-- p: made since (Hd0, H0), not shared, a list of acc -/
def OwnL (K : PySem.W.Frag) (Hd0 H0 : Hp) (p : Addr) (acc : List Dt) : MP := ⟨fun Hd H => Stp NoM Hd0 H0 Hd H ∧ H0 p = none ∧ Hd p = none ∧ ∃ vs, H p = some (.lst vs) ∧ ImA K Hd vs acc, fun {Hd H Hd' H'} s ⟨a, b, c, vs, d, e⟩ => ⟨a.trans s, b, s.sep p (by rw [d]; intro z; cases z) c, vs, s.ex _ _ d, e.mono s.ud⟩⟩
section
variable {K : PySem.W.Frag} {ρ : Rho} {F : Unit → Cx} {e : Expr} {n : Str} {pos ap : Pos} {Hd0 H0 : Hp} {p : Addr} {acc : List Dt} {d : Dt}
theorem si_app {apos cpos : Pos} (k : Nat) (hk : ρ[k]? = some (some (.raw (.ref p)))) (h : EvD K (OwnL K Hd0 H0 p acc) (wE F e) ρ d) (hl : acc.length < 100000) (hN : ∀ i, (F i).N[k]? = some n := by intro _; rfl) (hv : ∀ i, Vis (F i).env.scope n := by intro _; first | exact Or.inl rfl | exact Or.inr (Or.inl rfl) | exact Or.inr (Or.inr rfl))
    (hd : (n == ("__debug__" : Str)) = false := by decide) (hcd : (n == ("__classdict__" : Str)) = false := by decide)
    (hbase : ∀ i, attributeBase (.Name n ap) "append" (F i).env (eval (.Name n ap) (F i).env) = eval (.Name n ap) (F i).env := by intro _; rfl)
    (hfew : ∀ i, ((backTo cpos (starEach [e] (F i).env)).all (fun x => !x.1) && (backToKw cpos (keywordEach [] (F i).env)).all (fun x => x.1.isSome)
      && decide (([e] : List Expr).length + ([] : List Keyword).length + (if ([] : List Keyword).isEmpty then 0 else 1) < 30)) = true := by intro _; rfl)
    (hline : (apos.endLine == cpos.line) = true := by rfl) (hs : ∀ i, starEach [e] (F i).env = (false, eval e (F i).env) :: starEach [] (F i).env := by intro _; rfl) (hpl : ∀ i, (backTo cpos (starEach [] (F i).env)).any (·.1) = false := by intro _; rfl)
    (hK : ∀ i, (F i).K = K := by intro _; rfl) (hsw : ∀ i, swapsWith (.Call (.Attribute (.Name n ap) "append" apos) [e] [] cpos) none pos.line (F i).env = pure false := by intro _; rfl) :
    SvI K (wS F (.Expr (.Call (.Attribute (.Name n ap) "append" apos) [e] [] cpos) pos)) ρ (OwnL K Hd0 H0 p acc) ρ (OwnL K Hd0 H0 p (acc ++ [d])) := fun σ Hd H ex en pp D q => by
  obtain ⟨v, hσ, iv⟩ := en.2 k _ hk
  rw [iv.raw_inv] at hσ
  obtain ⟨_, _, _, vs, hp, _⟩ := id pp
  refine c_expr (c_app k hσ hp (h σ Hd H ex en pp _ fun v Hd' H' s iv => ?_) hN hv hd hcd hbase hfew hline hs hpl K hK) hsw
  obtain ⟨a, b, c, vs', hp', ia⟩ := (OwnL K Hd0 H0 p acc).mono s pp
  refine ⟨p, vs', v, rfl, rfl, hp', by rw [ia.length]; exact Nat.lt_of_lt_of_le hl (by decide), ?_⟩
  have a' := a.mutNew (o := .lst (vs' ++ [v])) b c
  exact q σ Hd' _ s.ud a'.sub (en.mono s.ud) ⟨a', b, c, _, upd_same, ia.append (.cons iv .nil)⟩
end
end SP
/-! P11 -/
namespace SP
open PySem PySem.Spec PyProof.Rows L2
/-! ### instances whose fields are data -/
inductive FlD (K : PySem.W.Frag) (Hd : Hp) : List (Str × V) → List (Str × Dt) → Prop
  | nil : FlD K Hd [] []
  | cons {f : Str} {v : V} {d : Dt} {fl : List (Str × V)} {fs : List (Str × Dt)} : Im K Hd v d → FlD K Hd fl fs → FlD K Hd ((f, v) :: fl) ((f, d) :: fs)
def putFD (f : Str) (d : Dt) : List (Str × Dt) → List (Str × Dt)
  | [] => [(f, d)]
  | (g, x) :: r => if g = f then (g, d) :: r else (g, x) :: putFD f d r
section
variable {K : PySem.W.Frag} {Hd Hd' : Hp}
theorem FlD.mono (e : Ex Hd Hd') : ∀ {fl : List (Str × V)} {fs : List (Str × Dt)}, FlD K Hd fl fs → FlD K Hd' fl fs
  | _, _, .nil => .nil
  | _, _, .cons h t => .cons (h.mono e) (FlD.mono e t)
theorem FlD.get {f : Str} {d : Dt} : ∀ {fl : List (Str × V)} {fs : List (Str × Dt)}, FlD K Hd fl fs → fs.lookup f = some d → ∃ v, fl.lookup f = some v ∧ Im K Hd v d
  | _, _, .nil, h => by cases h
  | _, _, .cons (f := g) (v := v) (d := x) h t, e => by
    rw [List.lookup_cons] at e ⊢
    cases q : f == g with
    | true =>
      rw [q] at e
      cases e
      exact ⟨v, by simp, h⟩
    | false =>
      rw [q] at e
      obtain ⟨w, h1, h2⟩ := t.get (f := f) (d := d) e
      exact ⟨w, by simpa using h1, h2⟩
theorem FlD.none {f : Str} : ∀ {fl : List (Str × V)} {fs : List (Str × Dt)}, FlD K Hd fl fs → fs.lookup f = Option.none → fl.lookup f = Option.none
  | _, _, .nil, h => rfl
  | _, _, .cons (f := g) h t, e => by
    rw [List.lookup_cons] at e ⊢
    cases q : f == g with
    | true => rw [q] at e; cases e
    | false =>
      rw [q] at e
      simpa using t.none (f := f) e
theorem FlD.put {f : Str} {v : V} {d : Dt} (i : Im K Hd v d) : ∀ {fl : List (Str × V)} {fs : List (Str × Dt)}, FlD K Hd fl fs → FlD K Hd (putF f v fl) (putFD f d fs)
  | _, _, .nil => .cons i .nil
  | _, _, .cons (f := g) h t => by
    unfold putF putFD
    by_cases e : g = f
    · rw [if_pos e, if_pos e]
      exact .cons i t
    · rw [if_neg e, if_neg e]
      exact .cons h (t.put i)
theorem FlD.len : ∀ {fl : List (Str × V)} {fs : List (Str × Dt)}, FlD K Hd fl fs → fl.length = fs.length
  | _, _, .nil => rfl
  | _, _, .cons _ t => by rw [List.length_cons, List.length_cons, t.len]
end
def InsI (K : PySem.W.Frag) (C a : Addr) (fs : List (Str × Dt)) : MP := ⟨fun Hd H => Hd a = none ∧ ∃ dx fl, H a = some (.ins C dx fl) ∧ FlD K Hd fl fs, fun {Hd H Hd' H'} s ⟨h, dx, fl, e, q⟩ => ⟨s.sep a (by rw [e]; intro z; cases z) h, dx, fl, s.ex _ _ e, q.mono s.ud⟩⟩
def MP.and (a b : MP) : MP := ⟨fun Hd H => a.p Hd H ∧ b.p Hd H, fun s ⟨x, y⟩ => ⟨a.mono s x, b.mono s y⟩⟩
def StI (M : Addr → Prop) (Hd0 H0 : Hp) : MP := ⟨fun Hd H => Stp M Hd0 H0 Hd H, fun s a => a.trans s.nom⟩
theorem Stp.putAt {M : Addr → Prop} {Hd0 H0 Hd H : Hp} {p : Addr} {o : HO} (a : Stp M Hd0 H0 Hd H) (h : M p ∨ H0 p = none) (hd : Hd p = none) : Stp M Hd0 H0 Hd (upd H p o) := by
  rcases h with h | h
  · exact a.trans (Stp.mut a.sub h hd)
  · exact a.mutNew h hd
section
variable {K : PySem.W.Frag} {Φ : MP} {ρ : Rho} {F : Unit → Cx} {o e : Expr} {d : Dt} {a C : Addr} {fs : List (Str × Dt)} {f : Str} {pos p p' : Pos} {M : Addr → Prop} {Hd0 H0 : Hp} {J : MP}
/-- e.f, a field -/
theorem x_fld (hΦ : ∀ Hd H, Φ.p Hd H → (InsI K C a fs).p Hd H) (ho : EvD K Φ (wE F o) ρ (.raw (.ref a))) (hf : fs.lookup f = some d) (c : Cls K C) (n : NoAttr K C f) (hb : ∀ i, attributeBase o f (F i).env (eval o (F i).env) = eval o (F i).env := by intro _; rfl) (hK : ∀ i, (F i).K = K := by intro _; rfl) : EvD K Φ (wE F (.Attribute o f pos)) ρ d :=
  lE (fun i => by have := pe_fld (pos := pos) (wE_ok (F := F) (e := o) i) (hb i); rwa [hK i] at this) fun σ Hd H ex en pp Q q => ho σ Hd H ex en pp _ fun v Hd1 H1 s1 i1 => by
    rw [i1.raw_inv]
    obtain ⟨_, dx, fl, e1, e2⟩ := hΦ _ _ (Φ.mono s1 pp)
    obtain ⟨w, h1, h2⟩ := e2.get hf
    exact ⟨a, C, dx, fl, w, rfl, e1, c, n, h1, q w Hd1 H1 s1 h2⟩
/-- o.f = e -/
theorem si_fld (hm : M a ∨ H0 a = none) (hJ : ∀ Hd H o, J.p Hd H → J.p Hd (upd H a o)) (ho : EvD K (((StI M Hd0 H0).and J).and (InsI K C a fs)) (wE F o) ρ (.raw (.ref a))) (hv : EvD K (((StI M Hd0 H0).and J).and (InsI K C a fs)) (wE F e) ρ d) (c : Cls K C) (n : NoAttr K C f) (hl : Nat.ble fs.length 3 = true := by rfl)
    (hs : ∀ i, swapsWith e (some (.Attribute o f p')) pos.line (F i).env = pure false := by intro _; rfl) (hK : ∀ i, (F i).K = K := by intro _; rfl) : SvI K (wS F (.Assign [.Attribute o f p'] e pos)) ρ (((StI M Hd0 H0).and J).and (InsI K C a fs)) ρ (((StI M Hd0 H0).and J).and (InsI K C a (putFD f d fs))) := fun σ Hd H ex en pp D q => by
  refine ⟨sFld K (wE F o) (wE F e) f, fun i => by have := ps_fld (wE_ok (F := F) (e := o) i) (wE_ok (F := F) (e := e) i) (hs i); rwa [hK i] at this, ?_⟩
  refine hv σ Hd H ex en pp _ fun v Hd1 H1 s1 i1 => ?_
  have p1 := (((StI M Hd0 H0).and J).and (InsI K C a fs)).mono s1 pp
  refine ho σ Hd1 H1 s1.sub (en.mono s1.ud) p1 _ fun w Hd2 H2 s2 i2 => ?_
  rw [i2.raw_inv]
  obtain ⟨⟨t1, t2⟩, t3, dx, fl, e1, e2⟩ := (((StI M Hd0 H0).and J).and (InsI K C a fs)).mono s2 p1
  have t1' : Stp M Hd0 H0 Hd2 H2 := t1
  have st := t1'.putAt (o := .ins C dx (putF f v fl)) hm t3
  refine ⟨a, C, dx, fl, rfl, e1, c, n, by rw [e2.len]; exact Nat.lt_of_le_of_lt (Nat.le_of_ble_eq_true hl) (by decide), q σ Hd2 _ (s1.ud.trans s2.ud) st.sub (en.mono (s1.ud.trans s2.ud)) ⟨⟨st, hJ _ _ _ t2⟩, t3, dx, _, upd_same, e2.put (i1.mono s2.ud)⟩⟩
/-- starred items in a display -/
theorem a_star {es : List Expr} {xs ds : List Dt} {k : Bool} (h : EvD K Φ (wE F e) ρ (.tp k xs)) (hr : EvA K Φ (wA F es) ρ ds) (hs : ∀ i, starEach (.Starred e p :: es) (F i).env = (true, eval e (F i).env) :: starEach es (F i).env := by intro _; rfl) (hK : ∀ i, (F i).K = K := by intro _; rfl) : EvA K Φ (wA F (.Starred e p :: es)) ρ (xs ++ ds) :=
  lA (fun i => by have := StX.pa_star (p := p) (wE_ok (F := F) (e := e) i) (wA_ok (F := F) (e := es) i) (hs i); rwa [hK i] at this) fun σ Hd H ex en pp Q q => h σ Hd H ex en pp _ fun v Hd1 H1 s1 i1 => by
    obtain ⟨b, us, rfl, hb, ia⟩ := i1.tp_inv
    refine ⟨b, us, rfl, .inl (.inl (ex_rd s1.sub hb)), hr σ Hd1 H1 s1.sub (en.mono s1.ud) (Φ.mono s1 pp) _ fun ws Hd2 H2 s2 i2 => q _ Hd2 H2 (s1.trans s2) ((ia.mono s2.ud).append i2)⟩
end
/-- .. ending with a return -/
def SvR (K : PySem.W.Frag) (t : TS) (ρ : Rho) (I : MP) (r : Dt) (I' : MP) : Prop := ∀ σ Hd H, Ex Hd H → EnvD K Hd σ ρ → I.p Hd H → ∀ D : Ends, (∀ v Hd' H', Ex Hd Hd' → Ex Hd' H' → Im K Hd' v r → I'.p Hd' H' → D.rt v H') → t D σ H
section
variable {K : PySem.W.Frag} {ρ ρ1 : Rho} {I I1 I' : MP} {F : Unit → Cx} {st : Stmt} {sts : List Stmt} {e : Expr} {r : Dt} {pos : Pos}
theorem sr_cons (h : SvI K (wS F st) ρ I ρ1 I1) (k : SvR K (wSs F sts) ρ1 I1 r I') : SvR K (wSs F (st :: sts)) ρ I r I' := fun σ Hd H ex en p D q => c_cons (h σ Hd H ex en p _ fun σ1 Hd1 H1 u1 ex1 en1 p1 => k σ1 Hd1 H1 ex1 en1 p1 D fun v Hd2 H2 u2 ex2 iv p2 => q v Hd2 H2 (u1.trans u2) ex2 iv p2)
theorem sr_ret (h : EvD K I (wE F e) ρ r) : SvR K (wSs F [.Return (some e) pos]) ρ I r I := fun σ Hd H ex en p D q => c_one (c_ret (h σ Hd H ex en p _ fun v Hd' H' s iv => q v Hd' H' s.ud s.sub iv (I.mono s p)))
theorem sv_to {t : TS} {Φ : MP} {ρ ρ1 ρ2 : Rho} (h : SvD K Φ t ρ (.nx ρ1)) (e : ρ1 = ρ2) : SvD K Φ t ρ (.nx ρ2) := e ▸ h
end
/-! ### promises of methods -/
/-- it reads: the answer by R of the fields and the arguments -/
def RdSp (K : PySem.W.Frag) (C : Addr) (R : List (Str × Dt) → List Dt → Dt → Prop) : Sp := fun vs H Q _ => ∃ (Hd : Hp) (a : Addr) (fs : List (Str × Dt)) (us : List V) (ts : List Dt) (r : Dt), vs = .ref a :: us ∧ Ex Hd H ∧ (InsI K C a fs).p Hd H ∧ ImA K Hd us ts ∧ R fs ts r ∧ ∀ v Hd' H', Stp NoM Hd H Hd' H' → Im K Hd' v r → Q v H'
/-- it changes the fields to fs' -/
def MutSp (K : PySem.W.Frag) (C : Addr) (R : List (Str × Dt) → List Dt → Dt → List (Str × Dt) → Prop) : Sp := fun vs H Q _ => ∃ (Hd : Hp) (a : Addr) (fs : List (Str × Dt)) (us : List V) (ts : List Dt) (r : Dt) (fs' : List (Str × Dt)), vs = .ref a :: us ∧ Ex Hd H ∧ (InsI K C a fs).p Hd H ∧ ImA K Hd us ts ∧ R fs ts r fs' ∧
  ∀ v Hd' H', Stp (· = a) Hd H Hd' H' → (InsI K C a fs').p Hd' H' → Im K Hd' v r → Q v H'
/-- a def of the class -/
structure MDef (K : PySem.W.Frag) (C : Addr) (n qual : Str) (st : Stmt) (ps : List Str) : Prop where
  ex : ∃ f fd, Meth K C n f ∧ Fun K n qual st f fd ∧ Binds K fd ps []
structure MCal (P : Program) (w : World) (K : PySem.W.Frag) (mg : Str → Option Value) (base : Heap) (C : Addr) (n : Str) (k : Nat) (ps : List Str) (sp : Sp) : Prop where
  ex : ∃ f fd, Meth K C n f ∧ Binds K fd ps [] ∧ FnOk P w K mg base CX0 k f fd ps sp
/-- o.m(e, ..) -/
theorem pe_mcal {X : Cx} {pl : Sem Bool} {C : Addr} {n : Str} {k j : Nat} {ps : List Str} {sp : Sp} {o e : Expr} {es : List Expr} {apos pos : Pos} {ta : TE} {t : TA} (m : MCal X.prog X.w X.K X.mg X.base C n k ps sp) (c : Cls X.K C) (hr : Room j X.A) (hkj : k ≤ j) (ho : PE X o ta) (ha : PA X (e :: es) t)
    (hst : starEach (e :: es) X.env = (false, eval e X.env) :: starEach es X.env := by rfl) (hpl : (backTo pos (starEach es X.env)).any (·.1) = false := by rfl)
    (ht : eval (.Call (.Attribute o n apos) (e :: es) [] pos) X.env = (do
      let ov ← eval o X.env
      standAt apos.atName
      let (f, first) ← holding [ov] (getMethod ov n pl)
      callWith pos f first (backTo pos (starEach (e :: es) X.env)) (backToKw pos (keywordEach [] X.env))) := by rfl) : PE X (.Call (.Attribute o n apos) (e :: es) [] pos) (tMeth C n sp [] E0 ta t) := by
  obtain ⟨f, fd, h1, h2, h3⟩ := m.ex
  exact pe_meth ho c h1 h3 (hr.mono hkj) h2 .nil pass0 ha hst hpl ht
theorem pe_mcal0 {X : Cx} {pl : Sem Bool} {C : Addr} {n : Str} {k j : Nat} {ps : List Str} {sp : Sp} {o : Expr} {apos pos : Pos} {ta : TE} (m : MCal X.prog X.w X.K X.mg X.base C n k ps sp) (c : Cls X.K C) (hr : Room j X.A) (hkj : k ≤ j) (ho : PE X o ta)
    (ht : eval (.Call (.Attribute o n apos) [] [] pos) X.env = (do
      let ov ← eval o X.env
      standAt apos.atName
      let (f, first) ← holding [ov] (getMethod ov n pl)
      callWith pos f first (backTo pos (starEach [] X.env)) (backToKw pos (keywordEach [] X.env))) := by rfl) : PE X (.Call (.Attribute o n apos) [] [] pos) (tMeth C n sp [] E0 ta tNil) := by
  obtain ⟨f, fd, h1, h2, h3⟩ := m.ex
  exact pe_meth0 ho c h1 h3 (hr.mono hkj) h2 .nil pass0 ht
section
variable {P : Program} {w : World} {K : PySem.W.Frag} {mg : Str → Option Value} {base : Heap} {C : Addr} {n qual : Str} {st : Stmt} {N ps : List Str} {k : Nat}
theorem mcal_any {sp : Sp} (D : MDef K C n qual st ps) (S : FnScope N ps (defScope st)) (len : ∀ vs H Q E, sp vs H Q E → vs.length = ps.length)
    (hbody : ∀ (f : Addr) (cdv : Value) (A : Around) (outer : List Env) (s : Shared) (H : Hp) (E : XK), Room k (dCx P w K mg base N qual st f cdv A outer s H E).A → ∀ vs Q, sp vs H Q E →
      wSs (un (dCx P w K mg base N qual st f cdv A outer s H E)) (defBody st) { nx := fun _ H' => Q .non H', rt := Q } (start N vs) H) : MCal P w K mg base C n (k + 1) ps sp := by
  obtain ⟨f, fd, h1, h2, h3⟩ := D.ex
  exact ⟨f, fd, h1, h3, h2.ok S len fun cdv A outer s H vs Q E hr hsp => ⟨_, wSs_ok (F := un (dCx P w K mg base N qual st f cdv A outer s H E)) (), hbody f cdv A outer s H E hr vs Q hsp⟩⟩
theorem mcal_rd {R : List (Str × Dt) → List Dt → Dt → Prop} (D : MDef K C n qual st ps) (S : FnScope N ps (defScope st)) (len : ∀ fs ts r, R fs ts r → ts.length + 1 = ps.length)
    (hbody : ∀ (f : Addr) (cdv : Value) (A : Around) (outer : List Env) (s : Shared) (H : Hp) (E : XK), Room k (dCx P w K mg base N qual st f cdv A outer s H E).A → ∀ a fs ts r, R fs ts r →
      ∃ o, SvD K (InsI K C a fs) (wSs (un (dCx P w K mg base N qual st f cdv A outer s H E)) (defBody st)) (startD N (.raw (.ref a) :: ts)) o ∧ Gives o r) : MCal P w K mg base C n (k + 1) ps (RdSp K C R) :=
  mcal_any D S (fun vs H Q E h => by
    obtain ⟨Hd, a, fs, us, ts, r, rfl, _, _, ia, hR, _⟩ := h
    rw [List.length_cons, ia.length]
    exact len fs ts r hR) fun f cdv A outer s H E hr vs Q h => by
    obtain ⟨Hd, a, fs, us, ts, r, rfl, ex, hi, ia, hR, q⟩ := h
    obtain ⟨o, ho, hg⟩ := hbody f cdv A outer s H E hr a fs ts r hR
    refine ho _ Hd H ex (env_start N (ts := .raw (.ref a) :: ts) (.cons (.raw _) ia)) hi _ ?_
    rcases hg with rfl | ⟨⟨ρ, rfl⟩, rfl⟩
    · exact fun v Hd' H' s' i' => q v Hd' H' s' i'
    · exact fun σ' Hd' H' s' _ => q .non Hd' H' s' .non
theorem mcal_mut {R : List (Str × Dt) → List Dt → Dt → List (Str × Dt) → Prop} (D : MDef K C n qual st ps) (S : FnScope N ps (defScope st)) (len : ∀ fs ts r fs', R fs ts r fs' → ts.length + 1 = ps.length)
    (hbody : ∀ (f : Addr) (cdv : Value) (A : Around) (outer : List Env) (s : Shared) (H : Hp) (E : XK), Room k (dCx P w K mg base N qual st f cdv A outer s H E).A → ∀ Hd a fs vs ts r fs' Q, Ex Hd H → (InsI K C a fs).p Hd H → EnvD K Hd (start N vs) (startD N (.raw (.ref a) :: ts)) → R fs ts r fs' → (∀ v Hd' H', Stp (· = a) Hd H Hd' H' → (InsI K C a fs').p Hd' H' → Im K Hd' v r → Q v H') →
      wSs (un (dCx P w K mg base N qual st f cdv A outer s H E)) (defBody st) { nx := fun _ H' => Q .non H', rt := Q } (start N vs) H) : MCal P w K mg base C n (k + 1) ps (MutSp K C R) :=
  mcal_any D S (fun vs H Q E h => by
    obtain ⟨Hd, a, fs, us, ts, r, fs', rfl, _, _, ia, hR, _⟩ := h
    rw [List.length_cons, ia.length]
    exact len fs ts r fs' hR) fun f cdv A outer s H E hr vs Q h => by
    obtain ⟨Hd, a, fs, us, ts, r, fs', rfl, ex, hi, ia, hR, q⟩ := h
    exact hbody f cdv A outer s H E hr Hd a fs _ ts r fs' Q ex hi (env_start N (ts := .raw (.ref a) :: ts) (.cons (.raw _) ia)) hR q
end
end SP
/-! M0 -/
namespace SP
open PySem L2
/-! ### the plain data -/
/-- a run: how many coins (none: to the end), its figures -/
abbrev Run := Option Nat × List Nat
structure Deal where
  names : List Str
  runs : List Run
/-- the text of figures -/
def figS (l : List Nat) : Str := ⟨(l.map (48 + ·)).toArray⟩
def sgF (c : Nat) : Str := sg (48 + c)
def encN (ns : List Str) : Dt := .tux (ns.map Dt.str)
def encO : Option Nat → Dt
  | none => .non
  | some n => .int (n : Int)
def encRun (r : Run) : Dt := .tux [encO r.1, .str (figS r.2)]
def encRuns (rs : List Run) : Dt := .tux (rs.map encRun)
def encDeal (d : Deal) : Dt := .tux [encN d.names, encRuns d.runs]
theorem figS_cps (l : List Nat) : (figS l).cps.toList = l.map (48 + ·) := by simp [figS]
theorem figS_len (l : List Nat) : (figS l).length = l.length := by simp [figS, Str.length]
/-! ### what the program counts -/
def countIn (f : List Nat) (c n : Nat) : Nat := n / f.length * f.count c + (f.take (n % f.length)).count c
def partsOf : List Run → Nat → List Nat
  | [], _ => []
  | (none, _) :: rs, n => n :: partsOf rs (n - n)
  | (some s, _) :: rs, n => min n s :: partsOf rs (n - min n s)
def countBy (rs : List Run) (c n : Nat) : Nat := ((rs.zip (partsOf rs n)).map fun p => countIn p.1.2 c p.2).sum
def hasIn (d : Deal) (n : Nat) : List Nat := (List.range d.names.length).map fun i => countBy d.runs i n
def placesOf (c : Nat) (f : List Nat) : List Nat := (f.zipIdx.filter fun p => p.1 == c).map Prod.snd
/-- the coin looked for lies in this run -/
def hitR (c : Nat) (r : Run) (l : Nat) : Bool := decide (0 < r.2.count c) && (match r.1 with | none => true | some n => decide (l ≤ countIn r.2 c n))
def stepR (c : Nat) (r : Run) (s : Nat × Nat) : Nat × Nat := match r.1 with
  | none => s
  | some n => (s.1 + n, s.2 - countIn r.2 c n)
def foundR (c : Nat) (r : Run) (s : Nat × Nat) : Nat := s.1 + (s.2 - 1) / r.2.count c * r.2.length + (placesOf c r.2).getD ((s.2 - 1) % r.2.count c) 0 + 1
def reachGo (c : Nat) : List Run → Nat × Nat → Option Nat
  | [], _ => none
  | r :: rs, s => if hitR c r s.2 = true then some (foundR c r s) else reachGo c rs (stepR c r s)
def reachIn (rs : List Run) (c many : Nat) : Option Nat := if many = 0 then some 0 else reachGo c rs (0, many)
/-! ### validity -/
def wordOk (w : Str) : Prop := 1 ≤ w.length ∧ w.length ≤ 6 ∧ ∀ c ∈ w.cps.toList, c ∈ ("abcdefghijklmnopqrstuvwxyz" : Str).cps.toList
def Inc : List Str → Prop
  | [] => True
  | [_] => True
  | a :: b :: r => a.cps.toList < b.cps.toList ∧ Inc (b :: r)
structure NamesOk (ns : List Str) : Prop where
  pos : 1 ≤ ns.length
  most : ns.length ≤ 6
  words : ∀ w ∈ ns, wordOk w
  inc : Inc ns
def figsOk (k : Nat) (f : List Nat) : Prop := 1 ≤ f.length ∧ f.length ≤ 400 ∧ ∀ c ∈ f, c < k
/-- all runs but the last have a size -/
def RunsOk (k : Nat) : List Run → Prop
  | [] => False
  | [(s, f)] => s = none ∧ figsOk k f
  | (s, f) :: r :: rs => (∃ n, s = some n ∧ 1 ≤ n ∧ n ≤ 1000000000000) ∧ figsOk k f ∧ RunsOk k (r :: rs)
structure DealOk (d : Deal) : Prop where
  names : NamesOk d.names
  runs : RunsOk d.names.length d.runs
  most : d.runs.length ≤ 60
end SP
/-! M1 -/
namespace SP
open PySem PySem.Spec PyProof.Rows L2
theorem cnt_map (c : Nat) : ∀ l : List Nat, cnt (48 + c) (l.map (48 + ·)) = (l.count c : Nat)
  | [] => rfl
  | n :: r => by
    rw [List.map_cons, cnt_cons, cnt_map c r, List.count_cons]
    by_cases h : n = c
    · subst h; simp; omega
    · have h' : ¬ 48 + n = 48 + c := by omega
      simp [h, h']
theorem count_figS (l : List Nat) (c : Nat) : Txt.count (figS l) (sgF c) = (l.count c : Nat) := by
  have h := count_cnt (figS l) (48 + c)
  rw [figS_cps, cnt_map] at h
  exact h
theorem sIx_end (n k : Nat) : HT.sIx n n (some (k : Int)) = min k n := HT.sIx_nat n n k
theorem sIx_beg (n k : Nat) : HT.sIx n 0 (some (k : Int)) = min k n := HT.sIx_nat n 0 k
theorem cutD_take {α : Type} (xs : List α) (k : Nat) : cutD xs none (some (k : Int)) = xs.take k := by
  unfold cutD
  rw [sIx_end, HT.sIx_none, List.drop_zero, Nat.sub_zero, ← List.take_eq_take_min]
theorem cutD_drop {α : Type} (xs : List α) (k : Nat) : cutD xs (some (k : Int)) none = xs.drop k := by
  unfold cutD
  rw [sIx_beg, HT.sIx_none]
  by_cases h : k ≤ xs.length
  · rw [Nat.min_eq_left h, List.take_of_length_le (by rw [List.length_drop]; omega)]
  · rw [Nat.min_eq_right (by omega), Nat.sub_self, List.take_zero, List.drop_eq_nil_of_le (by omega)]
theorem cutS_take (w : Str) (k : Nat) : cutS w none (some (k : Int)) = ⟨(w.cps.toList.take k).toArray⟩ := by
  unfold cutS
  rw [sIx_end, HT.sIx_none, List.drop_zero, Nat.sub_zero]
  have : w.length = w.cps.toList.length := by simp [Str.length]
  rw [this, ← List.take_eq_take_min]
theorem cutS_fig (l : List Nat) (k : Nat) : cutS (figS l) none (some (k : Int)) = figS (l.take k) := by
  rw [cutS_take, figS_cps, ← List.map_take]
  rfl
theorem str_ext {a b : Str} (h : a.cps.toList = b.cps.toList) : a = b := strs_eq h
theorem str_app (a b : Str) : (a ++ b).cps.toList = a.cps.toList ++ b.cps.toList := by
  show (a.cps ++ b.cps).toList = _
  simp
theorem join_figs : ∀ l : List Nat, Str.join ("" : Str) (l.map sgF) = figS l
  | [] => rfl
  | [c] => rfl
  | c :: d :: r => by
    have ih := join_figs (d :: r)
    rw [List.map_cons] at ih
    show sgF c ++ ("" : Str) ++ Str.join ("" : Str) (sgF d :: r.map sgF) = _
    rw [ih]
    apply str_ext
    rw [str_app, str_app, figS_cps, figS_cps]
    rfl
theorem tjoin_figs (l : List Nat) : Txt.join ("" : Str) (l.map sgF) = figS l := by
  have h := join_plain_closes ("" : Str) (l.map sgF)
  rw [beq_iff_eq] at h
  rw [h, join_figs]
/-- the k-th of the ten figures -/
theorem digit_at (k : Nat) (h : k < 10) : ("0123456789" : Str).cps.toList[k]? = some (48 + k) := by
  have : ∀ j : Fin 10, ("0123456789" : Str).cps.toList[j.1]? = some (48 + j.1) := by decide +kernel
  exact this ⟨k, h⟩
theorem digit6_at (k : Nat) (h : k < 6) : ("012345" : Str).cps.toList[k]? = some (48 + k) := by
  have : ∀ j : Fin 6, ("012345" : Str).cps.toList[j.1]? = some (48 + j.1) := by decide +kernel
  exact this ⟨k, h⟩
theorem mem_digits {k c : Nat} (h : c < k) (hk : k ≤ 10) : 48 + c ∈ (cutS ("0123456789" : Str) none (some (k : Int))).cps.toList := by
  rw [cutS_take]
  show 48 + c ∈ ("0123456789" : Str).cps.toList.take k
  refine List.mem_of_getElem? (i := c) ?_
  rw [List.getElem?_take_of_lt h]
  exact digit_at c (by omega)
end SP
/-! Q1 -/
namespace SP
open PySem PySem.Spec PyProof.Rows L2
section
variable {P : Program} {w : World} {K : PySem.W.Frag} {mg : Str → Option Value} {base : Heap}
theorem sc14 : FnScope ["thing", "least", "most"] ["thing", "least", "most"] (defScope (top 14)) := ⟨rfl, rfl, rfl, by decide +kernel, rfl, by decide +kernel, by decide +kernel⟩
def RWhole : List Dt → Dt → Prop := fun ts r => ∃ t a b : Int, ts = [.int t, .int a, .int b] ∧ r = .bl (decide (a ≤ t) && decide (t ≤ b))
theorem d_is_whole (T : TX mg) (D : DefAt K mg "is_whole" (top 14) ["thing", "least", "most"]) : Callee P w K mg base "is_whole" 1 ["thing", "least", "most"] (spD K RWhole) :=
  cal_data D sc14 (by rintro _ _ ⟨t, a, b, rfl, _⟩; rfl) fun f cdv A outer s H E hr ts r hR => by
    obtain ⟨t, a, b, rfl, rfl⟩ := hR
    refine ⟨_, ss_one (s_ret (x_and (x_isi T (x_var 0) rfl kb_ii boot_int T.int) fun _ => x_and (x_not (x_isi T (x_var 0) rfl kb_ib boot_bool T.bool)) fun _ => x_bo1 (x_chain (fun _ => op_le) (fun _ => op_le) (x_var 1) (x_var 0) (x_var 2) rd_ib rd_ib))), .inl ?_⟩
    simp
end
end SP
/-! Q2 -/
namespace SP
open PySem PySem.Spec PyProof.Rows L2
/-! ### more forms -/
theorem it_is {K : PySem.W.Frag} {Φ : MP} {wi : TI} {ρ : Rho} {a b : List Dt} (h : ItD K Φ wi ρ a) (e : a = b) : ItD K Φ wi ρ b := e ▸ h
theorem a_is {K : PySem.W.Frag} {Φ : MP} {ta : TA} {ρ : Rho} {a b : List Dt} (h : EvA K Φ ta ρ a) (e : a = b) : EvA K Φ ta ρ b := e ▸ h
theorem all_eq {α : Type} (l : List α) (f : α → Bool) : (l.map fun a => Dt.bl (f a)) = (l.map f).map Dt.bl := by rw [List.map_map]; rfl
theorem all_true {α : Type} {l : List α} {f : α → Bool} (h : ∀ a ∈ l, f a = true) : ((l.map f).all id) = true := by
  rw [List.all_eq_true]
  intro b hb
  obtain ⟨a, ha, rfl⟩ := List.mem_map.mp hb
  exact h a ha
section
variable {P : Program} {w : World} {K : PySem.W.Frag} {mg : Str → Option Value} {base : Heap}
theorem sc15 : FnScope ["thing", "sign"] ["thing"] (defScope (top 15)) := ⟨rfl, rfl, rfl, by decide +kernel, rfl, by decide +kernel, by decide +kernel⟩
def RWord : List Dt → Dt → Prop := fun ts r => ∃ w : Str, ts = [.str w] ∧ wordOk w ∧ r = .bl true
theorem d_is_word (T : TX mg) (D : DefAt K mg "is_word" (top 15) ["thing"]) : Callee P w K mg base "is_word" 1 ["thing"] (spD K RWord) :=
  cal_data D sc15 (by rintro _ _ ⟨w, rfl, _⟩; rfl) fun f cdv A outer s H E hr ts r hR => by
    obtain ⟨w, rfl, ⟨h1, h2, h3⟩, rfl⟩ := hR
    obtain ⟨t1, e1⟩ := T.mostSigns
    obtain ⟨t2, e2⟩ := T.letters
    refine ⟨_, ss_one (s_ret (x_and (x_isi T (x_var 0) rfl kb_ss boot_str T.str) fun _ => x_and (x_chain (fun _ => op_le) (fun _ => op_le) x_int (x_lenS T (x_var 0) (by omega)) (x_gint fun _ => e1) rd_ib rd_ib) fun _ => x_bo1 (x_allM T
      (x_lcA sc15 [("sign", 1)] w.cps.toList (fun c => .str (sg c)) (fun c => .bl (decide (c ∈ ("abcdefghijklmnopqrstuvwxyz" : Str).cps.toList))) (i_str (x_var 0)) (by simpa [Str.length] using (show w.length ≤ 100000 by omega))
        (fun c hc => ⟨_, _, g_name 1 (fun _ => sc15.nd), by simp, x_cmp (fun _ => op_in_sign) (x_var 1) (x_gstr fun _ => e2) rd_inS (by with_unfolding_all rfl)⟩))))), .inl ?_⟩
    have a0 : w.cps.toList.all (fun c => decide (c ∈ ("abcdefghijklmnopqrstuvwxyz" : Str).cps.toList)) = true := List.all_eq_true.mpr fun c hc => decide_eq_true (h3 c hc)
    have a1 : decide ((1 : Int) ≤ (w.length : Int)) = true := decide_eq_true (by omega)
    have a2 : decide ((w.length : Int) ≤ 6) = true := decide_eq_true (by omega)
    rw [a0, a1, a2]
    rfl
end
end SP
/-! Q3 -/
namespace SP
open PySem PySem.Spec PyProof.Rows L2
theorem cutD1 {α : Type} (xs : List α) : cutD xs (some 1) none = xs.drop 1 := cutD_drop xs 1
theorem zip_lem (ns : List Str) : List.map pairD ((List.map Dt.str ns).zip (cutD (List.map Dt.str ns) (some 1) none)) = List.map (fun p => Dt.tup [Dt.str p.fst, Dt.str p.snd]) (ns.zip (List.drop 1 ns)) := by
  rw [cutD1, ← List.map_drop, List.zip_map, List.map_map]
  rfl
theorem idx_lem {α : Type} (f : α → Dt) (l : List α) : List.map numD (List.map f l).zipIdx = List.map (fun p => Dt.tup [Dt.int (p.2 : Int), f p.1]) l.zipIdx := by
  rw [List.zipIdx_map, List.map_map]
  rfl
theorem inc_zip : ∀ ns : List Str, Inc ns → ∀ p ∈ ns.zip (ns.drop 1), p.1.cps.toList < p.2.cps.toList
  | [], _, p, h => by simp at h
  | [a], _, p, h => by simp at h
  | a :: b :: r, hi, p, h => by
    simp only [List.drop_succ_cons, List.drop_zero, List.zip_cons_cons, List.mem_cons] at h
    rcases h with rfl | h
    · exact hi.1
    · exact inc_zip (b :: r) hi.2 p (by simpa using h)
section
variable {P : Program} {w : World} {K : PySem.W.Frag} {mg : Str → Option Value} {base : Heap}
theorem sc16 : FnScope ["thing", "one", "other"] ["thing"] (defScope (top 16)) := ⟨rfl, rfl, rfl, by decide +kernel, rfl, by decide +kernel, by decide +kernel⟩
def RNames : List Dt → Dt → Prop := fun ts r => ∃ ns, ts = [encN ns] ∧ NamesOk ns ∧ r = .bl true
theorem d_are_names (T : TX mg) (D : DefAt K mg "are_names" (top 16) ["thing"]) (C : Callee P w K mg base "is_word" 1 ["thing"] (spD K RWord)) : Callee P w K mg base "are_names" 2 ["thing"] (spD K RNames) :=
  cal_data D sc16 (by rintro _ _ ⟨ns, rfl, _⟩; rfl) fun f cdv A outer s H E hr ts r hR => by
    obtain ⟨ns, rfl, ok, rfl⟩ := hR
    obtain ⟨t1, e1⟩ := T.mostNames
    have l1 := ok.pos
    have l2 := ok.most
    refine ⟨_, ss_cons (s_ifN (et_is (t_w (w_or (t_not (t_val (x_isi T (x_var 0) rfl kb_tt boot_tuple T.tuple))) fun _ => w_or (t_not (t_chain (fun _ => op_le) (fun _ => op_le) x_int (x_lenT T (x_var 0)) (x_gint fun _ => e1) rd_ib rd_ib)) fun _ => w_or1 (t_not (t_val (x_allM T
      (x_lcA sc16 [("one", 1)] ns (fun n => .str n) (fun _ => .bl true) (i_tup (x_var 0)) (by omega)
        (fun n hn => ⟨_, _, g_name 1 (fun _ => sc16.nd), by simp, x_call (fun _ => C) (fun _ => hr) (a_one (x_var 1)) ⟨n, rfl, ok.words n hn, rfl⟩⟩))))))) ?_))
      (ss_one (s_ret (x_allM T
      (x_lcA sc16 [("one", 1), ("other", 2)] (ns.zip (ns.drop 1)) (fun p => .tup [.str p.1, .str p.2]) (fun p => .bl (decide (p.1.cps.toList < p.2.cps.toList)))
        (it_is (i_zp (fun _ => T.zip) (a_two (x_var 0) (x_slT (x_var 0) (o_some x_int) o_none)) (.t _ _) (.t _ _)) ?_) ?_
        (fun p hp => ⟨_, _, g_two (k1 := 1) (k2 := 2) (fun _ => sc16.nd), by simp, x_cmp (fun _ => op_lt_str) (x_var 1) (x_var 2) rd_lts (nomark _)⟩))))), .inl ?_⟩
    · rw [List.length_map]
      have a1 : decide ((1 : Int) ≤ (ns.length : Int)) = true := decide_eq_true (by omega)
      have a2 : decide ((ns.length : Int) ≤ 6) = true := decide_eq_true (by omega)
      have a3 : (ns.all fun _ => true) = true := List.all_eq_true.mpr fun _ _ => rfl
      rw [a1, a2, a3]
      rfl
    · exact zip_lem ns
    · rw [List.length_zip]
      omega
    · rw [List.all_eq_true.mpr fun p hp => decide_eq_true (inc_zip ns ok.inc p hp)]
theorem sc17 : FnScope ["many", "thing", "sign"] ["many", "thing"] (defScope (top 17)) := ⟨rfl, rfl, rfl, by decide +kernel, rfl, by decide +kernel, by decide +kernel⟩
def RFigs : List Dt → Dt → Prop := fun ts r => ∃ (k : Nat) (f : List Nat), ts = [.int (k : Int), .str (figS f)] ∧ k ≤ 10 ∧ figsOk k f ∧ r = .bl true
theorem d_are_figures (T : TX mg) (D : DefAt K mg "are_figures" (top 17) ["many", "thing"]) : Callee P w K mg base "are_figures" 1 ["many", "thing"] (spD K RFigs) :=
  cal_data D sc17 (by rintro _ _ ⟨k, f, rfl, _⟩; rfl) fun f cdv A outer s H E hr ts r hR => by
    obtain ⟨k, f, rfl, hk, ⟨h1, h2, h3⟩, rfl⟩ := hR
    obtain ⟨t1, e1⟩ := T.mostFigures
    obtain ⟨t2, e2⟩ := T.digits
    have lf := figS_len f
    refine ⟨_, ss_cons (s_ifN (et_is (t_w (w_or (t_not (t_val (x_isi T (x_var 1) rfl kb_ss boot_str T.str))) fun _ => w_or1 (t_not (t_chain (fun _ => op_le) (fun _ => op_le) x_int (x_lenS T (x_var 1) (by omega)) (x_gint fun _ => e1) rd_ib rd_ib)))) ?_))
      (ss_one (s_ret (x_allM T
      (x_lcA sc17 [("sign", 2)] f (fun c => .str (sgF c)) (fun c => .bl (decide (48 + c ∈ (cutS ("0123456789" : Str) none (some (k : Int))).cps.toList))) (it_is (i_str (x_var 1)) ?_) (by omega)
        (fun c hc => ⟨_, _, g_name 2 (fun _ => sc17.nd), by simp, x_cmp (fun _ => op_in_sign) (x_var 2) (x_slS (x_gstr fun _ => e2) o_none (o_some (x_var 0)) (by decide +kernel)) rd_inS (by with_unfolding_all rfl)⟩))))), .inl ?_⟩
    · rw [lf]
      have a1 : decide ((1 : Int) ≤ (f.length : Int)) = true := decide_eq_true (by omega)
      have a2 : decide ((f.length : Int) ≤ 400) = true := decide_eq_true (by omega)
      rw [a1, a2]
      rfl
    · rw [figS_cps, List.map_map]
      rfl
    · rw [List.all_eq_true.mpr fun c hc => decide_eq_true (mem_digits (h3 c hc) hk)]
theorem sc18 : FnScope ["many", "thing", "is_last"] ["many", "thing", "is_last"] (defScope (top 18)) := ⟨rfl, rfl, rfl, by decide +kernel, rfl, by decide +kernel, by decide +kernel⟩
def runOk (k : Nat) (r : Run) (last : Bool) : Prop := figsOk k r.2 ∧ (last = true → r.1 = none) ∧ (last = false → ∃ n, r.1 = some n ∧ 1 ≤ n ∧ n ≤ 1000000000000)
def RRun : List Dt → Dt → Prop := fun ts r => ∃ (k : Nat) (x : Run) (b : Bool), ts = [.int (k : Int), encRun x, .bl b] ∧ k ≤ 10 ∧ runOk k x b ∧ r = .bl true
theorem d_is_run (T : TX mg) (D : DefAt K mg "is_run" (top 18) ["many", "thing", "is_last"]) (C1 : Callee P w K mg base "are_figures" 1 ["many", "thing"] (spD K RFigs)) (C2 : Callee P w K mg base "is_whole" 1 ["thing", "least", "most"] (spD K RWhole)) : Callee P w K mg base "is_run" 2 ["many", "thing", "is_last"] (spD K RRun) :=
  cal_data D sc18 (by rintro _ _ ⟨k, x, b, rfl, _⟩; rfl) fun f cdv A outer s H E hr ts r hR => by
    obtain ⟨k, ⟨sz, f⟩, b, rfl, hk, ⟨h1, h2, h3⟩, rfl⟩ := hR
    obtain ⟨t1, e1⟩ := T.mostCoins
    refine ⟨_, ss_cons (s_ifN (et_is (t_w (w_or (t_not (t_val (x_isi T (x_var 1) rfl kb_tt boot_tuple T.tuple))) fun _ => w_or (t_cmp (fun _ => op_ne) (x_lenT T (x_var 1)) x_int rd_nei (nomark _)) fun _ => w_or1 (t_not (t_val (x_call (fun _ => C1) (fun _ => hr) (a_two (x_var 0) (x_ixT 1 (x_var 1) x_int rfl rfl)) ⟨k, f, rfl, hk, h1, rfl⟩))))) rfl))
      (ss_one (s_ret (x_if (t_val (x_var 2)) (fun hb => ed_is (x_cmp (fun _ => op_isN) (x_ixT 0 (x_var 1) x_int rfl rfl) x_non (rd_isn ?_) (nomark _)) ?_) (fun hb => ?_)))), .inl rfl⟩
    · cases sz <;> rfl
    · rw [h2 hb]
      rfl
    · obtain ⟨n, hn, n1, n2⟩ := h3 hb
      subst hn
      refine x_call (fun _ => C2) (fun _ => hr) (a_cons (x_ixT 0 (x_var 1) x_int rfl rfl) (a_two x_int (x_gint fun _ => e1))) ⟨n, 1, 1000000000000, rfl, ?_⟩
      have a1 : decide ((1 : Int) ≤ (n : Int)) = true := decide_eq_true (by omega)
      have a2 : decide ((n : Int) ≤ 1000000000000) = true := decide_eq_true (by omega)
      rw [a1, a2]
      rfl
theorem runs_at {k : Nat} : ∀ {rs : List Run}, RunsOk k rs → ∀ (i : Nat) (r : Run), rs[i]? = some r → runOk k r (decide (i = rs.length - 1))
  | [], h, _, _, _ => h.elim
  | [(s, f)], ⟨h1, h2⟩, 0, r, e => by
    cases e
    exact ⟨h2, fun _ => h1, fun z => by simp at z⟩
  | [(s, f)], _, i + 1, r, e => by simp at e
  | (s, f) :: r' :: rs, ⟨h1, h2, _⟩, 0, r, e => by
    cases e
    refine ⟨h2, fun z => ?_, fun _ => h1⟩
    simp at z
  | (s, f) :: r' :: rs, ⟨_, _, h3⟩, i + 1, r, e => by
    have := runs_at h3 i r (by simpa using e)
    have e2 : decide (i + 1 = ((s, f) :: r' :: rs).length - 1) = decide (i = (r' :: rs).length - 1) := by
      apply decide_eq_decide.mpr
      simp only [List.length_cons]
      omega
    rw [e2]
    exact this
theorem need_e (ns : List Str) (rs : List Run) (a : Run × Nat) (h : 1 ≤ rs.length := by assumption) : [Dt.int ((List.map Dt.str ns).length : Int), encRun a.1, .bl (decide ((a.2 : Int) = ((rs.map encRun).length : Int) - 1))] = [.int (ns.length : Int), encRun a.1, .bl (decide (a.2 = rs.length - 1))] := by
  have e : decide ((a.2 : Int) = ((rs.map encRun).length : Int) - 1) = decide (a.2 = rs.length - 1) := by
    apply decide_eq_decide.mpr
    rw [List.length_map]
    omega
  rw [e, List.length_map]
theorem need_r {k i : Nat} {rs : List Run} {a : Run × Nat} (h : RunsOk k rs) (e : rs.zipIdx[i]? = some a) : runOk k a.1 (decide (a.2 = rs.length - 1)) := by
  rw [List.getElem?_zipIdx] at e
  obtain ⟨r, hr, e⟩ := Option.map_eq_some_iff.mp e
  subst e
  have := runs_at h i r hr
  rw [Nat.zero_add]
  exact this
theorem sc19 : FnScope ["thing", "names", "runs", "number", "run"] ["thing"] (defScope (top 19)) := ⟨rfl, rfl, rfl, by decide +kernel, rfl, by decide +kernel, by decide +kernel⟩
def RNeed : List Dt → Dt → Prop := fun ts r => ∃ d, ts = [encDeal d] ∧ DealOk d ∧ r = encDeal d
theorem d_need_deal (T : TX mg) (D : DefAt K mg "need_deal" (top 19) ["thing"]) (C1 : Callee P w K mg base "are_names" 2 ["thing"] (spD K RNames)) (C2 : Callee P w K mg base "is_run" 2 ["many", "thing", "is_last"] (spD K RRun)) : Callee P w K mg base "need_deal" 3 ["thing"] (spD K RNeed) :=
  cal_data D sc19 (by rintro _ _ ⟨d, rfl, _⟩; rfl) fun f cdv A outer s H E hr ts r hR => by
    obtain ⟨⟨ns, rs⟩, rfl, ⟨h1, h2, h3⟩, rfl⟩ := hR
    obtain ⟨t1, e1⟩ := T.mostRuns
    replace h1 : NamesOk ns := h1
    replace h2 : RunsOk ns.length rs := h2
    replace h3 : rs.length ≤ 60 := h3
    have l1 := h1.pos
    have l2 := h1.most
    have l3 : 1 ≤ rs.length := by
      cases rs with
      | nil => exact h2.elim
      | cons _ _ => simp
    refine ⟨_, ss_cons (s_ifN (et_is (t_w (w_or (t_not (t_val (x_isi T (x_var 0) rfl kb_tt boot_tuple T.tuple))) fun _ => w_or1 (t_cmp (fun _ => op_ne) (x_lenT T (x_var 0)) x_int rd_nei (nomark _)))) rfl))
      (ss_cons (s_asg (x_var 0) (g_two (k1 := 1) (k2 := 2) (fun _ => sc19.nd)))
      (ss_cons (s_ifN (et_is (t_not (t_val (x_call (fun _ => C1) (fun _ => hr) (a_one (x_var 1)) ⟨ns, rfl, h1, rfl⟩))) rfl))
      (ss_cons (s_ifN (et_is (t_w (w_or (t_not (t_val (x_isi T (x_var 2) rfl kb_tt boot_tuple T.tuple))) fun _ => w_or1 (t_not (t_chain (fun _ => op_le) (fun _ => op_le) x_int (x_lenT T (x_var 2)) (x_gint fun _ => e1) rd_ib rd_ib)))) ?_))
      (ss_cons (s_forC rs.zipIdx (fun p => .tup [.int (p.2 : Int), encRun p.1]) (it_is (i_en (fun _ => T.enumerate) (a_one (x_var 2)) (.t _ _)) ?_) (fun i a ha => ⟨_, _, _, g_two (k1 := 3) (k2 := 4) (fun _ => sc19.nd),
        ss_one (s_ifN (et_is (t_not (t_val (x_call (fun _ => C2) (fun _ => hr) (a_is (a_cons (x_lenT T (x_var 1)) (a_two (x_var 4) (x_cmp (fun _ => op_eq) (x_var 3) (x_sub (x_lenT T (x_var 2)) x_int) rd_eqi (nomark _)))) (need_e ns rs a)) ⟨ns.length, a.1, decide (a.2 = rs.length - 1), rfl, by omega, need_r h2 ha, rfl⟩))) rfl)), .keep (.keep (.keep (.skip (.skip .nil))))⟩))
      (ss_one (s_ret (x_var 0))))))), .inl rfl⟩
    · show (!true || !(decide (1 ≤ ((rs.map encRun).length : Int)) && decide (((rs.map encRun).length : Int) ≤ 60))) = false
      rw [List.length_map]
      have a1 : decide ((1 : Int) ≤ (rs.length : Int)) = true := decide_eq_true (by omega)
      have a2 : decide ((rs.length : Int) ≤ 60) = true := decide_eq_true (by omega)
      rw [a1, a2]
      rfl
    · exact idx_lem encRun rs
/-! ### figures -/
theorem sc20 : FnScope ["names", "name"] ["names", "name"] (defScope (top 20)) := ⟨rfl, rfl, rfl, by decide +kernel, rfl, by decide +kernel, by decide +kernel⟩
def RFig : List Dt → Dt → Prop := fun ts r => ∃ (ns : List Str) (n : Str), ts = [encN ns, .str n] ∧ n ∈ ns ∧ ns.length ≤ 6 ∧ r = .str (sgF (ns.idxOf n))
theorem d_figure_of (T : TX mg) (D : DefAt K mg "figure_of" (top 20) ["names", "name"]) : Callee P w K mg base "figure_of" 1 ["names", "name"] (spD K RFig) :=
  cal_data D sc20 (by rintro _ _ ⟨ns, n, rfl, _⟩; rfl) fun f cdv A outer s H E hr ts r hR => by
    obtain ⟨ns, n, rfl, hn, hl, rfl⟩ := hR
    obtain ⟨t2, e2⟩ := T.digits
    have h10 : ns.idxOf n < ns.length := List.idxOf_lt_length_iff.mpr hn
    refine ⟨_, ss_cons (s_ifN (et_is (t_w (w_or (t_not (t_val (x_isi T (x_var 1) rfl kb_ss boot_str T.str))) fun _ => w_or1 (t_ninT (x_var 1) (x_var 0) (by with_unfolding_all rfl)))) ?_))
      (ss_one (s_ret (x_ixS (ns.idxOf n) (x_gstr fun _ => e2) (x_tIx (x_var 0) (x_var 1) hn) rfl (digit_at _ (by omega)) (by decide +kernel)))), .inl rfl⟩
    rw [decide_eq_true hn]
    rfl
theorem sc21 : FnScope ["figures", "figure", "coins", "turns", "rest"] ["figures", "figure", "coins"] (defScope (top 21)) := ⟨rfl, rfl, rfl, by decide +kernel, rfl, by decide +kernel, by decide +kernel⟩
def RCount : List Dt → Dt → Prop := fun ts r => ∃ (f : List Nat) (c n : Nat), ts = [.str (figS f), .str (sgF c), .int (n : Int)] ∧ 1 ≤ f.length ∧ f.length ≤ 400 ∧ r = .int (countIn f c n : Nat)
theorem d_count_in (T : TX mg) (D : DefAt K mg "count_in" (top 21) ["figures", "figure", "coins"]) : Callee P w K mg base "count_in" 1 ["figures", "figure", "coins"] (spD K RCount) :=
  cal_data D sc21 (by rintro _ _ ⟨f, c, n, rfl, _⟩; rfl) fun f cdv A outer s H E hr ts r hR => by
    obtain ⟨f, c, n, rfl, h1, h2, rfl⟩ := hR
    have lf := figS_len f
    have lc : f.count c ≤ f.length := List.count_le_length
    refine ⟨_, ss_cons (s_asg (x_divmod T (x_var 2) (x_lenS T (x_var 0) (by omega)) (by omega) (by omega)) (g_two (k1 := 3) (k2 := 4) (fun _ => sc21.nd)))
      (ss_one (s_ret (x_add (x_mul (x_var 3) (x_count (x_var 0) (x_var 1)) ?_) (x_count (w := figS (f.take (n % f.length))) (ed_is (x_slS (x_var 0) o_none (o_some (x_var 4)) (by omega)) ?_) (x_var 1))))), .inl ?_⟩
    · refine .inr ?_
      rw [count_figS]
      omega
    · rw [lf, ← Int.natCast_emod, cutS_fig]
    · rw [count_figS, count_figS, lf, ← Int.natCast_ediv]
      unfold countIn
      simp
end
end SP
/-! Q4 -/
namespace SP
open PySem PySem.Spec PyProof.Rows L2
/-! ### the parts of a payment -/
def partOf (r : Run) (n : Nat) : Nat := match r.1 with
  | none => n
  | some m => min n m
def leftAt : List Run → Nat → Nat → Nat
  | _, n, 0 => n
  | [], n, _ + 1 => n
  | r :: rs, n, i + 1 => leftAt rs (n - partOf r n) i
theorem parts_cons (r : Run) (rs : List Run) (n : Nat) : partsOf (r :: rs) n = partOf r n :: partsOf rs (n - partOf r n) := by
  obtain ⟨s, f⟩ := r
  cases s <;> rfl
theorem parts_len : ∀ (rs : List Run) (n : Nat), (partsOf rs n).length = rs.length
  | [], _ => rfl
  | r :: rs, n => by rw [parts_cons, List.length_cons, List.length_cons, parts_len]
theorem parts_at : ∀ (rs : List Run) (n i : Nat) (r : Run), rs[i]? = some r → (partsOf rs n)[i]? = some (partOf r (leftAt rs n i)) ∧ leftAt rs n (i + 1) = leftAt rs n i - partOf r (leftAt rs n i)
  | [], _, _, _, h => by simp at h
  | r :: rs, n, 0, x, h => by
    cases h
    rw [parts_cons]
    refine ⟨rfl, ?_⟩
    cases rs <;> rfl
  | r :: rs, n, i + 1, x, h => by
    rw [parts_cons]
    exact parts_at rs (n - partOf r n) i x (by simpa using h)
theorem take_succ' {α : Type} {l : List α} {i : Nat} {a : α} (h : l[i]? = some a) : l.take (i + 1) = l.take i ++ [a] := by
  rw [List.take_add_one, h]
  rfl
theorem svi_to {K : PySem.W.Frag} {t : TS} {ρ ρ' ρ2 : Rho} {I I' I2 : MP} (h : SvI K t ρ I ρ' I') (e : ρ' = ρ2) (e' : I' = I2) : SvI K t ρ I ρ2 I2 := by
  subst e e'
  exact h
section
variable {K : PySem.W.Frag} {Hd H : Hp} {σ : L2.St} {ρ : Rho} {te : TE} {d : Dt}
theorem ev_go (en : EnvD K Hd σ ρ) (ex : Ex Hd H) (h : EvD K MP.tt te ρ d) {Q : VK} (q : ∀ v Hd' H', Stp NoM Hd H Hd' H' → Im K Hd' v d → Q v H') : te σ H Q := h σ Hd H ex en True.intro Q q
end
section
variable {P : Program} {w : World} {K : PySem.W.Frag} {mg : Str → Option Value} {base : Heap} {n : Str} {st : Stmt} {N ps : List Str} {k : Nat}
/-- a def over data that has objects of its own -/
theorem cal_dataC {R : List Dt → Dt → Prop} (D : DefAt K mg n st ps) (S : FnScope N ps (defScope st)) (len : ∀ ts r, R ts r → ts.length = ps.length)
    (hbody : ∀ (f : Addr) (cdv : Value) (A : Around) (outer : List Env) (s : Shared) (H : Hp) (E : XK), Room k (dCx P w K mg base N n st f cdv A outer s H E).A → ∀ (Hd : Hp) (vs : List V) (ts : List Dt) (r : Dt) (Q : VK), Ex Hd H → EnvD K Hd (start N vs) (startD N ts) → R ts r → (∀ v Hd' H', Stp NoM Hd H Hd' H' → Im K Hd' v r → Q v H') →
      wSs (un (dCx P w K mg base N n st f cdv A outer s H E)) (defBody st) { nx := fun _ H' => Q .non H', rt := Q } (start N vs) H) : Callee P w K mg base n (k + 1) ps (spD K R) :=
  cal_any D S (fun vs H Q E h => by
    obtain ⟨Hd, ts, r, _, ia, hR, _⟩ := h
    rw [ia.length]
    exact len ts r hR) fun f cdv A outer s H E hr vs Q h => by
    obtain ⟨Hd, ts, r, e, ia, hR, q⟩ := h
    exact hbody f cdv A outer s H E hr Hd vs ts r Q e (env_start N ia) hR q
theorem sc22 : FnScope ["runs", "coins", "found", "left", "size", "figures", "part"] ["runs", "coins"] (defScope (top 22)) := ⟨rfl, rfl, rfl, by decide +kernel, rfl, by decide +kernel, by decide +kernel⟩
def encNats (l : List Nat) : Dt := .lst (l.map fun (k : Nat) => Dt.int (k : Int))
def RParts : List Dt → Dt → Prop := fun ts r => ∃ (rs : List Run) (n : Nat), ts = [encRuns rs, .int (n : Int)] ∧ rs.length ≤ 60 ∧ r = encNats (partsOf rs n)
theorem d_parts_of (T : TX mg) (D : DefAt K mg "parts_of" (top 22) ["runs", "coins"]) : Callee P w K mg base "parts_of" 1 ["runs", "coins"] (spD K RParts) :=
  cal_dataC D sc22 (by rintro _ _ ⟨rs, n, rfl, _⟩; rfl) fun f cdv A outer s H E hr Hd vs ts r Q ex en hR q => by
    obtain ⟨rs, n, rfl, hl, rfl⟩ := hR
    refine c_cons (c_par (k1 := 2) (k2 := 3) (fun _ => sc22.nd) (c_acons (c_lst (c_anil ⟨by decide, fun p hp => ?_⟩))))
    have s1 : Stp NoM Hd H Hd (upd H p (.lst [])) := Stp.newM ex hp
    refine c_acons (ev_go en s1.sub (x_var 1) fun v Hd2 H2 s2 iv => c_anil ⟨.ref p, v, rfl, ?_⟩)
    have own : (OwnL K Hd H p []).p Hd2 H2 := (OwnL K Hd H p []).mono s2 ⟨s1, hp, sub_none ex hp, [], upd_same, .nil⟩
    have en1 : EnvD K Hd2 _ _ := ((en.mono s2.ud).set (i := 2) (Im.raw (.ref p))).set (i := 3) iv
    refine c_cons ((si_for rs encRun (i_tup (x_var 0)) (fun i => [some (encRuns rs), some (.int (n : Int)), some (.raw (.ref p)), some (.int (leftAt rs n i : Int)), none, none, none]) (fun i => OwnL K Hd H p (((partsOf rs n).take i).map fun (k : Nat) => Dt.int (k : Int))) (by cases rs <;> rfl) (fun _ _ z => by rw [List.take_zero]; exact z) ?_) _ Hd2 H2 s2.sub en1 own _ fun σ3 Hd3 H3 u3 ex3 en3 own3 => ?_)
    · rintro i ⟨sz, fg⟩ ha
      obtain ⟨e1, e2⟩ := parts_at rs n i (sz, fg) ha
      refine ⟨_, _, g_two (k1 := 4) (k2 := 5) (fun _ => sc22.nd), si_cons (svi_of (s_set 6 (fun _ => sc22.nd) (d := .int (partOf (sz, fg) (leftAt rs n i) : Nat)) ?_)) (si_cons (si_app 2 rfl (x_var 6) ?_) (si_one (svi_to (si_wk (svi_of (s_augS 3 (fun _ => sc22.nd) rfl (x_var 6))) (.keep (.keep (.keep (.keep (.skip (.skip (.skip .nil)))))))) ?_ ?_)))⟩
      · cases sz with
        | none => exact x_if (t_cmp (fun _ => op_isN) (x_var 4) x_non (rd_isn rfl) (nomark _)) (fun _ => x_var 3) (fun h => by exact absurd (show true = false from h) (by decide))
        | some m => exact x_if (t_cmp (fun _ => op_isN) (x_var 4) x_non (rd_isn rfl) (nomark _)) (fun h => by exact absurd (show false = true from h) (by decide)) (fun _ => ed_is (x_min T (x_var 3) (x_var 4)) (congrArg Dt.int (by
            show min (leftAt rs n i : Int) (m : Int) = ((min (leftAt rs n i) m : Nat) : Int)
            omega)))
      · have := parts_len rs n
        rw [List.length_map, List.length_take]
        omega
      · have hle : partOf (sz, fg) (leftAt rs n i) ≤ leftAt rs n i := by
          cases sz with
          | none => exact Nat.le_refl _
          | some m => exact Nat.min_le_left _ _
        have e3 : ((leftAt rs n i : Nat) : Int) - ((partOf (sz, fg) (leftAt rs n i) : Nat) : Int) = ((leftAt rs n (i + 1) : Nat) : Int) := by omega
        rw [e3]
      · rw [take_succ' e1, List.map_append]
        rfl
    · refine c_one (c_ret (ev_go en3 ex3 (x_var 2) fun v4 Hd4 H4 s4 iv4 => ?_))
      obtain ⟨a, b, c, vs', hp', ia⟩ := (OwnL K Hd H p (((partsOf rs n).take rs.length).map fun (k : Nat) => Dt.int (k : Int))).mono s4 own3
      rw [iv4.raw_inv]
      rw [List.take_of_length_le (Nat.le_of_eq (parts_len rs n))] at ia
      exact q _ _ _ (a.freeze b c hp') (.lst upd_same (ia.mono (Ex.new c)))
/-! ### what a name has by a deal -/
theorem sum_cast {α : Type} (l : List α) (f : α → Nat) : (l.map fun a => (f a : Int)).sum = ((l.map f).sum : Nat) := by
  induction l with
  | nil => rfl
  | cons a r ih => rw [List.map_cons, List.map_cons, List.sum_cons, List.sum_cons, ih]; omega
def figsFit (rs : List Run) : Prop := ∀ r ∈ rs, 1 ≤ r.2.length ∧ r.2.length ≤ 400
theorem sc23 : FnScope ["runs", "figure", "coins", "parts", "run", "part"] ["runs", "figure", "coins"] (defScope (top 23)) := ⟨rfl, rfl, rfl, by decide +kernel, rfl, by decide +kernel, by decide +kernel⟩
def RBy : List Dt → Dt → Prop := fun ts r => ∃ (rs : List Run) (c n : Nat), ts = [encRuns rs, .str (sgF c), .int (n : Int)] ∧ rs.length ≤ 60 ∧ figsFit rs ∧ r = .int (countBy rs c n : Nat)
theorem d_count_by (T : TX mg) (D : DefAt K mg "count_by" (top 23) ["runs", "figure", "coins"]) (C1 : Callee P w K mg base "parts_of" 1 ["runs", "coins"] (spD K RParts)) (C2 : Callee P w K mg base "count_in" 1 ["figures", "figure", "coins"] (spD K RCount)) : Callee P w K mg base "count_by" 2 ["runs", "figure", "coins"] (spD K RBy) :=
  cal_data D sc23 (by rintro _ _ ⟨rs, c, n, rfl, _⟩; rfl) fun f cdv A outer s H E hr ts r hR => by
    obtain ⟨rs, c, n, rfl, hl, hf, rfl⟩ := hR
    refine ⟨_, ss_cons (s_set 3 (fun _ => sc23.nd) (x_call (fun _ => C1) (fun _ => hr) (a_two (x_var 0) (x_var 2)) ⟨rs, n, rfl, hl, rfl⟩))
      (ss_one (s_ret (x_sumM T (x_lcA sc23 [("run", 4), ("part", 5)] (rs.zip (partsOf rs n)) (fun p => .tup [encRun p.1, .int (p.2 : Int)]) (fun p => .int ((countIn p.1.2 c p.2 : Nat) : Int)) (it_is (i_zp (fun _ => T.zip) (a_two (x_var 0) (x_var 3)) (.t _ _) (.l _)) ?_) ?_
        (fun p hp => ⟨_, _, g_two (k1 := 4) (k2 := 5) (fun _ => sc23.nd), by simp, x_call (fun _ => C2) (fun _ => hr) (a_cons (x_ixT 1 (x_var 4) x_int rfl rfl) (a_two (x_var 1) (x_var 5))) ⟨p.1.2, c, p.2, rfl, (hf _ (List.of_mem_zip hp).1).1, (hf _ (List.of_mem_zip hp).1).2, rfl⟩⟩))))), .inl ?_⟩
    · rw [List.zip_map, List.map_map]
      rfl
    · rw [List.length_zip]
      omega
    · rw [sum_cast]
      rfl
def encT (l : List Nat) : Dt := .tux (l.map fun (k : Nat) => Dt.int (k : Int))
theorem sc24 : FnScope ["deal", "coins", "names", "runs", "number"] ["deal", "coins"] (defScope (top 24)) := ⟨rfl, rfl, rfl, by decide +kernel, rfl, by decide +kernel, by decide +kernel⟩
def RHas : List Dt → Dt → Prop := fun ts r => ∃ (d : Deal) (n : Nat), ts = [encDeal d, .int (n : Int)] ∧ d.names.length ≤ 6 ∧ d.runs.length ≤ 60 ∧ figsFit d.runs ∧ r = encT (hasIn d n)
theorem d_has_in (T : TX mg) (D : DefAt K mg "has_in" (top 24) ["deal", "coins"]) (C1 : Callee P w K mg base "count_by" 2 ["runs", "figure", "coins"] (spD K RBy)) : Callee P w K mg base "has_in" 3 ["deal", "coins"] (spD K RHas) :=
  cal_data D sc24 (by rintro _ _ ⟨d, n, rfl, _⟩; rfl) fun f cdv A outer s H E hr ts r hR => by
    obtain ⟨⟨ns, rs⟩, n, rfl, hl, h60, hf, rfl⟩ := hR
    obtain ⟨t2, e2⟩ := T.digits
    replace hl : ns.length ≤ 6 := hl
    refine ⟨_, ss_cons (s_asg (x_var 0) (g_two (k1 := 2) (k2 := 3) (fun _ => sc24.nd)))
      (ss_one (s_ret (x_tupleX T (x_lcA sc24 [("number", 4)] (List.range ns.length) (fun (k : Nat) => .int (k : Int)) (fun (k : Nat) => .int ((countBy rs k n : Nat) : Int)) (it_is (i_rng (fun _ => T.range) (a_one (x_lenT T (x_var 2))) ?_) ?_) ?_
        (fun (k : Nat) hk => ⟨_, _, g_name 4 (fun _ => sc24.nd), by simp, x_call (fun _ => C1) (fun _ => hr) (a_cons (x_var 3) (a_two (x_ixS k (x_gstr fun _ => e2) (x_var 4) rfl (digit_at k (by have := List.mem_range.mp hk; omega)) (by decide +kernel)) (x_var 1))) ⟨rs, k, n, rfl, h60, hf, rfl⟩⟩))))), .inl ?_⟩
    · show -(2 ^ 62) ≤ (((ns.map Dt.str).length : Nat) : Int) ∧ (((ns.map Dt.str).length : Nat) : Int) < 2 ^ 62
      rw [List.length_map]
      omega
    · show (List.range (((ns.map Dt.str).length : Nat) : Int).toNat).map _ = _
      rw [List.length_map, Int.toNat_natCast]
    · rw [List.length_range]
      omega
    · unfold encT hasIn
      rw [List.map_map]
      rfl
end
end SP
/-! Q5 -/
namespace SP
open PySem PySem.Spec PyProof.Rows L2
theorem sgF_inj {a b : Nat} (h : sgF a = sgF b) : a = b := by
  have h2 : (48 + a) = (48 + b) := by
    have := congrArg (fun s : Str => s.cps.toList) h
    simpa [sgF, sg] using this
  omega
theorem sgF_dec (a b : Nat) : decide (sgF a = sgF b) = (a == b) := by
  by_cases h : a = b
  · subst h; simp
  · have : ¬ sgF a = sgF b := fun z => h (sgF_inj z)
    simp [h, this]
theorem places_len (c : Nat) (f : List Nat) : (placesOf c f).length = f.count c := by
  unfold placesOf
  rw [List.length_map]
  have : ∀ (f : List Nat) (k : Nat), ((f.zipIdx k).filter fun p => p.1 == c).length = f.count c := fun f => by
    induction f with
    | nil => intro k; rfl
    | cons a r ih =>
      intro k
      rw [List.zipIdx_cons, List.filter_cons, List.count_cons]
      by_cases h : a == c
      · simp [h, ih]
      · simp [h, ih]
  exact this f 0
def stAt (c : Nat) : List Run → Nat × Nat → Nat → Nat × Nat
  | _, s, 0 => s
  | [], s, _ + 1 => s
  | r :: rs, s, i + 1 => stAt c rs (stepR c r s) i
theorem stAt_succ (c : Nat) : ∀ (rs : List Run) (s : Nat × Nat) (i : Nat) (r : Run), rs[i]? = some r → stAt c rs s (i + 1) = stepR c r (stAt c rs s i)
  | [], _, _, _, h => by simp at h
  | r :: rs, s, 0, x, h => by
    cases h
    cases rs <;> rfl
  | r :: rs, s, i + 1, x, h => stAt_succ c rs (stepR c r s) i x (by simpa using h)
theorem reach_cons (c : Nat) (r : Run) (rs : List Run) (s : Nat × Nat) : reachGo c (r :: rs) s = if hitR c r s.2 = true then some (foundR c r s) else reachGo c rs (stepR c r s) := rfl
theorem reach_cases (c : Nat) : ∀ (rs : List Run) (s : Nat × Nat),
    ((∀ i r, rs[i]? = some r → hitR c r (stAt c rs s i).2 = false) ∧ reachGo c rs s = none) ∨
    ∃ k r, rs[k]? = some r ∧ hitR c r (stAt c rs s k).2 = true ∧ (∀ i r, i < k → rs[i]? = some r → hitR c r (stAt c rs s i).2 = false) ∧ reachGo c rs s = some (foundR c r (stAt c rs s k))
  | [], s => .inl ⟨fun i r h => by simp at h, rfl⟩
  | r :: rs, s => by
    rw [reach_cons]
    cases hh : hitR c r s.2 with
    | true => exact .inr ⟨0, r, rfl, hh, fun i _ h => absurd h (Nat.not_lt_zero i), by simp [stAt]⟩
    | false =>
      simp only [Bool.false_eq_true, if_false]
      rcases reach_cases c rs (stepR c r s) with ⟨h1, h2⟩ | ⟨k, x, h1, h2, h3, h4⟩
      · refine .inl ⟨fun i x hx => ?_, h2⟩
        cases i with
        | zero => cases hx; exact hh
        | succ i => exact h1 i x (by simpa using hx)
      · refine .inr ⟨k + 1, x, by simpa using h1, h2, fun i y hi hy => ?_, h4⟩
        cases i with
        | zero => cases hy; exact hh
        | succ i => exact h3 i y (by omega) (by simpa using hy)
theorem countIn_zero {f : List Nat} {c n : Nat} (h : ¬ 0 < f.count c) : countIn f c n = 0 := by
  have h0 : f.count c = 0 := by omega
  have h1 : (f.take (n % f.length)).count c = 0 := by
    have := List.Sublist.count_le c (List.take_sublist (n % f.length) f)
    omega
  unfold countIn
  rw [h0, h1, Nat.mul_zero]
theorem nohit_lt {c : Nat} {f : List Nat} {n l : Nat} (h : hitR c (some n, f) l = false) (hl : 1 ≤ l) : countIn f c n < l := by
  by_cases h0 : 0 < f.count c
  · simp [hitR, h0] at h
    omega
  · rw [countIn_zero h0]
    omega
theorem pos_at (c : Nat) : ∀ (rs : List Run) (s : Nat × Nat) (k : Nat), 1 ≤ s.2 → (∀ i r, i < k → rs[i]? = some r → hitR c r (stAt c rs s i).2 = false) → 1 ≤ (stAt c rs s k).2
  | _, s, 0, h, _ => by simpa [stAt] using h
  | [], s, k + 1, h, _ => h
  | (z, f) :: rs, s, k + 1, h, hh => by
    have h0 := hh 0 (z, f) (Nat.succ_pos k) rfl
    refine pos_at c rs (stepR c (z, f) s) k ?_ fun i r hi hr => hh (i + 1) r (by omega) (by simpa using hr)
    cases z with
    | none => exact h
    | some n =>
      have := nohit_lt (by simpa [stAt] using h0) h
      show 1 ≤ s.2 - countIn f c n
      omega
def stm (i j : Nat) : Stmt := (defBody (top i)).getD j (.Pass ⟨0, 0, 0, 0⟩)
def forTg : Stmt → Expr
  | .For tg _ _ _ _ => tg
  | _ => .Name "x" ⟨0, 0, 0, 0⟩
def ifBody : Stmt → List Stmt
  | .If _ b _ _ => b
  | _ => []
def ifTest : Stmt → Expr
  | .If t _ _ _ => t
  | _ => .Name "x" ⟨0, 0, 0, 0⟩
def forBody : Stmt → List Stmt
  | .For _ _ b _ _ => b
  | _ => []
theorem Wk.refl : ∀ r : Rho, Wk r r
  | [] => .nil
  | _ :: r => .keep (Wk.refl r)
section
variable {P : Program} {w : World} {K : PySem.W.Frag} {mg : Str → Option Value} {base : Heap}
abbrev n25 : List Str := ["runs", "figure", "many", "begin", "left", "size", "figures", "each", "turns", "rest", "places", "place", "sign"]
theorem sc25 : FnScope n25 ["runs", "figure", "many"] (defScope (top 25)) := ⟨rfl, rfl, rfl, by decide +kernel, rfl, by decide +kernel, by decide +kernel⟩
def RReach : List Dt → Dt → Prop := fun ts r => ∃ (rs : List Run) (c m : Nat), ts = [encRuns rs, .str (sgF c), .int (m : Int)] ∧ 1 ≤ m ∧ figsFit rs ∧ r = encO (reachIn rs c m)
abbrev RRho (rs : List Run) (c m : Nat) (s : Nat × Nat) : Rho := [some (encRuns rs), some (.str (sgF c)), some (.int (m : Int)), some (.int (s.1 : Int)), some (.int (s.2 : Int)), none, none, none, none, none, none, none, none]
set_option maxHeartbeats 8000000 in
theorem d_reach_in (T : TX mg) (D : DefAt K mg "reach_in" (top 25) ["runs", "figure", "many"]) (C2 : Callee P w K mg base "count_in" 1 ["figures", "figure", "coins"] (spD K RCount)) : Callee P w K mg base "reach_in" 2 ["runs", "figure", "many"] (spD K RReach) :=
  cal_data D sc25 (by rintro _ _ ⟨rs, c, m, rfl, _⟩; rfl) fun f cdv A outer s H E hr ts r hR => by
    obtain ⟨rs, c, m, rfl, hm, hfit, rfl⟩ := hR
    have hm0 : ¬ m = 0 := by omega
    have ok : ∀ (i : Nat) (r : Run), rs[i]? = some r → 1 ≤ (stAt c rs (0, m) i).2 → hitR c r (stAt c rs (0, m) i).2 = false → ∃ ρ1 js, GvD K (wG (un (dCx P w K mg base n25 "reach_in" (top 25) f cdv A outer s H E)) (forTg (stm 25 2))) (encRun r) (RRho rs c m (stAt c rs (0, m) i)) ρ1 js ∧
        SvD K MP.tt (wSs (un (dCx P w K mg base n25 "reach_in" (top 25) f cdv A outer s H E)) (forBody (stm 25 2))) ρ1 (.nx (RRho rs c m (stAt c rs (0, m) (i + 1)))) := by
      rintro i ⟨z, fg⟩ hi hl hh
      have hf : 1 ≤ fg.length ∧ fg.length ≤ 400 := hfit _ (List.mem_of_getElem? hi)
      have lf := figS_len fg
      rw [stAt_succ c rs (0, m) i (z, fg) hi]
      generalize stAt c rs (0, m) i = S at hl hh ⊢
      obtain ⟨b, l⟩ := S
      replace hl : 1 ≤ l := hl
      cases z with
      | none =>
        have h0 : ¬ 0 < fg.count c := by simpa [hitR] using hh
        have hc0 : decide (0 < Txt.count (figS fg) (sgF c)) = false := by
          rw [count_figS]
          exact decide_eq_false (by omega)
        refine ⟨_, _, g_two (k1 := 5) (k2 := 6) (fun _ => sc25.nd), ss_cons (s_set 7 (fun _ => sc25.nd) (x_count (x_var 6) (x_var 1))) (ss_cons (s_ifN (et_is (t_w (w_and (j := false) (t_cmp (fun _ => op_gt) (x_var 7) x_int rd_ib (nomark _)) fun hz => ?_)) ?_))
          (ss_one (sv_wk (s_ifN (et_is (t_cmp (fun _ => op_notN) (x_var 5) x_non (rd_nisn rfl) (nomark _)) rfl)) (.keep (.keep (.keep (.keep (.keep (.skip (.skip (.skip (Wk.refl _))))))))))))⟩
        · exact absurd (hc0.symm.trans hz) (by decide)
        · rw [Bool.and_false]
      | some n =>
        have hlt := nohit_lt hh hl
        have e1 : ((b : Int) + (n : Int)) = ((b + n : Nat) : Int) := by omega
        have e2 : ((l : Int) - ((countIn fg c n : Nat) : Int)) = ((l - countIn fg c n : Nat) : Int) := by omega
        have call : ∀ {ρ : Rho} {p1 p2 p3 p4 p5 : Pos}, ρ[1]? = some (some (.str (sgF c))) → ρ[5]? = some (some (.int (n : Int))) → ρ[6]? = some (some (.str (figS fg))) → EvD K MP.tt (wE (un (dCx P w K mg base n25 "reach_in" (top 25) f cdv A outer s H E)) (.Call (.Name "count_in" p1) [.Name "figures" p2, .Name "figure" p3, .Name "size" p4] [] p5)) ρ (.int (countIn fg c n : Nat)) :=
          fun a1 a5 a6 => x_call (fun _ => C2) (fun _ => hr) (a_cons (x_var 6 a6) (a_two (x_var 1 a1) (x_var 5 a5))) ⟨fg, c, n, rfl, hf.1, hf.2, rfl⟩
        refine ⟨_, _, g_two (k1 := 5) (k2 := 6) (fun _ => sc25.nd), ss_cons (s_set 7 (fun _ => sc25.nd) (x_count (x_var 6) (x_var 1))) (ss_cons (s_ifN (et_is (t_w (w_and (t_cmp (fun _ => op_gt) (x_var 7) x_int rd_ib (nomark _)) fun hz => w_and1 (t_w (w_or (t_cmp (fun _ => op_isN) (x_var 5) x_non (rd_isn rfl) (nomark _)) fun hz2 => w_or1 (t_cmp (fun _ => op_ge) (call rfl rfl rfl) (x_var 4) rd_ib (nomark _)))))) ?_))
          (ss_one (sv_wk (s_ifT (et_is (t_cmp (fun _ => op_notN) (x_var 5) x_non (rd_nisn rfl) (nomark _)) rfl) (ss_one (s_par (k1 := 3) (k2 := 4) (fun _ => sc25.nd) (a_is (a_two (x_add (x_var 3) (x_var 5)) (x_sub (x_var 4) (call rfl rfl rfl))) (by rw [e1, e2]; rfl))))) (.keep (.keep (.keep (.keep (.keep (.skip (.skip (.skip (Wk.refl _))))))))))))⟩
        have : decide (((countIn fg c n : Nat) : Int) ≥ (l : Int)) = false := decide_eq_false (by omega)
        rw [this]
        exact Bool.and_false _
    have hit : ∀ (i : Nat) (r : Run), rs[i]? = some r → 1 ≤ (stAt c rs (0, m) i).2 → hitR c r (stAt c rs (0, m) i).2 = true → ∃ ρ1 js, GvD K (wG (un (dCx P w K mg base n25 "reach_in" (top 25) f cdv A outer s H E)) (forTg (stm 25 2))) (encRun r) (RRho rs c m (stAt c rs (0, m) i)) ρ1 js ∧
        SvD K MP.tt (wSs (un (dCx P w K mg base n25 "reach_in" (top 25) f cdv A outer s H E)) (forBody (stm 25 2))) ρ1 (.rt (.int (foundR c r (stAt c rs (0, m) i) : Nat))) := by
      rintro i ⟨z, fg⟩ hi hl hh
      have hf : 1 ≤ fg.length ∧ fg.length ≤ 400 := hfit _ (List.mem_of_getElem? hi)
      have lf := figS_len fg
      generalize stAt c rs (0, m) i = S at hl hh ⊢
      obtain ⟨b, l⟩ := S
      replace hl : 1 ≤ l := hl
      have hcnt : 0 < fg.count c ∧ (∀ n, z = some n → l ≤ countIn fg c n) := by
        cases z with
        | none => exact ⟨by simpa [hitR] using hh, fun n e => by cases e⟩
        | some n =>
          have := hh
          simp [hitR] at this
          exact ⟨by rw [List.count_pos_iff]; exact this.1, fun k e => by cases e; exact this.2⟩
      obtain ⟨hc, hn⟩ := hcnt
      have lc : fg.count c ≤ fg.length := List.count_le_length
      have c0 : decide ((0 : Int) < ((fg.count c : Nat) : Int)) = true := decide_eq_true (by omega)
      have es : ((l : Int) - 1) = ((l - 1 : Nat) : Int) := by omega
      have em : ((l - 1 : Nat) : Int) % ((fg.count c : Nat) : Int) = (((l - 1) % fg.count c : Nat) : Int) := rfl
      have ed : ((l - 1 : Nat) : Int) / ((fg.count c : Nat) : Int) = (((l - 1) / fg.count c : Nat) : Int) := rfl
      have hlt : (l - 1) % fg.count c < (placesOf c fg).length := by
        rw [places_len]
        exact Nat.mod_lt _ hc
      have fil : (fg.zipIdx.filter fun p => decide (sgF p.1 = sgF c)) = fg.zipIdx.filter fun p => p.1 == c := List.filter_congr fun p _ => sgF_dec _ _
      have pl : ((fg.zipIdx.filter fun p => decide (sgF p.1 = sgF c)).map fun p => Dt.int (p.2 : Int))[(l - 1) % fg.count c]? = some (.int (((placesOf c fg).getD ((l - 1) % fg.count c) 0 : Nat) : Int)) := by
        have e1 : ((fg.zipIdx.filter fun p => p.1 == c).map fun p => Dt.int (p.2 : Int)) = (placesOf c fg).map fun (k : Nat) => Dt.int (k : Int) := by
          unfold placesOf
          rw [List.map_map]
          rfl
        rw [fil, e1, List.getElem?_map, List.getElem?_eq_getElem hlt, List.getD_eq_getElem?_getD, List.getElem?_eq_getElem hlt]
        rfl
      have blk : ∀ {ρ : Rho}, ρ[1]? = some (some (.str (sgF c))) → ρ[3]? = some (some (.int (b : Int))) → ρ[4]? = some (some (.int (l : Int))) → ρ[6]? = some (some (.str (figS fg))) → ρ[7]? = some (some (.int ((fg.count c : Nat) : Int))) → ρ.length = 13 →
          SvD K MP.tt (wSs (un (dCx P w K mg base n25 "reach_in" (top 25) f cdv A outer s H E)) (ifBody ((forBody (stm 25 2)).getD 1 (.Pass ⟨0, 0, 0, 0⟩)))) ρ (.rt (.int (foundR c (z, fg) (b, l) : Nat))) := fun {ρ} a1 a3 a4 a6 a7 hL => by
        have hx : ∃ x0 x1 x2 x3 x4 x5 x6 x7 x8 x9 x10 x11 x12, ρ = [x0, x1, x2, x3, x4, x5, x6, x7, x8, x9, x10, x11, x12] := by
          match ρ, hL with
          | [x0, x1, x2, x3, x4, x5, x6, x7, x8, x9, x10, x11, x12], _ => exact ⟨x0, x1, x2, x3, x4, x5, x6, x7, x8, x9, x10, x11, x12, rfl⟩
        obtain ⟨x0, x1, x2, x3, x4, x5, x6, x7, x8, x9, x10, x11, x12, rfl⟩ := hx
        cases a1; cases a3; cases a4; cases a6; cases a7
        refine ss_cons (s_asg (x_divmod T (ed_is (x_sub (x_var 4) x_int) (congrArg Dt.int es)) (x_var 7) (by omega) (by omega)) (g_two (k1 := 8) (k2 := 9) (fun _ => sc25.nd)))
          (ss_cons (s_setLc sc25 10 [("place", 11), ("sign", 12)] fg.zipIdx (fun p => .tup [.int (p.2 : Int), .str (sgF p.1)]) (fun p => decide (sgF p.1 = sgF c)) (fun p => .int (p.2 : Int)) (it_is (i_en (fun _ => T.enumerate) (a_one (x_var 6)) (.s _)) ?_) (by rw [List.length_zipIdx]; omega)
            (fun p hp => ⟨_, _, g_two (k1 := 11) (k2 := 12) (fun _ => sc25.nd), by simp, ts_one (t_cmp (fun _ => op_eq) (x_var 12) (x_var 1) rd_eqs (nomark _)), fun _ => x_var 11⟩))
          (ss_one (s_ret (ed_is (x_add (x_add (x_add (x_var 3) (x_mul (x_var 8) (x_lenS T (x_var 6) (by omega)) ?_)) (x_ixL ((l - 1) % fg.count c) (x_var 10) (x_var 9) em pl)) x_int) ?_))))
        · rw [figS_cps, List.map_map]
          exact idx_lem (fun c => .str (sgF c)) fg
        · exact .inr (by omega)
        · rw [lf, ed]
          unfold foundR
          refine congrArg Dt.int ?_
          simp
      cases z with
      | none =>
        refine ⟨_, _, g_two (k1 := 5) (k2 := 6) (fun _ => sc25.nd), ss_cons (s_set 7 (fun _ => sc25.nd) (ed_is (x_count (x_var 6) (x_var 1)) (congrArg Dt.int (count_figS fg c)))) (ss_ret (s_ifT (et_is (t_w (w_and (t_cmp (fun _ => op_gt) (x_var 7) x_int rd_ib (nomark _)) fun hz => w_and1 (t_w (w_or (j := true) (t_cmp (fun _ => op_isN) (x_var 5) x_non (rd_isn rfl) (nomark _)) fun hz2 => ?_)))) ?_)
          (blk rfl rfl rfl rfl rfl rfl)))⟩
        · exact absurd (show true = false from hz2) (by decide)
        · rw [c0]
          rfl
      | some n =>
        have hle := hn n rfl
        refine ⟨_, _, g_two (k1 := 5) (k2 := 6) (fun _ => sc25.nd), ss_cons (s_set 7 (fun _ => sc25.nd) (ed_is (x_count (x_var 6) (x_var 1)) (congrArg Dt.int (count_figS fg c)))) (ss_ret (s_ifT (et_is (t_w (w_and (t_cmp (fun _ => op_gt) (x_var 7) x_int rd_ib (nomark _)) fun hz => w_and1 (t_w (w_or (t_cmp (fun _ => op_isN) (x_var 5) x_non (rd_isn rfl) (nomark _)) fun hz2 => w_or1 (t_cmp (fun _ => op_ge) (x_call (fun _ => C2) (fun _ => hr) (a_cons (x_var 6) (a_two (x_var 1) (x_var 5))) ⟨fg, c, n, rfl, hf.1, hf.2, rfl⟩) (x_var 4) rd_ib (nomark _)))))) ?_)
          (blk rfl rfl rfl rfl rfl rfl)))⟩
        have c1 : decide ((l : Int) ≤ ((countIn fg c n : Nat) : Int)) = true := decide_eq_true (by omega)
        rw [c0, c1]
        rfl
    have h0 : ((m : Int) = 0) = False := eq_false (by omega)
    have first : ∀ {o : Out}, SvD K MP.tt (wSs (un (dCx P w K mg base n25 "reach_in" (top 25) f cdv A outer s H E)) ((defBody (top 25)).drop 2)) (RRho rs c m (0, m)) o → SvD K MP.tt (wSs (un (dCx P w K mg base n25 "reach_in" (top 25) f cdv A outer s H E)) (defBody (top 25))) (startD n25 [encRuns rs, .str (sgF c), .int (m : Int)]) o := fun h =>
      ss_cons (s_ifN (et_is (t_cmp (fun _ => op_eq) (x_var 2) x_int rd_eqi (nomark _)) (decide_eq_false (by omega)))) (ss_cons (s_par (k1 := 3) (k2 := 4) (fun _ => sc25.nd) (a_two x_int (x_var 2))) h)
    unfold reachIn
    rw [if_neg hm0]
    rcases reach_cases c rs (0, m) with ⟨h1, h2⟩ | ⟨k, r, h1, h2, h3, h4⟩
    · rw [h2]
      refine ⟨_, first (ss_cons (s_forG rs encRun (i_tup (x_var 0)) (fun i => RRho rs c m (stAt c rs (0, m) i)) (by cases rs <;> rfl) fun i r hi => ok i r hi (pos_at c rs (0, m) i hm fun j y _ hj => h1 j y hj) (h1 i r hi)) (ss_one (s_ret x_non))), .inl rfl⟩
    · rw [h4]
      refine ⟨_, first (ss_ret (s_forRt rs encRun (i_tup (x_var 0)) (fun i => RRho rs c m (stAt c rs (0, m) i)) k (by cases rs <;> rfl) h1 (fun i r hi he => ok i r he (pos_at c rs (0, m) i hm fun j y hj he => h3 j y (by omega) he) (h3 i r hi he)) (hit k r h1 (pos_at c rs (0, m) k hm h3) h2))), .inl rfl⟩
end
end SP
/-! M2 -/
namespace SP
open PySem L2
/-! ### names with counts -/
abbrev Cnt := List (Str × Nat)
def kvD (l : Cnt) : List (Key × V) := l.map fun p => (Sum.inr p.1, V.int (p.2 : Int))
def encHad (l : Cnt) : Dt := .tux (l.map fun p => .tup [.str p.1, .int (p.2 : Int)])
def getN : Cnt → Str → Option Nat
  | [], _ => none
  | (a, k) :: r, n => if a = n then some k else getN r n
def putN (l : Cnt) (n : Str) (k : Nat) : Cnt := if (getN l n).isSome = true then l.map (fun p => if p.1 = n then (p.1, k) else p) else l ++ [(n, k)]
def addN (l : Cnt) (n : Str) (c : Nat) : Cnt := putN l n ((getN l n).getD 0 + c)
def addAll (l : Cnt) (ps : List (Str × Nat)) : Cnt := ps.foldl (fun l p => addN l p.1 p.2) l
theorem valV_kvD (n : Str) : ∀ l : Cnt, valV (kvD l) (Sum.inr n) = (getN l n).map fun k => V.int (k : Int)
  | [] => rfl
  | (a, k) :: r => by
    show valV ((Sum.inr a, V.int (k : Int)) :: kvD r) (Sum.inr n) = _
    by_cases h : a = n
    · subst h
      rw [valV_pos rfl]
      simp [getN]
    · rw [valV_neg (fun z => h (Sum.inr.inj z)), valV_kvD n r]
      simp [getN, h]
theorem any_kvD (n : Str) (l : Cnt) : ((kvD l).any fun kv => decide (kv.1 = Sum.inr n)) = (getN l n).isSome := by
  rw [valV_any, valV_kvD]
  cases getN l n <;> rfl
theorem putK_kvD (l : Cnt) (n : Str) (k : Nat) : putK (kvD l) (Sum.inr n) (.int (k : Int)) = kvD (putN l n k) := by
  unfold putK putN
  rw [any_kvD]
  by_cases h : (getN l n).isSome = true
  · rw [if_pos h, if_pos h]
    unfold kvD
    rw [List.map_map, List.map_map]
    refine List.map_congr_left fun p _ => ?_
    by_cases e : p.1 = n
    · simp [e]
    · have e' : ¬ (Sum.inr p.1 : Key) = Sum.inr n := fun z => e (Sum.inr.inj z)
      simp [e]
  · rw [if_neg h, if_neg h]
    unfold kvD
    rw [List.map_append]
    rfl
def keysN (l : Cnt) : List Str := l.map (·.1)
theorem getN_none {n : Str} : ∀ {l : Cnt}, getN l n = none ↔ n ∉ keysN l
  | [] => by simp [getN, keysN]
  | (a, k) :: r => by
    have ih := getN_none (n := n) (l := r)
    by_cases h : a = n
    · subst h; simp [getN, keysN]
    · have h' : ¬ n = a := fun z => h z.symm
      simp only [getN, h, if_false, ih, keysN, List.map_cons, List.mem_cons, h', false_or]
theorem merge_kvD : ∀ (more acc : Cnt), (keysN acc ++ keysN more).Nodup → mergeK (kvD acc) (kvD more) = kvD (acc ++ more)
  | [], acc, _ => by simp [mergeK, kvD]
  | (n, k) :: r, acc, h => by
    have hn : n ∉ keysN acc := by
      rw [List.nodup_append] at h
      intro z
      exact (h.2.2 n z n (by simp [keysN])) rfl
    have e : putK (kvD acc) (Sum.inr n) (.int (k : Int)) = kvD (acc ++ [(n, k)]) := by
      rw [putK_kvD]
      unfold putN
      rw [getN_none.mpr hn]
      rfl
    show mergeK (putK (kvD acc) (Sum.inr n) (.int (k : Int))) (kvD r) = _
    rw [e, merge_kvD r (acc ++ [(n, k)]) (by simpa [keysN] using h)]
    simp
def SortN (l : Cnt) : Prop := l.Pairwise fun a b => a.1.cps.toList < b.1.cps.toList
theorem sortN_nodup {l : Cnt} (h : SortN l) : (keysN l).Nodup := by
  unfold keysN
  rw [List.nodup_iff_pairwise_ne, List.pairwise_map]
  exact h.imp fun {a b} hab e => by
    rw [e] at hab
    exact List.lt_irrefl _ hab
/-- two orders of one set of pairs -/
theorem sort_unique : ∀ {xs ys : Cnt}, xs.Perm ys → SortN ys → xs.Pairwise (fun a b => ¬ b.1.cps.toList < a.1.cps.toList) → xs = ys
  | [], ys, p, _, _ => by rw [List.nil_perm.mp p]
  | x :: xs, ys, p, sy, sx => by
    cases ys with
    | nil => exact absurd p.length_eq (by simp)
    | cons y ys =>
      have hx : x ∈ y :: ys := p.subset List.mem_cons_self
      have hy : y ∈ x :: xs := p.symm.subset List.mem_cons_self
      have e : x = y := by
        rcases List.mem_cons.mp hx with e | hx
        · exact e
        · rcases List.mem_cons.mp hy with e | hy
          · exact e.symm
          · have h1 := (List.pairwise_cons.mp sy).1 x hx
            have h2 := (List.pairwise_cons.mp sx).1 y hy
            exact absurd h1 h2
      subst e
      rw [sort_unique (List.Perm.cons_inv p) (List.pairwise_cons.mp sy).2 (List.pairwise_cons.mp sx).2]
end SP
/-! Q6 -/
namespace SP
open PySem PySem.Spec PyProof.Rows L2
/-! ### a dict of the def's own, texts to ints -/
def OwnD (Hd0 H0 : Hp) (p : Addr) (l : Cnt) : MP := ⟨fun Hd H => Stp NoM Hd0 H0 Hd H ∧ H0 p = none ∧ Hd p = none ∧ H p = some (.dK (kvD l)), fun {Hd H Hd' H'} s ⟨a, b, c, d⟩ => ⟨a.trans s, b, s.sep p (by rw [d]; intro z; cases z) c, s.ex _ _ d⟩⟩
abbrev prD (p : Str × Nat) : Dt := .tup [.str p.1, .int (p.2 : Int)]
section
variable {K : PySem.W.Frag} {Hd H : Hp} {σ : L2.St} {ρ : Rho}
theorem had_pairs : ∀ {l : Cnt} {us : List V}, ImA K Hd us (l.map prD) → ∃ ps : List Addr, us = ps.map V.ref ∧ Paired (fun p kv => ∀ H, Ex Hd H → SqT K H p [kV kv.1, kv.2]) ps (kvD l)
  | [], us, h => by
    rw [List.map_nil] at h
    exact ⟨[], h.nil_inv, .nil⟩
  | p :: l, us, h => by
    rw [List.map_cons] at h
    obtain ⟨v, r, rfl, iv, it⟩ := h.cons_inv
    obtain ⟨ps, e, hp⟩ := had_pairs it
    obtain ⟨a, xs, rfl, ha, ia⟩ := iv.tp_inv
    obtain ⟨v1, r1, rfl, i1, t1⟩ := ia.cons_inv
    obtain ⟨v2, r2, rfl, i2, t2⟩ := t1.cons_inv
    rw [t2.nil_inv, i1.str_inv, i2.int_inv] at ha
    exact ⟨a :: ps, by rw [e]; rfl, .cons (fun H ex => .inl (ex_rd ex ha)) hp⟩
theorem paired_imp {α β : Type} {F G : α → β → Prop} (h : ∀ a b, F a b → G a b) : ∀ {l : List α} {m : List β}, Paired F l m → Paired G l m
  | _, _, .nil => .nil
  | _, _, .cons a t => .cons (h _ _ a) (paired_imp h t)
variable {F : Unit → Cx} {a : Expr} {pos p : Pos} {mg : Str → Option Value} {Q : VK}
theorem ev_dict (T : TX mg) {l : Cnt} (en : EnvD K Hd σ ρ) (ex : Ex Hd H) (h : EvD K MP.tt (wE F a) ρ (encHad l)) (hs : (keysN l).Nodup) (q : ∀ p Hd' H', (OwnD Hd H p l).p Hd' H' → Q (.ref p) H') (hmg : ∀ i, (F i).mg = mg := by intro _; rfl) (hc : ∀ i, (F i).calm = true := by intro _; rfl) (hK : ∀ i, (F i).K = K := by intro _; rfl) (hg : ∀ i, Gl (F i) "dict" := by intro _; rfl)
    (he : ∀ i, starEach [a] (F i).env = (false, eval a (F i).env) :: starEach [] (F i).env := by intro _; rfl) (hpl : ∀ i, (backTo pos (starEach [] (F i).env)).any (·.1) = false := by intro _; rfl) : wE F (.Call (.Name "dict" p) [a] [] pos) σ H Q := by
  refine ⟨tCB (fun xs H Q => ∃ (a : Addr) (o : Obj) (ps : List Addr) (kvs : List (Key × V)), xs = [.ref a] ∧ H a = some (.frz o (.tup (ps.map V.ref))) ∧ o.dict = none ∧ Paired (fun p kv => SqT K H p [kV kv.1, kv.2]) ps kvs ∧
    ∀ p, H p = none → Q (.ref p) (upd H p (.dK (mergeK [] kvs)))) (tCons (wE F a) tNil), fun i => ?_, ?_⟩
  · have := pe_callTy (X := F i) (p := p) (pos := pos) (call_dictT (hc i)) (hg i) (by rw [hmg i]; exact T.dict) boot_dict (pa_cons (wE_ok (F := F) (e := a) i) pa_nil (he i)) (by decide) (by decide) (he i) (hpl i)
    rw [hK i] at this
    exact this
  · refine h σ Hd H ex en True.intro _ fun v Hd' H' s iv => ?_
    obtain ⟨b, us, o, rfl, hb, ho, ia⟩ := iv.tux_inv
    obtain ⟨ps, rfl, hp⟩ := had_pairs ia
    refine ⟨b, o, ps, kvD l, rfl, s.sub _ _ hb, ho, paired_imp (fun _ _ z => z H' s.sub) hp, fun p hp' => ?_⟩
    have e : mergeK [] (kvD l) = kvD l := by
      have := merge_kvD l [] (by simpa [keysN] using hs)
      simpa [kvD] using this
    rw [e]
    have n0 : H p = none := by
      cases z : H p with
      | none => rfl
      | some u => exact absurd hp' (s.al p (by rw [z]; intro q; cases q))
    exact q p Hd' _ ⟨s.trans (Stp.newM s.sub hp'), n0, sub_none s.sub hp', upd_same⟩
/-- d[n] = d.get(n, 0) + c -/
theorem si_dadd {kd kn kc : Nat} {nd nn nc : Str} {Hd0 H0 : Hp} {d : Addr} {l : Cnt} {n : Str} {c : Nat} {j : Nat} {q1 q2 q3 q4 q5 q6 apos cpos bpos spos : Pos} (hr : ∀ i, Room j (F i).A) (hd : ρ[kd]? = some (some (.raw (.ref d)))) (hn : ρ[kn]? = some (some (.str n))) (hcn : ρ[kc]? = some (some (.int (c : Int)))) (hl : l.length < 100000)
    (hN1 : ∀ i, (F i).N[kd]? = some nd := by intro _; rfl) (hN2 : ∀ i, (F i).N[kn]? = some nn := by intro _; rfl) (hN3 : ∀ i, (F i).N[kc]? = some nc := by intro _; rfl) (hv1 : ∀ i, Vis (F i).env.scope nd := by intro _; exact Or.inl rfl) (hv2 : ∀ i, Vis (F i).env.scope nn := by intro _; exact Or.inl rfl) (hv3 : ∀ i, Vis (F i).env.scope nc := by intro _; exact Or.inl rfl)
    (hb : ((nd == ("__debug__" : Str)) || (nn == ("__debug__" : Str)) || (nc == ("__debug__" : Str)) || (nd == ("__classdict__" : Str)) || (nn == ("__classdict__" : Str)) || (nc == ("__classdict__" : Str))) = false := by decide)
    (m : ∀ i, M2 (F i) (.Name nd q2) "get" apos (.Name nn q3) (.Constant (.int 0) 0 q4) cpos := by intro _; exact ⟨rfl, rfl, rfl, rfl⟩)
    (hs : ∀ i, swapsWith (.BinOp (.Call (.Attribute (.Name nd q2) "get" apos) [.Name nn q3, .Constant (.int 0) 0 q4] [] cpos) .Add (.Name nc q5) bpos) (some (.Subscript (.Name nd q1) (.Name nn q6) spos)) pos.line (F i).env = pure false := by intro _; rfl) :
    SvI K (wS F (.Assign [.Subscript (.Name nd q1) (.Name nn q6) spos] (.BinOp (.Call (.Attribute (.Name nd q2) "get" apos) [.Name nn q3, .Constant (.int 0) 0 q4] [] cpos) .Add (.Name nc q5) bpos) pos)) ρ (OwnD Hd0 H0 d l) ρ (OwnD Hd0 H0 d (addN l n c)) := fun σ Hd H ex en pp D q => by
  simp only [Bool.or_eq_false_iff] at hb
  obtain ⟨⟨⟨⟨⟨b1, b2⟩, b3⟩, b4⟩, b5⟩, b6⟩ := hb
  obtain ⟨v1, s1, i1⟩ := en.2 kd _ hd
  obtain ⟨v2, s2, i2⟩ := en.2 kn _ hn
  obtain ⟨v3, s3, i3⟩ := en.2 kc _ hcn
  rw [i1.raw_inv] at s1
  rw [i2.str_inv] at s2
  rw [i3.int_inv] at s3
  obtain ⟨a1, a2, a3, a4⟩ := pp
  refine ⟨sDPut (tVar kd) (tVar kn) (tOp (rI0 fun i j => .int (i + j)) (tDGet2 (tVar kd) (tVar kn) (tC (.int 0))) (tVar kc)), fun i => ps_dput (hu_of (hr i)) (pe_var (hN1 i) (hv1 i) b1 b4) (pe_var (hN2 i) (hv2 i) b2 b5) (pe_op op_add (pe_dget2 (hu_of (hr i)) (pe_var (hN1 i) (hv1 i) b1 b4) (pe_var (hN2 i) (hv2 i) b2 b5) pe_int (m i)) (pe_var (hN3 i) (hv3 i) b3 b6)) (hs i), ?_⟩
  have e1 : ((getN l n).map fun k => V.int (k : Int)).getD (.int 0) = .int (((getN l n).getD 0 : Nat) : Int) := by
    cases getN l n <;> rfl
  refine ⟨_, s1, d, rfl, .inl ⟨_, .inl a4⟩, _, s2, _, DGet.k (k := Sum.inr n) a4, _, s3, ((getN l n).getD 0 : Nat), c, by rw [valV_kvD]; exact e1, rfl, _, s1, _, s2, d, _, rfl, DPut.k (k := Sum.inr n) a4 (by unfold kvD; rw [List.length_map]; exact Nat.lt_of_lt_of_le hl (by decide)), ?_⟩
  show D.nx σ (upd H d (.dK (putK (kvD l) (Sum.inr n) (.int ((((getN l n).getD 0 : Nat) : Int) + (c : Int))))))
  rw [show (((getN l n).getD 0 : Nat) : Int) + (c : Int) = (((getN l n).getD 0 + c : Nat) : Int) by omega, putK_kvD]
  have a' := a1.mutNew (o := .dK (kvD (addN l n c))) a2 a3
  exact q σ Hd _ (Ex.refl _) a'.sub en ⟨a', a2, a3, upd_same⟩
/-- the pairs of the list that list(d.items()) gave -/
theorem item_prs {H : Hp} : ∀ {ts : List Addr} {l : Cnt}, Paired (fun (t : Addr) (q : Key × V) => H t = some (.tup [kV q.1, q.2])) ts (kvD l) →
    ∃ bs : List Pr, bs.map (·.1) = ts.map V.ref ∧ bs.map (fun b => (b.2.1, b.2.2.toNat)) = l ∧ ∀ b ∈ bs, b.2.2 = ((b.2.2.toNat : Nat) : Int) ∧ ∃ p ∈ ts, b.1 = .ref p ∧ H p = some (.tup [.str b.2.1, .int b.2.2])
  | [], [], _ => ⟨[], rfl, rfl, fun b hb => by simp at hb⟩
  | t :: ts, (n, k) :: l, .cons h r => by
    obtain ⟨bs, e1, e2, h3⟩ := item_prs r
    refine ⟨(.ref t, n, (k : Int)) :: bs, by rw [List.map_cons, List.map_cons, e1], by rw [List.map_cons, e2]; simp, fun b hb => ?_⟩
    rcases List.mem_cons.mp hb with e | hb
    · subst e
      exact ⟨by simp, t, List.mem_cons_self, rfl, h⟩
    · obtain ⟨h4, p, h5, h6, h7⟩ := h3 b hb
      exact ⟨h4, p, List.mem_cons_of_mem _ h5, h6, h7⟩
theorem im_prs {Hd : Hp} : ∀ {ys : List Pr}, (∀ b ∈ ys, b.2.2 = ((b.2.2.toNat : Nat) : Int) ∧ ∃ p, b.1 = .ref p ∧ Hd p = some (.tup [.str b.2.1, .int b.2.2])) → ImA K Hd (ys.map (·.1)) ((ys.map fun b => (b.2.1, b.2.2.toNat)).map prD)
  | [], _ => .nil
  | b :: ys, h => by
    obtain ⟨e, p, h1, h2⟩ := h b List.mem_cons_self
    refine .cons ?_ (im_prs fun c hc => h c (List.mem_cons_of_mem _ hc))
    show Im K Hd b.1 (.tup [.str b.2.1, .int ((b.2.2.toNat : Nat) : Int)])
    rw [h1]
    refine .tup h2 (.cons (.str _) (.cons ?_ .nil))
    show Im K Hd (V.int b.2.2) (.int ((b.2.2.toNat : Nat) : Int))
    rw [← e]
    exact .int _
/-- tuple(sorted(list(d.items()))) -/
theorem c_items (T : TX mg) {k : Nat} {nd : Str} {Hd0 H0 : Hp} {d : Addr} {l res : Cnt} {j : Nat} {q1 q2 q3 q4 q5 q6 p1 p2 p3 : Pos} (hr : ∀ i, Room j (F i).A) (hσ : σ[k]? = some (some (.ref d))) (ex : Ex Hd H) (own : (OwnD Hd0 H0 d l).p Hd H) (hlen : l.length ≤ 1000) (hp : l.Perm res) (hs : SortN res) (q : ∀ v Hd' H', Stp NoM Hd0 H0 Hd' H' → Im K Hd' v (encHad res) → Q v H')
    (hmg : ∀ i, (F i).mg = mg := by intro _; rfl) (hc : ∀ i, (F i).calm = true := by intro _; rfl) (hK : ∀ i, (F i).K = K := by intro _; rfl) (hg : ∀ i, Gl (F i) "list" := by intro _; rfl) (hg2 : ∀ i, Gl (F i) "sorted" := by intro _; rfl) (hg3 : ∀ i, Gl (F i) "tuple" := by intro _; rfl)
    (hN : ∀ i, (F i).N[k]? = some nd := by intro _; rfl) (hv : ∀ i, Vis (F i).env.scope nd := by intro _; exact Or.inl rfl) (hd : (nd == ("__debug__" : Str)) = false := by decide) (hcd : (nd == ("__classdict__" : Str)) = false := by decide)
    (hP : ∀ i, ∃ t, (∀ t1 : TE, PE (F i) (.Call (.Name "list" q1) [.Call (.Attribute (.Name nd q2) "items" q3) [] [] q4] [] q5) t1 → PE (F i) (.Call (.Name "tuple" p1) [.Call (.Name "sorted" p2) [.Call (.Name "list" q1) [.Call (.Attribute (.Name nd q2) "items" q3) [] [] q4] [] q5] [] q6] [] p3) (t t1)) ∧ t = fun t1 => tCB (fun xs H Q => ∃ p ys, xs = [.ref p] ∧ SqL K H p ys ∧ ∀ l o, H l = none → o.dict = none → Q (.ref l) (upd H l (.frz o (.tup ys)))) (tCons (tCB (rSortedPr K) (tCons t1 tNil)) tNil))
    (hL : ∀ i, PE (F i) (.Call (.Name "list" q1) [.Call (.Attribute (.Name nd q2) "items" q3) [] [] q4] [] q5) (LiI.tListItems (tVar k))) :
    wE F (.Call (.Name "tuple" p1) [.Call (.Name "sorted" p2) [.Call (.Name "list" q1) [.Call (.Attribute (.Name nd q2) "items" q3) [] [] q4] [] q5] [] q6] [] p3) σ H Q := by
  refine ⟨tCB (fun xs H Q => ∃ p ys, xs = [.ref p] ∧ SqL K H p ys ∧ ∀ l o, H l = none → o.dict = none → Q (.ref l) (upd H l (.frz o (.tup ys)))) (tCons (tCB (rSortedPr K) (tCons (LiI.tListItems (tVar k)) tNil)) tNil), fun i => ?_, ?_⟩
  · obtain ⟨t, h1, h2⟩ := hP i
    subst h2
    exact h1 _ (hL i)
  · obtain ⟨a1, a2, a3, a4⟩ := own
    refine ⟨.ref d, hσ, d, kvD l, rfl, a4, fun H1 p1 ts eH np nt pt hp1 pr => ?_⟩
    obtain ⟨bs, b1, b2, b3⟩ := item_prs pr
    have hbl : bs.length = l.length := by rw [← b2, List.length_map]
    let Hd1 : Hp := fun b => if b ∈ ts then H1 b else Hd b
    have in1 : ∀ b, b ∈ ts → Hd1 b = H1 b := fun b hb => if_pos hb
    have out1 : ∀ b, b ∉ ts → Hd1 b = Hd b := fun b hb => if_neg hb
    have s1 : Stp NoM Hd H Hd1 H1 := by
      refine ⟨fun b o e _ => eH b o e, fun b e => ?_, fun b o e => ?_, fun b o e => ?_, fun b e1 e2 => ?_, fun b ps e => ?_⟩
      · cases z : H b with
        | none => exact absurd z e
        | some o => rw [eH b o z]; intro q; cases q
      · have : b ∉ ts := fun hb => by
          have := ex b o e
          rw [nt b hb] at this
          cases this
        rw [out1 b this]
        exact e
      · by_cases hb : b ∈ ts
        · rw [in1 b hb] at e
          exact e
        · rw [out1 b hb] at e
          exact eH b o (ex b o e)
      · have : b ∉ ts := fun hb => e1 (nt b hb)
        rw [out1 b this]
        exact e2
      · by_cases hb : b ∈ ts
        · rw [in1 b hb] at e
          have key : ∀ {ts : List Addr} {m : List (Key × V)}, Paired (fun (t : Addr) (q : Key × V) => H1 t = some (.tup [kV q.1, q.2])) ts m → ∀ b ∈ ts, ∃ xs, H1 b = some (.tup xs) := fun {ts m} h => by
            induction h with
            | nil => intro b hb; simp at hb
            | cons h _ ih =>
              intro b hb
              rcases List.mem_cons.mp hb with e | hb
              · rw [e]; exact ⟨_, h⟩
              · exact ih b hb
          obtain ⟨xs, hx⟩ := key pr b hb
          rw [hx] at e
          cases e
        · rw [out1 b hb] at e
          exact e
    refine ⟨p1, bs, rfl, .inl (.inl (by rw [b1]; exact hp1)), fun b hb => ?_, by omega, fun ys hy hw p2 hp2 => ?_⟩
    · obtain ⟨_, p, _, e1, e2⟩ := b3 b hb
      exact ⟨p, e1, .inl (.inl e2)⟩
    have s2 : Stp NoM Hd1 H1 Hd1 (upd H1 p2 (.lst (ys.map (·.1)))) := Stp.newM s1.sub hp2
    refine ⟨p2, ys.map (·.1), rfl, .inl (.inl upd_same), fun p3 o np3 ho => ?_⟩
    have s3 : Stp NoM Hd1 (upd H1 p2 (.lst (ys.map (·.1)))) (upd Hd1 p3 (.frz o (.tup (ys.map (·.1))))) _ := Stp.new s2.sub np3
    have hyp : (ys.map fun b => (b.2.1, b.2.2.toNat)).Perm l := by
      rw [← b2]
      exact hy.map _
    have er : (ys.map fun b => (b.2.1, b.2.2.toNat)) = res := sort_unique (hyp.trans hp) hs (by rw [List.pairwise_map]; exact hw)
    refine q (.ref p3) _ _ (a1.trans (s1.trans (s2.trans s3))) ?_
    have im : ImA K Hd1 (ys.map (·.1)) (res.map prD) := by
      rw [← er]
      refine im_prs fun b hb => ?_
      obtain ⟨e0, p, hpt, e1, e2⟩ := b3 b (hy.mem_iff.mp hb)
      exact ⟨e0, p, e1, by rw [in1 p hpt]; exact e2⟩
    exact .tux upd_same ho (im.mono s3.ud)
end
section
variable {P : Program} {w : World} {K : PySem.W.Frag} {mg : Str → Option Value} {base : Heap}
abbrev n28 : List Str := ["had", "names", "more", "found", "name", "coins"]
theorem sc28 : FnScope n28 ["had", "names", "more"] (defScope (top 28)) := ⟨rfl, rfl, rfl, by decide +kernel, rfl, by decide +kernel, by decide +kernel⟩
def RJoin : List Dt → Dt → Prop := fun ts r => ∃ (h : Cnt) (ns : List Str) (more : List Nat) (res : Cnt), ts = [encHad h, encN ns, encNats more] ∧ (keysN h).Nodup ∧ h.length ≤ 900 ∧ ns.length ≤ 6 ∧ (addAll h (ns.zip more)).Perm res ∧ SortN res ∧ r = encHad res
theorem addN_len (l : Cnt) (n : Str) (c : Nat) : (addN l n c).length ≤ l.length + 1 := by
  unfold addN putN
  split
  · rw [List.length_map]; omega
  · simp
theorem addAll_take {l : Cnt} {ps : List (Str × Nat)} {i : Nat} {p : Str × Nat} (h : ps[i]? = some p) : addAll l (ps.take (i + 1)) = addN (addAll l (ps.take i)) p.1 p.2 := by
  rw [take_succ' h]
  unfold addAll
  rw [List.foldl_append]
  rfl
theorem addAll_len (ps : List (Str × Nat)) : ∀ l : Cnt, (addAll l ps).length ≤ l.length + ps.length := by
  induction ps with
  | nil => exact fun l => Nat.le_refl _
  | cons p r ih =>
    intro l
    have h1 := ih (addN l p.1 p.2)
    have h2 := addN_len l p.1 p.2
    show (addAll (addN l p.1 p.2) r).length ≤ _
    rw [List.length_cons]
    omega
theorem d_joined (T : TX mg) (D : DefAt K mg "joined" (top 28) ["had", "names", "more"]) : Callee P w K mg base "joined" 1 ["had", "names", "more"] (spD K RJoin) :=
  cal_dataC D sc28 (by rintro _ _ ⟨h, ns, more, res, rfl, _⟩; rfl) fun f cdv A outer s H E hr Hd vs ts r Q ex en hR q => by
    obtain ⟨h, ns, more, res, rfl, hnd, hlen, hns, hperm, hsort, rfl⟩ := hR
    have hz : (ns.zip more).length ≤ 6 := by rw [List.length_zip]; omega
    refine c_cons (c_set 3 (fun _ => sc28.nd) (ev_dict T en ex (x_var 0) hnd fun p Hd1 H1 own => ?_))
    have ex1 : Ex Hd1 H1 := own.1.sub
    have en1 : EnvD K Hd1 _ _ := ((en.mono own.1.ud).set (i := 3) (Im.raw (.ref p)))
    refine c_cons ((si_for (ns.zip more) prD (it_is (i_zp (fun _ => T.zip) (a_two (x_var 1) (x_var 2)) (.t _ _) (.l _)) ?_) (fun i => [some (encHad h), some (encN ns), some (encNats more), some (.raw (.ref p)), none, none]) (fun i => OwnD Hd H p (addAll h ((ns.zip more).take i))) rfl (fun _ _ z => by rw [List.take_zero]; exact z) ?_) _ Hd1 H1 ex1 en1 own _ fun σ3 Hd3 H3 u3 ex3 en3 own3 => ?_)
    · rw [List.zip_map, List.map_map]
      rfl
    · rintro i ⟨n, c⟩ ha
      refine ⟨_, _, g_two (k1 := 4) (k2 := 5) (fun _ => sc28.nd), si_one (svi_to (si_wk (si_dadd (kd := 3) (kn := 4) (kc := 5) (fun _ => hr) rfl rfl rfl ?_) (.keep (.keep (.keep (.keep (.skip (.skip .nil))))))) rfl ?_)⟩
      · have := addAll_len ((ns.zip more).take i) h
        rw [List.length_take] at this
        omega
      · rw [addAll_take ha]
    · obtain ⟨v4, s4, i4⟩ := en3.2 3 _ rfl
      rw [i4.raw_inv] at s4
      rw [List.take_of_length_le (Nat.le_refl _)] at own3
      refine c_one (c_ret (c_items T (fun _ => hr) s4 ex3 own3 ?_ hperm hsort q (hP := fun i => ⟨_, fun t1 h1 => ?_, rfl⟩) (hL := fun i => ?_)))
      · have := addAll_len (ns.zip more) h
        omega
      · exact pe_callTy call_tupleX rfl T.tuple boot_tuple (pa_cons (pe_callB (call_sortedPr hr.units) rfl T.sorted boot_sorted (pa_cons h1 pa_nil)) pa_nil)
      · exact LiI.pe_listItems rfl (pv 3) rfl T.list boot_list
end
end SP
/-! Q7 -/
namespace SP
open PySem PySem.Spec PyProof.Rows L2
structure Stand where
  deal : Deal
  dealt : Nat
  paid : Nat
  had : Cnt
def encStand (s : Stand) : Dt := .tup [encDeal s.deal, .int (s.dealt : Int), .int (s.paid : Int), encHad s.had]
abbrev fSt : Str := "own_stand"
abbrev fPa : Str := "own_past"
def potF (s : Stand) (past : List Stand) : List (Str × Dt) := [(fSt, encStand s), (fPa, .tup (past.map encStand))]
structure PotC (K : PySem.W.Frag) (C : Addr) : Prop where
  cls : Cls K C
  st : NoAttr K C fSt
  pa : NoAttr K C fPa
section
variable {P : Program} {w : World} {K : PySem.W.Frag} {mg : Str → Option Value} {base : Heap} {C : Addr} {Φ : MP} {ρ : Rho} {F : Unit → Cx} {o : Expr} {a : Addr} {s : Stand} {past : List Stand} {pos : Pos}
theorem x_st (c : PotC K C) (hΦ : ∀ Hd H, Φ.p Hd H → (InsI K C a (potF s past)).p Hd H) (ho : EvD K Φ (wE F o) ρ (.raw (.ref a))) (hb : ∀ i, attributeBase o fSt (F i).env (eval o (F i).env) = eval o (F i).env := by intro _; rfl) (hK : ∀ i, (F i).K = K := by intro _; rfl) : EvD K Φ (wE F (.Attribute o fSt pos)) ρ (encStand s) := x_fld hΦ ho rfl c.cls c.st hb hK
theorem x_pa (c : PotC K C) (hΦ : ∀ Hd H, Φ.p Hd H → (InsI K C a (potF s past)).p Hd H) (ho : EvD K Φ (wE F o) ρ (.raw (.ref a))) (hb : ∀ i, attributeBase o fPa (F i).env (eval o (F i).env) = eval o (F i).env := by intro _; rfl) (hK : ∀ i, (F i).K = K := by intro _; rfl) : EvD K Φ (wE F (.Attribute o fPa pos)) ρ (.tup (past.map encStand)) := x_fld hΦ ho rfl c.cls c.pa hb hK
abbrev pm (j : Nat) : Stmt := inClass (top 30) j
abbrev n304 : List Str := ["self", "stand"]
theorem sc304 : FnScope n304 ["self", "stand"] (defScope (pm 4)) := ⟨rfl, rfl, rfl, by decide +kernel, rfl, by decide +kernel, by decide +kernel⟩
def RGo : List (Str × Dt) → List Dt → Dt → List (Str × Dt) → Prop := fun fs ts r fs' => ∃ s past s', fs = potF s past ∧ past.length ≤ 1000 ∧ ts = [encStand s'] ∧ r = .non ∧ fs' = potF s' (past ++ [s])
theorem d_go_on (c : PotC K C) (D : MDef K C "go_on" "Pot.go_on" (pm 4) ["self", "stand"]) : MCal P w K mg base C "go_on" 1 ["self", "stand"] (MutSp K C RGo) :=
  mcal_mut D sc304 (by rintro _ _ _ _ ⟨s, past, s', _, _, rfl, _⟩; rfl) fun f cdv A outer sh H E hr Hd a fs vs ts r fs' Q ex hi en hR q => by
    obtain ⟨s, past, s', rfl, hl, rfl, rfl, rfl⟩ := hR
    have e : putFD fSt (encStand s') (putFD fPa (.tup (past.map encStand ++ [encStand s])) (potF s past)) = potF s' (past ++ [s]) := by
      unfold potF
      rw [List.map_append]
      rfl
    have all : SvI K (wSs (un (dCx P w K mg base n304 "Pot.go_on" (pm 4) f cdv A outer sh H E)) (defBody (pm 4))) (startD n304 [.raw (.ref a), encStand s']) (((StI (· = a) Hd H).and MP.tt).and (InsI K C a (potF s past))) (startD n304 [.raw (.ref a), encStand s']) (((StI (· = a) Hd H).and MP.tt).and (InsI K C a (potF s' (past ++ [s])))) :=
      si_cons (si_fld (.inl rfl) (fun _ _ _ _ => True.intro) (x_var 0) (x_tup (a_star (x_pa c (fun _ _ z => z.2) (x_var 0)) (a_one (x_st c (fun _ _ z => z.2) (x_var 0)))) (by
        rw [List.length_append, List.length_map]
        show past.length + 1 ≤ 100000
        omega)) c.cls c.pa)
      (si_one (svi_to (si_fld (.inl rfl) (fun _ _ _ _ => True.intro) (x_var 0) (x_var 1) c.cls c.st) rfl (by rw [e])))
    exact all _ Hd H ex en ⟨⟨.refl ex, True.intro⟩, hi⟩ _ fun σ1 Hd1 H1 u1 ex1 en1 p1 => q .non Hd1 H1 p1.1.1 p1.2 .non
/-- self.go_on(e) -/
theorem si_go {X : Cx} {e o : Expr} {apos cpos : Pos} {s' : Stand} {Hd0 H0 : Hp} {j : Nat} (c : PotC X.K C) (G : MCal X.prog X.w X.K X.mg X.base C "go_on" 1 ["self", "stand"] (MutSp X.K C RGo)) (hr : Room j X.A) (hj : 1 ≤ j) (hl : past.length ≤ 1000)
    (ho : EvD X.K (((StI (· = a) Hd0 H0).and MP.tt).and (InsI X.K C a (potF s past))) (wE (un X) o) ρ (.raw (.ref a))) (he : EvD X.K (((StI (· = a) Hd0 H0).and MP.tt).and (InsI X.K C a (potF s past))) (wE (un X) e) ρ (encStand s'))
    (hst : starEach [e] X.env = (false, eval e X.env) :: starEach [] X.env := by rfl) (hpl : (backTo cpos (starEach [] X.env)).any (·.1) = false := by rfl)
    (ht : ∃ pl : Sem Bool, eval (.Call (.Attribute o "go_on" apos) [e] [] cpos) X.env = (do
      let ov ← eval o X.env
      standAt apos.atName
      let (f, first) ← holding [ov] (getMethod ov "go_on" pl)
      callWith cpos f first (backTo cpos (starEach [e] X.env)) (backToKw cpos (keywordEach [] X.env))) := by exact ⟨_, rfl⟩) (hsw : swapsWith (.Call (.Attribute o "go_on" apos) [e] [] cpos) none pos.line X.env = pure false := by rfl) :
    SvI X.K (wS (un X) (.Expr (.Call (.Attribute o "go_on" apos) [e] [] cpos) pos)) ρ (((StI (· = a) Hd0 H0).and MP.tt).and (InsI X.K C a (potF s past))) ρ (((StI (· = a) Hd0 H0).and MP.tt).and (InsI X.K C a (potF s' (past ++ [s])))) := fun σ Hd H ex en pp D q => by
  obtain ⟨pl, ht⟩ := ht
  refine c_expr (F := un X) ⟨_, fun _ => pe_mcal G c.cls hr hj (wE_ok (F := un X) (e := o) ()) (pa_cons (wE_ok (F := un X) (e := e) ()) pa_nil hst) hst hpl ht, ?_⟩ (fun _ => hsw)
  refine ho σ Hd H ex en pp _ fun v Hd1 H1 s1 i1 => ?_
  rw [i1.raw_inv]
  have p1 := (((StI (· = a) Hd0 H0).and MP.tt).and (InsI X.K C a (potF s past))).mono s1 pp
  obtain ⟨_, hd1, dx, fl, e1, e2⟩ := id p1
  refine ⟨a, dx, fl, rfl, e1, e2.none rfl, he σ Hd1 H1 s1.sub (en.mono s1.ud) p1 _ fun u Hd2 H2 s2 i2 => ?_⟩
  have p2 := (((StI (· = a) Hd0 H0).and MP.tt).and (InsI X.K C a (potF s past))).mono s2 p1
  refine ⟨Hd2, a, potF s past, [u], [encStand s'], .non, potF s' (past ++ [s]), rfl, s2.sub, p2.2, .cons i2 .nil, ⟨s, past, s', rfl, hl, rfl, rfl, rfl⟩, fun w Hd3 H3 s3 p3 _ => ?_⟩
  exact q σ Hd3 H3 (s1.ud.trans (s2.ud.trans s3.ud)) s3.sub (en.mono (s1.ud.trans (s2.ud.trans s3.ud))) ⟨⟨p2.1.1.trans s3, True.intro⟩, p3⟩
/-! ### a payment -/
def moreOf (d : Deal) (n c : Nat) : List Nat := (List.range d.names.length).map fun i => countBy d.runs i (n + c) - countBy d.runs i n
structure PayOk (s : Stand) (c : Nat) : Prop where
  one : 1 ≤ c
  most : c ≤ 1000000000000
  names : s.deal.names.length ≤ 6
  runs : s.deal.runs.length ≤ 60
  fit : figsFit s.deal.runs
  up : ∀ i, countBy s.deal.runs i s.dealt ≤ countBy s.deal.runs i (s.dealt + c)
  nd : (keysN s.had).Nodup
  few : s.had.length ≤ 900
def bring (d : Deal) (n c : Nat) : List (Str × Nat) := (d.names.zip (moreOf d n c)).filter fun p => decide (0 < p.2)
def RPay : List (Str × Dt) → List Dt → Dt → List (Str × Dt) → Prop := fun fs ts r fs' => ∃ s past c res, fs = potF s past ∧ past.length ≤ 1000 ∧ ts = [.int ((c : Nat) : Int)] ∧ PayOk s c ∧ (addAll s.had (s.deal.names.zip (moreOf s.deal s.dealt c))).Perm res ∧ SortN res ∧
  r = .tux ((bring s.deal s.dealt c).map prD) ∧ fs' = potF ⟨s.deal, s.dealt + c, s.paid + c, res⟩ (past ++ [s])
theorem pay_e1 (ns : List Str) (rs : List Run) (n c : Nat) : List.map pairD ((List.map (fun (k : Nat) => Dt.int (k : Int)) (hasIn ⟨ns, rs⟩ n)).zip (List.map (fun (k : Nat) => Dt.int (k : Int)) (hasIn ⟨ns, rs⟩ (n + c)))) = List.map (fun i => Dt.tup [.int ((countBy rs i n : Nat) : Int), .int ((countBy rs i (n + c) : Nat) : Int)]) (List.range ns.length) := by
  unfold hasIn
  rw [List.map_map, List.map_map, List.zip_map', List.map_map]
  rfl
theorem pay_e2 (ns : List Str) (rs : List Run) (n c : Nat) (h : ∀ i, countBy rs i n ≤ countBy rs i (n + c)) : Dt.lst (List.map (fun i => Dt.int (((countBy rs i (n + c) : Nat) : Int) - ((countBy rs i n : Nat) : Int))) (List.range ns.length)) = encNats (moreOf ⟨ns, rs⟩ n c) := by
  unfold encNats moreOf
  rw [List.map_map]
  refine congrArg Dt.lst (List.map_congr_left fun i _ => congrArg Dt.int ?_)
  have := h i
  show ((countBy rs i (n + c) : Nat) : Int) - ((countBy rs i n : Nat) : Int) = ((countBy rs i (n + c) - countBy rs i n : Nat) : Int)
  omega
theorem pay_e3 (ns : List Str) (m : List Nat) : List.map pairD ((List.map Dt.str ns).zip (List.map (fun (k : Nat) => Dt.int (k : Int)) m)) = List.map prD (ns.zip m) := by
  rw [List.zip_map, List.map_map]
  rfl
theorem pay_e4 (ns : List Str) (rs : List Run) (n c : Nat) : Dt.lst (List.map prD (List.filter (fun p => decide ((0 : Int) < (p.2 : Int))) (ns.zip (moreOf ⟨ns, rs⟩ n c)))) = Dt.lst (List.map prD (bring ⟨ns, rs⟩ n c)) := by
  unfold bring
  refine congrArg (fun l => Dt.lst (List.map prD l)) (List.filter_congr fun p _ => ?_)
  apply decide_eq_decide.mpr
  omega
abbrev n305 : List Str := ["self", "coins", "deal", "dealt", "paid", "had", "ahead", "behind", "more", "here", "there", "name", "part"]
theorem sc305 : FnScope n305 ["self", "coins"] (defScope (pm 5)) := ⟨rfl, rfl, rfl, by decide +kernel, rfl, by decide +kernel, by decide +kernel⟩
theorem d_pay (T : TX mg) (c : PotC K C) (D : MDef K C "__call__" "Pot.__call__" (pm 5) ["self", "coins"]) (G : MCal P w K mg base C "go_on" 1 ["self", "stand"] (MutSp K C RGo)) (C1 : Callee P w K mg base "is_whole" 1 ["thing", "least", "most"] (spD K RWhole)) (C2 : Callee P w K mg base "has_in" 3 ["deal", "coins"] (spD K RHas)) (C3 : Callee P w K mg base "joined" 1 ["had", "names", "more"] (spD K RJoin)) :
    MCal P w K mg base C "__call__" 4 ["self", "coins"] (MutSp K C RPay) :=
  mcal_mut D sc305 (by rintro _ _ _ _ ⟨s, past, cn, res, _, _, rfl, _⟩; rfl) fun f cdv A outer sh H E hr Hd a fs vs ts r fs' Q ex hi en hR q => by
    obtain ⟨s, past, cn, res, rfl, hl, rfl, ok, hperm, hsort, rfl, rfl⟩ := hR
    obtain ⟨⟨ns, rs⟩, n, pd, had⟩ := s
    obtain ⟨t1, e1⟩ := T.mostCoins
    have o1 := ok.one
    have o2 := ok.most
    have o3 : ns.length ≤ 6 := ok.names
    have o4 : rs.length ≤ 60 := ok.runs
    have o5 : figsFit rs := ok.fit
    have o6 : ∀ i, countBy rs i n ≤ countBy rs i (n + cn) := ok.up
    have ec : ((n : Int) + (cn : Int)) = ((n + cn : Nat) : Int) := by omega
    have ep : ((pd : Int) + (cn : Int)) = ((pd + cn : Nat) : Int) := by omega
    have lm : (moreOf ⟨ns, rs⟩ n cn).length = ns.length := by simp [moreOf]
    have all : SvR K (wSs (un (dCx P w K mg base n305 "Pot.__call__" (pm 5) f cdv A outer sh H E)) (defBody (pm 5))) (startD n305 [.raw (.ref a), .int (cn : Int)]) (((StI (· = a) Hd H).and MP.tt).and (InsI K C a (potF ⟨⟨ns, rs⟩, n, pd, had⟩ past))) (.tux ((bring ⟨ns, rs⟩ n cn).map prD)) (((StI (· = a) Hd H).and MP.tt).and (InsI K C a (potF ⟨⟨ns, rs⟩, n + cn, pd + cn, res⟩ (past ++ [⟨⟨ns, rs⟩, n, pd, had⟩])))) :=
      sr_cons (svi_of (s_ifN (et_is (t_not (t_val (x_call (fun _ => C1) (fun _ => hr) (a_cons (x_var 1) (a_two x_int (x_gint fun _ => e1))) ⟨cn, 1, 1000000000000, rfl, rfl⟩))) (by
        rw [decide_eq_true (show (1 : Int) ≤ (cn : Int) by omega), decide_eq_true (show (cn : Int) ≤ 1000000000000 by omega)]
        rfl))))
      (sr_cons (svi_of (s_asg (x_st c (fun _ _ z => z.2) (x_var 0)) (g_tup (m := 4) (g_cons (g_name 2 (fun _ => sc305.nd)) (g_cons (g_name 3 (fun _ => sc305.nd)) (g_cons (g_name 4 (fun _ => sc305.nd)) (g_cons (g_name 5 (fun _ => sc305.nd)) g_nil)))))))
      (sr_cons (svi_of (s_par (k1 := 6) (k2 := 7) (fun _ => sc305.nd) (a_two (x_call (fun _ => C2) (fun _ => hr) (a_two (x_var 2) (x_var 3)) ⟨⟨ns, rs⟩, n, rfl, o3, o4, o5, rfl⟩) (x_call (fun _ => C2) (fun _ => hr) (a_two (x_var 2) (ed_is (x_add (x_var 3) (x_var 1)) (congrArg Dt.int ec))) ⟨⟨ns, rs⟩, n + cn, rfl, o3, o4, o5, rfl⟩))))
      (sr_cons (svi_of (sv_to (ρ2 := [some (.raw (.ref a)), some (.int (cn : Int)), some (encDeal ⟨ns, rs⟩), some (.int (n : Int)), some (.int (pd : Int)), some (encHad had), some (encT (hasIn ⟨ns, rs⟩ n)), some (encT (hasIn ⟨ns, rs⟩ (n + cn))), some (encNats (moreOf ⟨ns, rs⟩ n cn)), none, none, none, none])
        (s_setLcA sc305 8 [("here", 9), ("there", 10)] (List.range ns.length) (fun i => .tup [.int ((countBy rs i n : Nat) : Int), .int ((countBy rs i (n + cn) : Nat) : Int)]) (fun i => .int (((countBy rs i (n + cn) : Nat) : Int) - ((countBy rs i n : Nat) : Int))) (it_is (i_zp (fun _ => T.zip) (a_two (x_var 6) (x_var 7)) (.t _ _) (.t _ _)) (pay_e1 ns rs n cn)) (by rw [List.length_range]; omega)
          (fun i _ => ⟨_, _, g_two (k1 := 9) (k2 := 10) (fun _ => sc305.nd), by simp, x_sub (x_var 10) (x_var 9)⟩)) (congrArg (fun x => [some (.raw (.ref a)), some (.int (cn : Int)), some (encDeal ⟨ns, rs⟩), some (.int (n : Int)), some (.int (pd : Int)), some (encHad had), some (encT (hasIn ⟨ns, rs⟩ n)), some (encT (hasIn ⟨ns, rs⟩ (n + cn))), some x, none, none, none, none]) (pay_e2 ns rs n cn o6))))
      (sr_cons (si_go c G hr (by decide) hl (x_var 0) (ed_is (x_tup (a_cons (x_var 2) (a_cons (x_add (x_var 3) (x_var 1)) (a_two (x_add (x_var 4) (x_var 1)) (x_call (fun _ => C3) (fun _ => hr) (a_cons (x_var 5) (a_two (x_ixT 0 (x_var 2) x_int rfl rfl) (x_var 8))) ⟨had, ns, moreOf ⟨ns, rs⟩ n cn, res, rfl, ok.nd, ok.few, o3, hperm, hsort, rfl⟩))))) (by rw [ec, ep]; rfl)))
      (sr_ret (x_tupleX T (ed_is (x_lc sc305 [("name", 11), ("part", 12)] (ns.zip (moreOf ⟨ns, rs⟩ n cn)) prD (fun p => decide ((0 : Int) < (p.2 : Int))) prD (it_is (i_zp (fun _ => T.zip) (a_two (x_ixT 0 (x_var 2) x_int rfl rfl) (x_var 8)) (.t _ _) (.l _)) (pay_e3 ns _)) (by rw [List.length_zip]; omega)
          (fun p _ => ⟨_, _, g_two (k1 := 11) (k2 := 12) (fun _ => sc305.nd), by simp, ts_one (t_cmp (fun _ => op_gt) (x_var 12) x_int rd_ib (nomark _)), fun _ => x_tup (a_two (x_var 11) (x_var 12))⟩)) (pay_e4 ns rs n cn))))))))
    exact all _ Hd H ex en ⟨⟨.refl ex, True.intro⟩, hi⟩ _ fun v Hd1 H1 u1 ex1 iv p1 => q v Hd1 H1 p1.1.1 p1.2 iv
end
end SP
/-! Q8 -/
namespace SP
open PySem PySem.Spec PyProof.Rows L2
theorem zeros_enc (k : Nat) : Dt.lst (List.replicate k (.int 0)) = encNats (List.replicate k 0) := by
  unfold encNats
  rw [List.map_replicate]
  rfl
theorem Stp.transNew {M N : Addr → Prop} {Hd H Hd1 H1 Hd2 H2 : Hp} (a : Stp M Hd H Hd1 H1) (b : Stp N Hd1 H1 Hd2 H2) (h : ∀ p, N p → M p ∨ H p = none) : Stp M Hd H Hd2 H2 :=
  ⟨fun x o e n => b.up x o (a.up x o e n) fun z => (h x z).elim n (fun q => by rw [q] at e; cases e), fun x e => b.al x (a.al x e), a.ud.trans b.ud, b.sub, fun x e n => b.sep x (a.al x e) (a.sep x e n), fun x ps e => a.nt x ps (b.nt x ps e)⟩
section
variable {P : Program} {w : World} {K : PySem.W.Frag} {mg : Str → Option Value} {base : Heap} {C : Addr}
def RChange : List (Str × Dt) → List Dt → Dt → List (Str × Dt) → Prop := fun fs ts r fs' => ∃ s past d res, fs = potF s past ∧ past.length ≤ 1000 ∧ ts = [encDeal d] ∧ DealOk d ∧ (keysN s.had).Nodup ∧ s.had.length ≤ 900 ∧ (addAll s.had (d.names.zip (List.replicate d.names.length 0))).Perm res ∧ SortN res ∧
  r = .non ∧ fs' = potF ⟨d, 0, s.paid, res⟩ (past ++ [s])
abbrev n306 : List Str := ["self", "deal", "paid", "had"]
theorem sc306 : FnScope n306 ["self", "deal"] (defScope (pm 6)) := ⟨rfl, rfl, rfl, by decide +kernel, rfl, by decide +kernel, by decide +kernel⟩
theorem d_change (T : TX mg) (c : PotC K C) (D : MDef K C "change" "Pot.change" (pm 6) ["self", "deal"]) (G : MCal P w K mg base C "go_on" 1 ["self", "stand"] (MutSp K C RGo)) (C1 : Callee P w K mg base "need_deal" 3 ["thing"] (spD K RNeed)) (C3 : Callee P w K mg base "joined" 1 ["had", "names", "more"] (spD K RJoin)) :
    MCal P w K mg base C "change" 4 ["self", "deal"] (MutSp K C RChange) :=
  mcal_mut D sc306 (by rintro _ _ _ _ ⟨s, past, d, res, _, _, rfl, _⟩; rfl) fun f cdv A outer sh H E hr Hd a fs vs ts r fs' Q ex hi en hR q => by
    obtain ⟨s, past, ⟨ns, rs⟩, res, rfl, hl, rfl, ok, hnd, hfew, hperm, hsort, rfl, rfl⟩ := hR
    have o3 : ns.length ≤ 6 := ok.names.most
    have all : SvI K (wSs (un (dCx P w K mg base n306 "Pot.change" (pm 6) f cdv A outer sh H E)) (defBody (pm 6))) (startD n306 [.raw (.ref a), encDeal ⟨ns, rs⟩]) (((StI (· = a) Hd H).and MP.tt).and (InsI K C a (potF s past))) [some (.raw (.ref a)), some (encDeal ⟨ns, rs⟩), some (.int (s.paid : Int)), some (encHad s.had)] (((StI (· = a) Hd H).and MP.tt).and (InsI K C a (potF ⟨⟨ns, rs⟩, 0, s.paid, res⟩ (past ++ [s])))) :=
      si_cons (svi_of (s_expr (x_call (fun _ => C1) (fun _ => hr) (a_one (x_var 1)) ⟨⟨ns, rs⟩, rfl, ok, rfl⟩)))
      (si_cons (svi_of (s_asg (ed_is (x_slT (x_st c (fun _ _ z => z.2) (x_var 0)) (o_some x_int) o_none) (congrArg (Dt.tp false) (cutD_drop [encDeal s.deal, .int (s.dealt : Int), .int (s.paid : Int), encHad s.had] 2))) (g_two (k1 := 2) (k2 := 3) (fun _ => sc306.nd))))
      (si_one (si_go c G hr (by decide) hl (x_var 0) (x_tup (a_cons (x_var 1) (a_cons x_int (a_two (x_var 2) (x_call (fun _ => C3) (fun _ => hr) (a_cons (x_var 3) (a_two (x_ixT 0 (x_var 1) x_int rfl rfl) (ed_is (x_rep (n := ns.length) (x_lst (a_one x_int)) (ed_is (x_lenT T (x_ixT 0 (x_var 1) x_int rfl rfl)) (congrArg (fun k : Nat => Dt.int (k : Int)) (List.length_map ..))) (by omega)) (zeros_enc ns.length)))) ⟨s.had, ns, List.replicate ns.length 0, res, rfl, hnd, hfew, o3, hperm, hsort, rfl⟩))))))))
    exact all _ Hd H ex en ⟨⟨.refl ex, True.intro⟩, hi⟩ _ fun σ1 Hd1 H1 u1 ex1 en1 p1 => q .non Hd1 H1 p1.1.1 p1.2 .non
def RInit : List (Str × Dt) → List Dt → Dt → List (Str × Dt) → Prop := fun fs ts r fs' => ∃ d res, fs = [] ∧ ts = [encDeal d] ∧ DealOk d ∧ (addAll [] (d.names.zip (List.replicate d.names.length 0))).Perm res ∧ SortN res ∧ r = .non ∧ fs' = potF ⟨d, 0, 0, res⟩ []
abbrev n300 : List Str := ["self", "deal"]
theorem sc300 : FnScope n300 ["self", "deal"] (defScope (pm 0)) := ⟨rfl, rfl, rfl, by decide +kernel, rfl, by decide +kernel, by decide +kernel⟩
theorem d_init (T : TX mg) (c : PotC K C) (D : MDef K C "__init__" "Pot.__init__" (pm 0) ["self", "deal"]) (C1 : Callee P w K mg base "need_deal" 3 ["thing"] (spD K RNeed)) (C3 : Callee P w K mg base "joined" 1 ["had", "names", "more"] (spD K RJoin)) :
    MCal P w K mg base C "__init__" 4 ["self", "deal"] (MutSp K C RInit) :=
  mcal_mut D sc300 (by rintro _ _ _ _ ⟨d, res, _, rfl, _⟩; rfl) fun f cdv A outer sh H E hr Hd a fs vs ts r fs' Q ex hi en hR q => by
    obtain ⟨⟨ns, rs⟩, res, rfl, rfl, ok, hperm, hsort, rfl, rfl⟩ := hR
    have o3 : ns.length ≤ 6 := ok.names.most
    have all : SvI K (wSs (un (dCx P w K mg base n300 "Pot.__init__" (pm 0) f cdv A outer sh H E)) (defBody (pm 0))) (startD n300 [.raw (.ref a), encDeal ⟨ns, rs⟩]) (((StI (· = a) Hd H).and MP.tt).and (InsI K C a [])) (startD n300 [.raw (.ref a), encDeal ⟨ns, rs⟩]) (((StI (· = a) Hd H).and MP.tt).and (InsI K C a (potF ⟨⟨ns, rs⟩, 0, 0, res⟩ []))) :=
      si_cons (svi_of (s_expr (x_call (fun _ => C1) (fun _ => hr) (a_one (x_var 1)) ⟨⟨ns, rs⟩, rfl, ok, rfl⟩)))
      (si_cons (si_fld (d := encStand ⟨⟨ns, rs⟩, 0, 0, res⟩) (.inl rfl) (fun _ _ _ _ => True.intro) (x_var 0) (x_tup (a_cons (x_var 1) (a_cons x_int (a_two x_int (x_call (fun _ => C3) (fun _ => hr) (a_cons (x_tux a_nil) (a_two (x_ixT 0 (x_var 1) x_int rfl rfl) (ed_is (x_rep (n := ns.length) (x_lst (a_one x_int)) (ed_is (x_lenT T (x_ixT 0 (x_var 1) x_int rfl rfl)) (congrArg (fun k : Nat => Dt.int (k : Int)) (List.length_map ..))) (by omega)) (zeros_enc ns.length)))) ⟨[], ns, List.replicate ns.length 0, res, rfl, List.nodup_nil, by decide, o3, hperm, hsort, rfl⟩))))) c.cls c.st)
      (si_one (si_fld (d := .tup []) (.inl rfl) (fun _ _ _ _ => True.intro) (x_var 0) (x_tup a_nil) c.cls c.pa)))
    exact all _ Hd H ex en ⟨⟨.refl ex, True.intro⟩, hi⟩ _ fun σ1 Hd1 H1 u1 ex1 en1 p1 => q .non Hd1 H1 p1.1.1 p1.2 .non
/-! ### what a pot tells -/
def RGet (k : Nat) : List (Str × Dt) → List Dt → Dt → Prop := fun fs ts r => ∃ s past, fs = potF s past ∧ ts = [] ∧ [encDeal s.deal, Dt.int (s.dealt : Int), .int (s.paid : Int), encHad s.had][k]? = some r
theorem sc301 : FnScope ["self"] ["self"] (defScope (pm 1)) := ⟨rfl, rfl, rfl, by decide +kernel, rfl, by decide +kernel, by decide +kernel⟩
theorem sc302 : FnScope ["self"] ["self"] (defScope (pm 2)) := ⟨rfl, rfl, rfl, by decide +kernel, rfl, by decide +kernel, by decide +kernel⟩
theorem sc303 : FnScope ["self"] ["self"] (defScope (pm 3)) := ⟨rfl, rfl, rfl, by decide +kernel, rfl, by decide +kernel, by decide +kernel⟩
abbrev n307 : List Str := ["self", "name", "names", "runs", "dealt", "paid", "had", "figure", "found"]
theorem sc307 : FnScope n307 ["self", "name"] (defScope (pm 7)) := ⟨rfl, rfl, rfl, by decide +kernel, rfl, by decide +kernel, by decide +kernel⟩
def owedD (s : Stand) (i : Nat) : Dt := match reachIn s.deal.runs i (countBy s.deal.runs i s.dealt + 1) with
  | none => .non
  | some p => .int ((p : Int) - (s.dealt : Int))
def ROwed : List (Str × Dt) → List Dt → Dt → Prop := fun fs ts r => ∃ s past n, fs = potF s past ∧ ts = [.str n] ∧ n ∈ s.deal.names ∧ s.deal.names.length ≤ 6 ∧ s.deal.runs.length ≤ 60 ∧ figsFit s.deal.runs ∧ r = owedD s (s.deal.names.idxOf n)
theorem d_owed (T : TX mg) (c : PotC K C) (D : MDef K C "owed" "Pot.owed" (pm 7) ["self", "name"]) (C1 : Callee P w K mg base "figure_of" 1 ["names", "name"] (spD K RFig)) (C2 : Callee P w K mg base "count_by" 2 ["runs", "figure", "coins"] (spD K RBy)) (C3 : Callee P w K mg base "reach_in" 2 ["runs", "figure", "many"] (spD K RReach)) :
    MCal P w K mg base C "owed" 3 ["self", "name"] (RdSp K C ROwed) :=
  mcal_rd D sc307 (by rintro _ _ _ ⟨s, past, n, _, rfl, _⟩; rfl) fun f cdv A outer sh H E hr a fs ts r hR => by
    obtain ⟨⟨⟨ns, rs⟩, dl, pd, had⟩, past, n, rfl, rfl, hn, h6, h60, hfit, rfl⟩ := hR
    have ec : ((countBy rs (ns.idxOf n) dl : Nat) : Int) + 1 = ((countBy rs (ns.idxOf n) dl + 1 : Nat) : Int) := by omega
    refine ⟨_, ss_cons (s_asg (x_st c (fun _ _ z => z) (x_var 0)) (g_tup (m := 4) (g_cons (g_two (k1 := 2) (k2 := 3) (fun _ => sc307.nd)) (g_cons (g_name 4 (fun _ => sc307.nd)) (g_cons (g_name 5 (fun _ => sc307.nd)) (g_cons (g_name 6 (fun _ => sc307.nd)) g_nil))))))
      (ss_cons (s_set 7 (fun _ => sc307.nd) (x_call (fun _ => C1) (fun _ => hr) (a_two (x_var 2) (x_var 1)) ⟨ns, n, rfl, hn, h6, rfl⟩))
      (ss_cons (s_set 8 (fun _ => sc307.nd) (x_call (fun _ => C3) (fun _ => hr) (a_cons (x_var 3) (a_two (x_var 7) (ed_is (x_add (x_call (fun _ => C2) (fun _ => hr) (a_cons (x_var 3) (a_two (x_var 7) (x_var 4))) ⟨rs, ns.idxOf n, dl, rfl, h60, hfit, rfl⟩) x_int) (congrArg Dt.int ec)))) ⟨rs, ns.idxOf n, countBy rs (ns.idxOf n) dl + 1, rfl, by omega, hfit, rfl⟩))
      (ss_one (s_ret ?_)))), .inl rfl⟩
    show EvD K _ _ _ (match reachIn rs (ns.idxOf n) (countBy rs (ns.idxOf n) dl + 1) with | none => Dt.non | some p => .int ((p : Int) - (dl : Int)))
    cases reachIn rs (ns.idxOf n) (countBy rs (ns.idxOf n) dl + 1) with
    | none => exact x_if (t_cmp (fun _ => op_notN) (x_var 8) x_non (rd_nisn rfl) (nomark _)) (fun h => by exact absurd (show false = true from h) (by decide)) (fun _ => x_non)
    | some p => exact x_if (t_cmp (fun _ => op_notN) (x_var 8) x_non (rd_nisn rfl) (nomark _)) (fun _ => x_sub (x_var 8) (x_var 4)) (fun h => by exact absurd (show true = false from h) (by decide))
theorem sc308 : FnScope ["self"] ["self"] (defScope (pm 8)) := ⟨rfl, rfl, rfl, by decide +kernel, rfl, by decide +kernel, by decide +kernel⟩
def RLen : List (Str × Dt) → List Dt → Dt → Prop := fun fs ts r => ∃ s past, fs = potF s past ∧ ts = [] ∧ r = .int ((past.length : Nat) : Int)
theorem d_len (T : TX mg) (c : PotC K C) (D : MDef K C "__len__" "Pot.__len__" (pm 8) ["self"]) : MCal P w K mg base C "__len__" 1 ["self"] (RdSp K C RLen) :=
  mcal_rd D sc308 (by rintro _ _ _ ⟨s, past, _, rfl, _⟩; rfl) fun f cdv A outer sh H E hr a fs ts r hR => by
    obtain ⟨s, past, rfl, rfl, rfl⟩ := hR
    exact ⟨_, ss_one (s_ret (ed_is (x_lenT T (x_pa c (fun _ _ z => z) (x_var 0))) (congrArg (fun k : Nat => Dt.int (k : Int)) (List.length_map ..)))), .inl rfl⟩
abbrev n310 : List Str := ["self", "x", "name", "coins"]
theorem sc310 : FnScope n310 ["self", "x"] (defScope (pm 10)) := ⟨rfl, rfl, rfl, by decide +kernel, rfl, by decide +kernel, by decide +kernel⟩
def inHad (h : Cnt) (n : Str) : Bool := h.any fun p => decide (p.1 = n) && decide ((0 : Int) < (p.2 : Int))
def RIn : List (Str × Dt) → List Dt → Dt → Prop := fun fs ts r => ∃ s past x T, fs = potF s past ∧ s.had.length ≤ 1000 ∧ ts = [x] ∧ x.tyOf = some T ∧ ((∃ n, x = .str n ∧ r = .bl (inHad s.had n)) ∨ (kitB T "str" = some false ∧ r = .bl false))
theorem d_in (T : TX mg) (c : PotC K C) (D : MDef K C "__contains__" "Pot.__contains__" (pm 10) ["self", "x"]) : MCal P w K mg base C "__contains__" 1 ["self", "x"] (RdSp K C RIn) :=
  mcal_rd D sc310 (by rintro _ _ _ ⟨s, past, x, T, _, _, rfl, _⟩; rfl) fun f cdv A outer sh H E hr a fs ts r hR => by
    obtain ⟨s, past, x, U, rfl, hl, rfl, hU, hx⟩ := hR
    rcases hx with ⟨n, rfl, rfl⟩ | ⟨hk, rfl⟩
    · refine ⟨_, ss_one (s_ret (x_and (x_isi T (x_var 1) rfl kb_ss boot_str T.str) fun _ => x_bo1 (x_anyM T (x_lcA sc310 [("name", 2), ("coins", 3)] s.had prD (fun p => .bl (decide (p.1 = n) && decide ((0 : Int) < (p.2 : Int)))) (i_tup (x_ixT 3 (x_st c (fun _ _ z => z) (x_var 0)) x_int rfl rfl)) (by omega)
        (fun p _ => ⟨_, _, g_two (k1 := 2) (k2 := 3) (fun _ => sc310.nd), by simp, x_and (x_cmp (fun _ => op_eq) (x_var 2) (x_var 1) rd_eqs (nomark _)) fun _ => x_bo1 (x_cmp (fun _ => op_gt) (x_var 3) x_int rd_ib (nomark _))⟩))))), .inl rfl⟩
    · exact ⟨_, ss_one (s_ret (x_and (j := false) (x_isi T (x_var 1) hU hk boot_str T.str) fun h => by exact absurd (show false = true from h) (by decide))), .inl rfl⟩
abbrev n312 : List Str := ["self", "many", "left"]
theorem sc312 : FnScope n312 ["self", "many"] (defScope (pm 12)) := ⟨rfl, rfl, rfl, by decide +kernel, rfl, by decide +kernel, by decide +kernel⟩
def RBack : List (Str × Dt) → List Dt → Dt → List (Str × Dt) → Prop := fun fs ts r fs' => ∃ s past m s', fs = potF s past ∧ past.length ≤ 1000 ∧ ts = [.int ((m : Nat) : Int)] ∧ 1 ≤ m ∧ m ≤ past.length ∧ past[past.length - m]? = some s' ∧ r = .non ∧ fs' = potF s' (past.take (past.length - m))
theorem d_back (T : TX mg) (c : PotC K C) (D : MDef K C "back" "Pot.back" (pm 12) ["self", "many"]) (C1 : Callee P w K mg base "is_whole" 1 ["thing", "least", "most"] (spD K RWhole)) : MCal P w K mg base C "back" 2 ["self", "many"] (MutSp K C RBack) :=
  mcal_mut D sc312 (by rintro _ _ _ _ ⟨s, past, m, s', _, _, rfl, _⟩; rfl) fun f cdv A outer sh H E hr Hd a fs vs ts r fs' Q ex hi en hR q => by
    obtain ⟨s, past, m, s', rfl, hl, rfl, h1, h2, hs', rfl, rfl⟩ := hR
    have el : (((past.map encStand).length : Nat) : Int) - (m : Int) = ((past.length - m : Nat) : Int) := by
      rw [List.length_map]
      omega
    have e1 : (past.map encStand)[past.length - m]? = some (encStand s') := by rw [List.getElem?_map, hs']; rfl
    have e2 : putFD fPa (.tup ((past.map encStand).take (past.length - m))) (putFD fSt (encStand s') (potF s past)) = potF s' (past.take (past.length - m)) := by
      unfold potF
      rw [← List.map_take]
      rfl
    have all : SvI K (wSs (un (dCx P w K mg base n312 "Pot.back" (pm 12) f cdv A outer sh H E)) (defBody (pm 12))) (startD n312 [.raw (.ref a), .int (m : Int)]) (((StI (· = a) Hd H).and MP.tt).and (InsI K C a (potF s past))) [some (.raw (.ref a)), some (.int (m : Int)), some (.int ((past.length - m : Nat) : Int))] (((StI (· = a) Hd H).and MP.tt).and (InsI K C a (potF s' (past.take (past.length - m))))) :=
      si_cons (svi_of (s_ifN (et_is (t_not (t_val (x_call (fun _ => C1) (fun _ => hr) (a_cons (x_var 1) (a_two x_int (x_op (fun _ => op_pow) x_int x_int (rd_iic ⟨by decide, by decide, by decide⟩)))) ⟨m, 1, 10 ^ 40, rfl, rfl⟩))) (by
        rw [decide_eq_true (show (1 : Int) ≤ (m : Int) by omega), decide_eq_true (show (m : Int) ≤ 10 ^ 40 by omega)]
        rfl))))
      (si_cons (svi_of (s_ifN (et_is (t_cmp (fun _ => op_gt) (x_var 1) (x_lenT T (x_pa c (fun _ _ z => z.2) (x_var 0))) rd_ib (nomark _)) (by
        rw [List.length_map]
        exact decide_eq_false (by omega)))))
      (si_cons (svi_of (s_set 2 (fun _ => sc312.nd) (ed_is (x_sub (x_lenT T (x_pa c (fun _ _ z => z.2) (x_var 0))) (x_var 1)) (congrArg Dt.int el))))
      (si_cons (si_fld (.inl rfl) (fun _ _ _ _ => True.intro) (x_var 0) (x_ixT (past.length - m) (x_pa c (fun _ _ z => z.2) (x_var 0)) (x_var 2) rfl e1) c.cls c.st)
      (si_one (svi_to (si_fld (.inl rfl) (fun _ _ _ _ => True.intro) (x_var 0) (ed_is (x_slT (x_fld (fun _ _ z => z.2) (x_var 0) rfl c.cls c.pa) o_none (o_some (x_var 2))) (congrArg (Dt.tp false) (cutD_take (past.map encStand) (past.length - m)))) c.cls c.pa) rfl (by rw [e2]))))))
    exact all _ Hd H ex en ⟨⟨.refl ex, True.intro⟩, hi⟩ _ fun σ1 Hd1 H1 u1 ex1 en1 p1 => q .non Hd1 H1 p1.1.1 p1.2 .non
end
end SP
/-! Q9 -/
namespace SP
open PySem PySem.Spec PyProof.Rows L2
/-! ### properties -/
structure GDef (K : PySem.W.Frag) (C : Addr) (n qual : Str) (st : Stmt) : Prop where
  ex : ∃ p g fd, PropOf K C n p g ∧ Fun K n qual st g fd ∧ Binds K fd ["self"] []
structure PCal (P : Program) (w : World) (K : PySem.W.Frag) (mg : Str → Option Value) (base : Heap) (C : Addr) (n : Str) (k : Nat) (sp : Sp) : Prop where
  ex : ∃ p g fd, PropOf K C n p g ∧ Binds K fd ["self"] [] ∧ FnOk P w K mg base CX0 k g fd ["self"] sp
section
variable {P : Program} {w : World} {K : PySem.W.Frag} {mg : Str → Option Value} {base : Heap} {C : Addr}
theorem pcal_get {n qual : Str} {st : Stmt} {k : Nat} (D : GDef K C n qual st) (S : FnScope ["self"] ["self"] (defScope st))
    (hbody : ∀ (f : Addr) (cdv : Value) (A : Around) (outer : List Env) (s : Shared) (H : Hp) (E : XK), ∀ a s1 past r, [encDeal s1.deal, Dt.int (s1.dealt : Int), .int (s1.paid : Int), encHad s1.had][k]? = some r →
      ∃ o, SvD K (InsI K C a (potF s1 past)) (wSs (un (dCx P w K mg base ["self"] qual st f cdv A outer s H E)) (defBody st)) (startD ["self"] [.raw (.ref a)]) o ∧ Gives o r) : PCal P w K mg base C n 1 (RdSp K C (RGet k)) := by
  obtain ⟨p, g, fd, h1, h2, h3⟩ := D.ex
  refine ⟨p, g, fd, h1, h3, h2.ok (k := 0) S (fun vs H Q E h => ?_) fun cdv A outer s H vs Q E hr h => ?_⟩
  · obtain ⟨Hd, a, fs, us, ts, r, rfl, _, _, ia, ⟨s, past, _, rfl, _⟩, _⟩ := h
    rw [ia.nil_inv]
    rfl
  · obtain ⟨Hd, a, fs, us, ts, r, rfl, ex, hi, ia, ⟨s1, past, rfl, rfl, hr'⟩, q⟩ := h
    rw [ia.nil_inv]
    obtain ⟨o, ho, hg⟩ := hbody g cdv A outer s H E a s1 past r hr'
    refine ⟨_, wSs_ok (F := un (dCx P w K mg base ["self"] qual st g cdv A outer s H E)) (), ho _ Hd H ex (env_start ["self"] (ts := [.raw (.ref a)]) (.cons (.raw _) .nil)) hi _ ?_⟩
    rcases hg with rfl | ⟨⟨ρ, rfl⟩, rfl⟩
    · exact fun v Hd' H' s' i' => q v Hd' H' s' i'
    · exact fun σ' Hd' H' s' _ => q .non Hd' H' s' .non
theorem d_deal (c : PotC K C) (D : GDef K C "deal" "Pot.deal" (pm 1)) : PCal P w K mg base C "deal" 1 (RdSp K C (RGet 0)) :=
  pcal_get D sc301 fun f cdv A outer s H E a s1 past r h => ⟨_, ss_one (s_ret (x_ixT 0 (x_st c (fun _ _ z => z) (x_var 0)) x_int rfl h)), .inl rfl⟩
theorem d_paid (c : PotC K C) (D : GDef K C "paid" "Pot.paid" (pm 2)) : PCal P w K mg base C "paid" 1 (RdSp K C (RGet 2)) :=
  pcal_get D sc302 fun f cdv A outer s H E a s1 past r h => ⟨_, ss_one (s_ret (x_ixT 2 (x_st c (fun _ _ z => z) (x_var 0)) x_int rfl h)), .inl rfl⟩
theorem d_has (c : PotC K C) (D : GDef K C "has" "Pot.has" (pm 3)) : PCal P w K mg base C "has" 1 (RdSp K C (RGet 3)) :=
  pcal_get D sc303 fun f cdv A outer s H E a s1 past r h => ⟨_, ss_one (s_ret (x_ixT 3 (x_st c (fun _ _ z => z) (x_var 0)) x_int rfl h)), .inl rfl⟩
end
/-! ### a pot read, from outside -/
section
variable {K : PySem.W.Frag} {Φ : MP} {ρ : Rho} {X : Cx} {C : Addr} {o e : Expr} {es : List Expr} {a : Addr} {fs : List (Str × Dt)} {r : Dt} {ts : List Dt} {pos apos : Pos} {n : Str} {R : List (Str × Dt) → List Dt → Dt → Prop} {k j : Nat} {ps : List Str}
theorem x_rdC (m : MCal X.prog X.w X.K X.mg X.base C n k ps (RdSp K C R)) (hr : Room j X.A) (hkj : k ≤ j) (hK : X.K = K) (c : Cls K C) (hΦ : ∀ Hd H, Φ.p Hd H → (InsI K C a fs).p Hd H) (hf : fs.lookup n = none) (ho : EvD K Φ (wE (un X) o) ρ (.raw (.ref a))) (ha : EvA K Φ (wA (un X) (e :: es)) ρ ts) (hR : R fs ts r)
    (hst : starEach (e :: es) X.env = (false, eval e X.env) :: starEach es X.env := by rfl) (hpl : (backTo pos (starEach es X.env)).any (·.1) = false := by rfl)
    (ht : ∃ pl : Sem Bool, eval (.Call (.Attribute o n apos) (e :: es) [] pos) X.env = (do
      let ov ← eval o X.env
      standAt apos.atName
      let (f, first) ← holding [ov] (getMethod ov n pl)
      callWith pos f first (backTo pos (starEach (e :: es) X.env)) (backToKw pos (keywordEach [] X.env))) := by exact ⟨_, rfl⟩) : EvD K Φ (wE (un X) (.Call (.Attribute o n apos) (e :: es) [] pos)) ρ r := by
  subst hK
  obtain ⟨pl, ht⟩ := ht
  refine lE (fun _ => pe_mcal m c hr hkj (wE_ok (F := un X) (e := o) ()) (wA_ok (F := un X) (e := e :: es) ()) hst hpl ht) fun σ Hd H ex en pp Q q => ?_
  refine ho σ Hd H ex en pp _ fun v Hd1 H1 s1 i1 => ?_
  rw [i1.raw_inv]
  have p1 := Φ.mono s1 pp
  obtain ⟨_, dx, fl, e1, e2⟩ := hΦ _ _ p1
  refine ⟨a, dx, fl, rfl, e1, e2.none hf, ha σ Hd1 H1 s1.sub (en.mono s1.ud) p1 _ fun us Hd2 H2 s2 i2 => ?_⟩
  rw [List.append_nil]
  exact ⟨Hd2, a, fs, us, ts, r, rfl, s2.sub, hΦ _ _ (Φ.mono s2 p1), i2, hR, fun w Hd3 H3 s3 i3 => q w Hd3 H3 (s1.trans (s2.trans s3)) i3⟩
theorem x_prop (m : PCal X.prog X.w X.K X.mg X.base C n k (RdSp K C R)) (hr : Room (j + 1) X.A) (hkj : k ≤ j) (hK : X.K = K) (c : Cls K C) (hΦ : ∀ Hd H, Φ.p Hd H → (InsI K C a fs).p Hd H) (ho : EvD K Φ (wE (un X) o) ρ (.raw (.ref a))) (hR : R fs [] r) (hab : attributeBase o n X.env (eval o X.env) = eval o X.env := by rfl) : EvD K Φ (wE (un X) (.Attribute o n pos)) ρ r := by
  subst hK
  obtain ⟨p, g, fd, h1, h2, h3⟩ := m.ex
  refine lE (fun _ => pe_prop (wE_ok (F := un X) (e := o) ()) c h1 h3 (hr.mono (by omega)) h2 .nil pass0 hab) fun σ Hd H ex en pp Q q => ?_
  refine ho σ Hd H ex en pp _ fun v Hd1 H1 s1 i1 => ?_
  rw [i1.raw_inv]
  have p1 := hΦ _ _ (Φ.mono s1 pp)
  obtain ⟨_, dx, fl, e1, e2⟩ := id p1
  exact ⟨a, dx, fl, rfl, e1, Hd1, a, fs, [], [], r, rfl, s1.sub, p1, .nil, hR, fun w Hd3 H3 s3 i3 => q w Hd3 H3 (s1.trans s3) i3⟩
end
/-- a special method: where the class has it, and its promise -/
structure SCal (P : Program) (w : World) (K : PySem.W.Frag) (mg : Str → Option Value) (base : Heap) (C : Addr) (n : Str) (k : Nat) (sp : Sp) : Prop where
  ex : ∃ f, PySem.W.findIn K (.ref C) n = some (some (.ref f)) ∧ PySem.W.isFn K (.ref f) = true ∧ FnR P w K mg base CX0 k f sp
theorem MCal.sp {P : Program} {w : World} {K : PySem.W.Frag} {mg : Str → Option Value} {base : Heap} {C : Addr} {n : Str} {k : Nat} {ps : List Str} {sp : Sp} (m : MCal P w K mg base C n k ps sp) : SCal P w K mg base C n k sp := by
  obtain ⟨f, fd, h1, h2, h3⟩ := m.ex
  refine ⟨f, h1.at_, h1.fn, ?_⟩
  have := h3.raw h2 .nil
  simpa using this
section
variable {K : PySem.W.Frag} {Φ : MP} {ρ : Rho} {X : Cx} {C : Addr} {o e : Expr} {a : Addr} {s : Stand} {past : List Stand} {pos p : Pos} {k j : Nat} {mg : Str → Option Value}
theorem x_lenO (T : TX mg) (m : SCal X.prog X.w X.K X.mg X.base C "__len__" k (RdSp K C RLen)) (hr : Room (j + 1) X.A) (hkj : k ≤ j) (hΦ : ∀ Hd H, Φ.p Hd H → (InsI K C a (potF s past)).p Hd H) (hl : past.length ≤ 1000) (ho : EvD K Φ (wE (un X) o) ρ (.raw (.ref a))) (hmg : X.mg = mg := by rfl) (hg : Gl X "len" := by rfl)
    (he : starEach [o] X.env = (false, eval o X.env) :: starEach [] X.env := by rfl) (hpl : (backTo pos (starEach [] X.env)).any (·.1) = false := by rfl) : EvD K Φ (wE (un X) (.Call (.Name "len" p) [o] [] pos)) ρ (.int ((past.length : Nat) : Int)) := by
  obtain ⟨f, h1, h2, h3⟩ := m.ex
  refine lE (fun _ => pe_callB (call_lenO h3 (hr.mono (by omega)) h1 h2) hg (by rw [hmg]; exact T.len) PySem.boot_len (pa_cons (wE_ok (F := un X) (e := o) ()) pa_nil he) (by decide) (by decide) he hpl) fun σ Hd H ex en pp Q q => ?_
  refine ho σ Hd H ex en pp _ fun v Hd1 H1 s1 i1 => ?_
  rw [i1.raw_inv]
  have p1 := hΦ _ _ (Φ.mono s1 pp)
  obtain ⟨_, dx, fl, e1, e2⟩ := id p1
  exact ⟨a, dx, fl, rfl, e1, Hd1, a, _, [], [], _, rfl, s1.sub, p1, .nil, ⟨s, past, rfl, rfl, rfl⟩, fun w Hd3 H3 s3 i3 => ⟨(past.length : Nat), i3.int_inv, by omega, by omega, q _ Hd3 H3 (s1.trans s3) (.int _)⟩⟩
theorem x_inO {x r : Dt} {b : Bool} (hb : r = .bl b) (m : SCal X.prog X.w X.K X.mg X.base C "__contains__" k (RdSp K C RIn)) (hr : Room j X.A) (hkj : k ≤ j) (hΦ : ∀ Hd H, Φ.p Hd H → (InsI K C a (potF s past)).p Hd H) (he : EvD K Φ (wE (un X) e) ρ x) (ho : EvD K Φ (wE (un X) o) ρ (.raw (.ref a))) (hR : RIn (potF s past) [x] r) (hm : behindInMarks .In o = false := by with_unfolding_all rfl) :
    EvD K Φ (wE (un X) (.Compare e [.In] [o] pos)) ρ r := by
  obtain ⟨f, h1, h2, h3⟩ := m.ex
  refine lE (fun _ => pe_cmpR (op_inO h3 (hr.mono hkj) h1 h2) (wE_ok (F := un X) (e := e) ()) (wE_ok (F := un X) (e := o) ()) hm) fun σ Hd H ex en pp Q q => ?_
  refine he σ Hd H ex en pp _ fun v Hd1 H1 s1 i1 => ho σ Hd1 H1 s1.sub (en.mono s1.ud) (Φ.mono s1 pp) _ fun u Hd2 H2 s2 i2 => ?_
  rw [i2.raw_inv]
  have p2 := hΦ _ _ (Φ.mono s2 (Φ.mono s1 pp))
  obtain ⟨_, dx, fl, e1, e2⟩ := id p2
  subst hb
  exact ⟨a, dx, fl, rfl, e1, Hd2, a, _, [v], [x], _, rfl, s2.sub, p2, .cons (i1.mono s2.ud) .nil, hR, fun w Hd3 H3 s3 i3 => ⟨b, i3.bl_inv, q _ Hd3 H3 (s1.trans (s2.trans s3)) (.bl _)⟩⟩
end
end SP
/-! Q10 -/
namespace SP
open PySem PySem.Spec PyProof.Rows L2
/-! ### == of pots -/
/-- what isinstance(o, Pot) wants to know -/
structure PotI (K : PySem.W.Frag) (C : Addr) : Prop where
  cl : PySem.W.findIn K (.ref C) "__class__" = some (some (.builtin "object.__class__"))
  get : PySem.W.specialIn K (.builtin "object.__class__") "__get__" = some (some (.builtin "getset_descriptor.__get__"))
  tk : PySem.W.takesIn K (.builtin "object.__class__") = some true
  obj : PySem.W.mroIn K C (.type "object") = some true
  noInt : PySem.W.kitOne K (.type "int") (.ref C) = some false
  notFirst : PySem.W.notFirst K C (.type "int") = true
  ne : PySem.W.findIn K (.ref C) "__ne__" = some (some (.builtin "object.__ne__"))
  sub : PySem.W.subIn K (.ref C) (.type "object") = some true
/-- the three data that == compares are of a size -/
structure EqOk (s : Stand) : Prop where
  d : SeqAt.shaped (Dt.tup [encDeal s.deal, .int (s.dealt : Int)]).py = true
  h : SeqAt.shaped (encHad s.had).py = true
def eqStand (s t : Stand) : Bool := PyData.eqv (Dt.tup [encDeal s.deal, .int (s.dealt : Int)]).py (Dt.tup [encDeal t.deal, .int (t.dealt : Int)]).py && PyData.eqv (encHad s.had).py (encHad t.had).py
theorem pure_map {α : Type} (f : α → Dt) (h : ∀ a, (f a).pure = true) : ∀ l : List α, Dt.pureA (l.map f) = true
  | [] => by simp [Dt.pureA]
  | a :: r => by rw [List.map_cons, Dt.pureA, h, pure_map f h r]; rfl
theorem pure_deal (d : Deal) : (encDeal d).pure = true := by
  unfold encDeal encN encRuns
  have h1 := pure_map Dt.str (fun _ => by simp [Dt.pure]) d.names
  have h2 := pure_map encRun (fun r => by
    obtain ⟨s, f⟩ := r
    cases s <;> simp [encRun, encO, Dt.pure, Dt.pureA]) d.runs
  simp [Dt.pure, Dt.pureA, h1, h2]
theorem pure_had (h : Cnt) : (encHad h).pure = true := by
  unfold encHad
  have h1 := pure_map prD (fun _ => by simp [prD, Dt.pure, Dt.pureA]) h
  simp [Dt.pure, h1]
section
variable {P : Program} {w : World} {K : PySem.W.Frag} {mg : Str → Option Value} {base : Heap} {C : Addr}
/-- == of two pots, or of a pot and an int -/
def EqSp (K : PySem.W.Frag) (C : Addr) : Sp := fun vs H Q _ => ∃ (Hd : Hp) (a : Addr) (s : Stand) (past : List Stand) (v : V), vs = [.ref a, v] ∧ Ex Hd H ∧ (InsI K C a (potF s past)).p Hd H ∧ EqOk s ∧
  ((∃ b t pt, v = .ref b ∧ (InsI K C b (potF t pt)).p Hd H ∧ EqOk t ∧ ∀ Hd' H', Stp NoM Hd H Hd' H' → Q (.bl (eqStand s t)) H') ∨ ((∃ n, v = .int n) ∧ ∀ Hd' H', Stp NoM Hd H Hd' H' → Q (.bl false) H'))
theorem rc_isiO {Φ : MP} {b : Addr} {fs : List (Str × Dt)} (pc : PotC K C) (pi : PotI K C) (hΦ : ∀ Hd H, Φ.p Hd H → (InsI K C b fs).p Hd H) : RDC K Φ (rIsi K) [.raw (.ref b), .raw (.ref C)] (.bl true) := fun Hd H vs e i1 pp Q q => by
  obtain ⟨v, us, rfl, iv, it⟩ := i1.cons_inv
  obtain ⟨v2, us2, rfl, iv2, it2⟩ := it.cons_inv
  rw [it2.nil_inv, iv2.raw_inv, iv.raw_inv]
  obtain ⟨_, dx, fl, e1, _⟩ := hΦ _ _ pp
  refine ⟨.ref b, .ref C, .ref C, .ref C, true, rfl, .own C, .base (.ins e1 pc.cls pi.cl pi.get pi.tk pi.obj), ?_, q _ Hd H (.refl e) (.bl _)⟩
  unfold PySem.W.kitOne
  rw [if_pos (by simp)]
theorem rc_isiN {Φ : MP} {n : Int} (pi : PotI K C) : RDC K Φ (rIsi K) [.int n, .raw (.ref C)] (.bl false) := fun Hd H vs e i1 pp Q q => by
  obtain ⟨v, us, rfl, iv, it⟩ := i1.cons_inv
  obtain ⟨v2, us2, rfl, iv2, it2⟩ := it.cons_inv
  rw [it2.nil_inv, iv2.raw_inv, iv.int_inv]
  exact ⟨.int n, .ref C, .type "int", .ref C, false, rfl, .own C, .base (.int n), pi.noInt, q _ Hd H (.refl e) (.bl _)⟩
abbrev n311 : List Str := ["self", "other"]
theorem sc311 : FnScope n311 ["self", "other"] (defScope (pm 11)) := ⟨rfl, rfl, rfl, by decide +kernel, rfl, by decide +kernel, by decide +kernel⟩
theorem d_eq (T : TX mg) (hP : mg "Pot" = some (.ref C)) (c : PotC K C) (pi : PotI K C) (D : MDef K C "__eq__" "Pot.__eq__" (pm 11) ["self", "other"]) : MCal P w K mg base C "__eq__" 1 ["self", "other"] (EqSp K C) :=
  mcal_any D sc311 (fun vs H Q E h => by
    obtain ⟨Hd, a, s, past, v, rfl, _⟩ := h
    rfl) fun f cdv A outer sh H E hr vs Q h => by
    obtain ⟨Hd, a, s, past, v, rfl, ex, hi, ok, hq⟩ := h
    rcases hq with ⟨b, t, pt, rfl, hb, okt, q⟩ | ⟨⟨n, rfl⟩, q⟩
    · have all : SvD K ((InsI K C a (potF s past)).and (InsI K C b (potF t pt))) (wSs (un (dCx P w K mg base n311 "Pot.__eq__" (pm 11) f cdv A outer sh H E)) (defBody (pm 11))) (startD n311 [.raw (.ref a), .raw (.ref b)]) (.rt (.bl (eqStand s t))) :=
        ss_cons (s_ifN (et_is (t_not (t_val (x_cb (F := un (dCx P w K mg base n311 "Pot.__eq__" (pm 11) f cdv A outer sh H E)) (fun _ => call_isi) boot_isinstance (fun _ => T.isinstance) (a_two (x_var 1) (lE (fun _ => pe_glob (v := .ref C) rfl hP rfl (by decide)) ed_raw)) (rc_isiO c pi fun _ _ z => z.2)))) rfl))
        (ss_one (s_ret (x_and (x_cmp (fun _ => op_eqD hr.units) (ed_is (x_slT (x_st c (fun _ _ z => z.1) (x_var 0)) o_none (o_some x_int)) (congrArg (Dt.tp false) (cutD_take [encDeal s.deal, .int (s.dealt : Int), .int (s.paid : Int), encHad s.had] 2))) (ed_is (x_slT (x_st c (fun _ _ z => z.2) (x_var 1)) o_none (o_some x_int)) (congrArg (Dt.tp false) (cutD_take [encDeal t.deal, .int (t.dealt : Int), .int (t.paid : Int), encHad t.had] 2)))
          (rd_eqD (by simp [Dt.pure, Dt.pureA, pure_deal]) (by simp [Dt.pure, Dt.pureA, pure_deal]) ok.d okt.d) (nomark _)) fun _ => x_bo1 (x_cmp (fun _ => op_eqD hr.units) (x_ixT 3 (x_st c (fun _ _ z => z.1) (x_var 0)) x_int rfl rfl) (x_ixT 3 (x_st c (fun _ _ z => z.2) (x_var 1)) x_int rfl rfl) (rd_eqD (pure_had _) (pure_had _) ok.h okt.h) (nomark _)))))
      exact all _ Hd H ex (env_start n311 (.cons (.raw _) (.cons (.raw _) .nil))) ⟨hi, hb⟩ _ fun v Hd' H' s' iv => by
        rw [iv.bl_inv]
        exact q Hd' H' s'
    · have all : SvD K (InsI K C a (potF s past)) (wSs (un (dCx P w K mg base n311 "Pot.__eq__" (pm 11) f cdv A outer sh H E)) (defBody (pm 11))) (startD n311 [.raw (.ref a), .int n]) (.rt (.bl false)) :=
        ss_ret (s_ifT (et_is (t_not (t_val (x_cb (F := un (dCx P w K mg base n311 "Pot.__eq__" (pm 11) f cdv A outer sh H E)) (fun _ => call_isi) boot_isinstance (fun _ => T.isinstance) (a_two (x_var 1) (lE (fun _ => pe_glob (v := .ref C) rfl hP rfl (by decide)) ed_raw)) (rc_isiN pi)))) rfl) (ss_one (s_ret x_bl)))
      exact all _ Hd H ex (env_start n311 (.cons (.raw _) (.cons (.int n) .nil))) hi _ fun v Hd' H' s' iv => by
        rw [iv.bl_inv]
        exact q Hd' H' s'
end
end SP
/-! Q11 -/
namespace SP
open PySem PySem.Spec PyProof.Rows L2
/-! ### names in order -/
theorem inc_pair : ∀ {ns : List Str}, Inc ns → ns.Pairwise fun a b => a.cps.toList < b.cps.toList
  | [], _ => .nil
  | [a], _ => by simp
  | a :: b :: r, ⟨h, t⟩ => by
    have ih := inc_pair t
    refine List.pairwise_cons.mpr ⟨fun x hx => ?_, ih⟩
    rcases List.mem_cons.mp hx with e | hx
    · rw [e]; exact h
    · exact List.lt_trans h ((List.pairwise_cons.mp ih).1 x hx)
def zeroHad (ns : List Str) : Cnt := ns.map fun n => (n, 0)
theorem zero_sort {ns : List Str} (h : Inc ns) : SortN (zeroHad ns) := by
  unfold SortN zeroHad
  rw [List.pairwise_map]
  exact inc_pair h
theorem addAll_new : ∀ (ps : List (Str × Nat)) (l : Cnt), (keysN l ++ keysN ps).Nodup → addAll l ps = l ++ ps
  | [], l, _ => by simp [addAll]
  | (n, k) :: r, l, h => by
    have hn : n ∉ keysN l := by
      rw [List.nodup_append] at h
      intro z
      exact (h.2.2 n z n (by simp [keysN])) rfl
    have e : addN l n k = l ++ [(n, k)] := by
      unfold addN putN
      rw [getN_none.mpr hn]
      simp
    show addAll (addN l n k) r = _
    rw [e, addAll_new r (l ++ [(n, k)]) (by simpa [keysN] using h)]
    simp
theorem zip_zero (ns : List Str) : ns.zip (List.replicate ns.length 0) = zeroHad ns := by
  unfold zeroHad
  induction ns with
  | nil => rfl
  | cons a r ih =>
    rw [List.length_cons, List.replicate_succ, List.zip_cons_cons, List.map_cons]
    exact congrArg _ ih
theorem zero_join {ns : List Str} (h : Inc ns) : (addAll [] (ns.zip (List.replicate ns.length 0))).Perm (zeroHad ns) := by
  rw [zip_zero, addAll_new _ _ (by simpa [keysN] using sortN_nodup (zero_sort h))]
  simp
section
variable {P : Program} {w : World} {K : PySem.W.Frag} {mg : Str → Option Value} {base : Heap} {C CT : Addr}
/-- what a class must have to be made -/
structure MkC (K : PySem.W.Frag) (C : Addr) : Prop where
  makes : PySem.W.makesIn K C = true
  kp : PySem.W.keepIn K (.ref C) = true
theorem c_new {X : Cx} {Φ : MP} {ρ : Rho} {σ : L2.St} {Hd H : Hp} {Q : VK} {n : Str} {e : Expr} {es : List Expr} {p pos : Pos} {k j : Nat} {ps : List Str} {R : List (Str × Dt) → List Dt → Dt → List (Str × Dt) → Prop} {ts : List Dt} {fs' : List (Str × Dt)} (m : MCal X.prog X.w X.K X.mg X.base C "__init__" k ps (MutSp X.K C R)) (mk : MkC X.K C) (hr : Room (j + 1) X.A) (hkj : k ≤ j) (hm : X.mg n = some (.ref C))
    (en : EnvD X.K Hd σ ρ) (ex : Ex Hd H) (pp : Φ.p Hd H) (ha : EvA X.K Φ (wA (un X) (e :: es)) ρ ts) (hR : R [] ts .non fs') (q : ∀ x Hd' H', Stp NoM Hd H Hd' H' → H x = none → (InsI X.K C x fs').p Hd' H' → Q (.ref x) H')
    (hg : Gl X n := by rfl) (hdb : (n == ("__debug__" : Str)) = false := by decide) (he : starEach (e :: es) X.env = (false, eval e X.env) :: starEach es X.env := by rfl) (hpl : (backTo pos (starEach es X.env)).any (·.1) = false := by rfl) : wE (un X) (.Call (.Name n p) (e :: es) [] pos) σ H Q := by
  obtain ⟨f, fd, h1, h2, h3⟩ := m.ex
  refine ⟨_, fun _ => pe_make (p := p) (pos := pos) ⟨mk.makes, h1.at_, h1.fn, mk.kp⟩ h3 (hr.mono (by omega)) hg hm h2 .nil pass0 (wA_ok (F := un X) (e := e :: es) ()) hdb he hpl, ?_⟩
  refine ha σ Hd H ex en pp _ fun vs Hd1 H1 s1 i1 x dx nx ndx ne => ?_
  rw [List.append_nil]
  have n1 : H x = none := by
    cases z : H x with
    | none => rfl
    | some u => exact absurd nx (s1.al x (by rw [z]; intro q; cases q))
  have s2 : Stp NoM Hd1 H1 Hd1 (upd H1 dx (.own x)) := Stp.newM s1.sub ndx
  have nx' : upd H1 dx (.own x) x = none := by rw [upd_ne (Ne.symm ne)]; exact nx
  have s3 : Stp NoM Hd1 (upd H1 dx (.own x)) Hd1 (upd (upd H1 dx (.own x)) x (.ins C dx [])) := Stp.newM s2.sub nx'
  have s13 := s1.trans (s2.trans s3)
  refine ⟨Hd1, x, [], vs, ts, .non, fs', rfl, s13.sub, ⟨sub_none s1.sub nx, dx, [], upd_same, .nil⟩, i1, hR, fun v Hd' H' s4 p4 iv => ⟨iv.non_inv, q x Hd' H' (s13.transNew s4 fun a ha => ?_) n1 p4⟩⟩
  rw [ha]
  exact .inr n1
def CopySp (K : PySem.W.Frag) (C : Addr) : Sp := fun vs H Q _ => ∃ (Hd : Hp) (a : Addr) (s : Stand) (past : List Stand), vs = [.ref a] ∧ Ex Hd H ∧ (InsI K C a (potF s past)).p Hd H ∧ DealOk s.deal ∧
  ∀ x Hd' H', Stp NoM Hd H Hd' H' → H x = none → (InsI K C x (potF s past)).p Hd' H' → Q (.ref x) H'
abbrev n313 : List Str := ["self", "found"]
theorem sc313 : FnScope n313 ["self"] (defScope (pm 13)) := ⟨rfl, rfl, rfl, by decide +kernel, rfl, by decide +kernel, by decide +kernel⟩
theorem ins_off {a x : Addr} {fs : List (Str × Dt)} (h : a ≠ x) : ∀ Hd H o, (InsI K C a fs).p Hd H → (InsI K C a fs).p Hd (upd H x o) := fun Hd H o ⟨h1, dx, fl, e1, e2⟩ => ⟨h1, dx, fl, by rw [upd_ne h]; exact e1, e2⟩
theorem d_copy (T : TX mg) (hP : mg "Pot" = some (.ref C)) (c : PotC K C) (mk : MkC K C) (D : MDef K C "copy" "Pot.copy" (pm 13) ["self"]) (M1 : MCal P w K mg base C "__init__" 4 ["self", "deal"] (MutSp K C RInit)) : MCal P w K mg base C "copy" 6 ["self"] (CopySp K C) :=
  mcal_any D sc313 (fun vs H Q E h => by
    obtain ⟨Hd, a, s, past, rfl, _⟩ := h
    rfl) fun f cdv A outer sh H E hr vs Q h => by
    obtain ⟨Hd, a, s, past, rfl, ex, hi, ok, q⟩ := h
    have en := env_start (K := K) (Hd := Hd) n313 (ts := [.raw (.ref a)]) (.cons (.raw (.ref a)) .nil)
    refine c_cons (c_set 1 (fun _ => sc313.nd) (c_new (Φ := InsI K C a (potF s past)) M1 mk hr (by decide) hP en ex hi (a_one (x_ixT 0 (x_st c (fun _ _ z => z) (x_var 0)) x_int rfl rfl)) ⟨s.deal, zeroHad s.deal.names, rfl, rfl, ok, zero_join ok.names.inc, zero_sort ok.names.inc, rfl, rfl⟩ fun x Hd1 H1 s1 nx p1 => ?_))
    have hax : a ≠ x := by
      obtain ⟨_, dx, fl, e1, _⟩ := hi
      exact fun z => by rw [z, nx] at e1; cases e1
    have all : SvR K (wSs (un (dCx P w K mg base n313 "Pot.copy" (pm 13) f cdv A outer sh H E)) ((defBody (pm 13)).drop 1)) [some (.raw (.ref a)), some (.raw (.ref x))] (((StI NoM Hd H).and (InsI K C a (potF s past))).and (InsI K C x (potF ⟨s.deal, 0, 0, zeroHad s.deal.names⟩ []))) (.raw (.ref x)) (((StI NoM Hd H).and (InsI K C a (potF s past))).and (InsI K C x (potF s past))) :=
      sr_cons (si_fld (.inr nx) (ins_off hax) (x_var 1) (x_st c (fun _ _ z => z.1.2) (x_var 0)) c.cls c.st)
      (sr_cons (si_fld (.inr nx) (ins_off hax) (x_var 1) (x_pa c (fun _ _ z => z.1.2) (x_var 0)) c.cls c.pa)
      (sr_ret (x_var 1)))
    exact all _ Hd1 H1 s1.sub ((en.mono s1.ud).set (i := 1) (.raw (.ref x))) ⟨⟨s1, (InsI K C a (potF s past)).mono s1 hi⟩, p1⟩ _ fun v Hd2 H2 u2 ex2 iv p2 => by
      rw [iv.raw_inv]
      exact q x Hd2 H2 p2.1.1 nx p2.2
/-! ### trials -/
abbrev fHe : Str := "held_pot"
abbrev fKs : Str := "kept_stand"
abbrev fKp : Str := "kept_past"
structure TriC (K : PySem.W.Frag) (CT : Addr) : Prop where
  cls : Cls K CT
  he : NoAttr K CT fHe
  ks : NoAttr K CT fKs
  kp : NoAttr K CT fKp
def triF (a : Addr) (x y : Dt) : List (Str × Dt) := [(fHe, .raw (.ref a)), (fKs, x), (fKp, y)]
abbrev tm (j : Nat) : Stmt := inClass (top 29) j
abbrev n290 : List Str := ["self", "held_pot"]
theorem sc290 : FnScope n290 ["self", "held_pot"] (defScope (tm 0)) := ⟨rfl, rfl, rfl, by decide +kernel, rfl, by decide +kernel, by decide +kernel⟩
def RTri : List (Str × Dt) → List Dt → Dt → List (Str × Dt) → Prop := fun fs ts r fs' => ∃ a, fs = [] ∧ ts = [.raw (.ref a)] ∧ r = .non ∧ fs' = triF a (.tup []) (.tup [])
theorem d_tinit (c : TriC K CT) (D : MDef K CT "__init__" "Trial.__init__" (tm 0) ["self", "held_pot"]) : MCal P w K mg base CT "__init__" 1 ["self", "held_pot"] (MutSp K CT RTri) :=
  mcal_mut D sc290 (by rintro _ _ _ _ ⟨a, _, rfl, _⟩; rfl) fun f cdv A outer sh H E hr Hd t fs vs ts r fs' Q ex hi en hR q => by
    obtain ⟨a, rfl, rfl, rfl, rfl⟩ := hR
    have all : SvI K (wSs (un (dCx P w K mg base n290 "Trial.__init__" (tm 0) f cdv A outer sh H E)) (defBody (tm 0))) (startD n290 [.raw (.ref t), .raw (.ref a)]) (((StI (· = t) Hd H).and MP.tt).and (InsI K CT t [])) (startD n290 [.raw (.ref t), .raw (.ref a)]) (((StI (· = t) Hd H).and MP.tt).and (InsI K CT t (triF a (.tup []) (.tup [])))) :=
      si_cons (si_fld (d := .raw (.ref a)) (.inl rfl) (fun _ _ _ _ => True.intro) (x_var 0) (x_var 1) c.cls c.he)
      (si_cons (si_fld (d := .tup []) (.inl rfl) (fun _ _ _ _ => True.intro) (x_var 0) (x_tup a_nil) c.cls c.ks)
      (si_one (si_fld (d := .tup []) (.inl rfl) (fun _ _ _ _ => True.intro) (x_var 0) (x_tup a_nil) c.cls c.kp)))
    exact all _ Hd H ex en ⟨⟨.refl ex, True.intro⟩, hi⟩ _ fun σ1 Hd1 H1 u1 ex1 en1 p1 => q .non Hd1 H1 p1.1.1 p1.2 .non
def TrialSp (K : PySem.W.Frag) (CT : Addr) : Sp := fun vs H Q _ => ∃ (Hd : Hp) (a : Addr), vs = [.ref a] ∧ Ex Hd H ∧ ∀ t Hd' H', Stp NoM Hd H Hd' H' → H t = none → (InsI K CT t (triF a (.tup []) (.tup []))).p Hd' H' → Q (.ref t) H'
theorem sc314 : FnScope ["self"] ["self"] (defScope (pm 14)) := ⟨rfl, rfl, rfl, by decide +kernel, rfl, by decide +kernel, by decide +kernel⟩
theorem d_trial (hT : mg "Trial" = some (.ref CT)) (mk : MkC K CT) (D : MDef K C "trial" "Pot.trial" (pm 14) ["self"]) (M1 : MCal P w K mg base CT "__init__" 1 ["self", "held_pot"] (MutSp K CT RTri)) : MCal P w K mg base C "trial" 3 ["self"] (TrialSp K CT) :=
  mcal_any D sc314 (fun vs H Q E h => by
    obtain ⟨Hd, a, rfl, _⟩ := h
    rfl) fun f cdv A outer sh H E hr vs Q h => by
    obtain ⟨Hd, a, rfl, ex, q⟩ := h
    have en := env_start (K := K) (Hd := Hd) ["self"] (ts := [.raw (.ref a)]) (.cons (.raw (.ref a)) .nil)
    exact c_one (c_ret (c_new (Φ := MP.tt) M1 mk hr (by decide) hT en ex True.intro (a_one (x_var 0)) ⟨a, rfl, rfl, rfl, rfl⟩ q))
def EnterSp (K : PySem.W.Frag) (C CT : Addr) : Sp := fun vs H Q _ => ∃ (Hd : Hp) (t a : Addr) (s : Stand) (past : List Stand) (x y : Dt), vs = [.ref t] ∧ Ex Hd H ∧ a ≠ t ∧ (InsI K CT t (triF a x y)).p Hd H ∧ (InsI K C a (potF s past)).p Hd H ∧
  ∀ Hd' H', Stp (· = t) Hd H Hd' H' → (InsI K CT t (triF a (encStand s) (.tup (past.map encStand)))).p Hd' H' → (InsI K C a (potF s past)).p Hd' H' → Q (.ref a) H'
theorem sc291 : FnScope ["self"] ["self"] (defScope (tm 1)) := ⟨rfl, rfl, rfl, by decide +kernel, rfl, by decide +kernel, by decide +kernel⟩
theorem d_enter (c : PotC K C) (tc : TriC K CT) (D : MDef K CT "__enter__" "Trial.__enter__" (tm 1) ["self"]) : MCal P w K mg base CT "__enter__" 1 ["self"] (EnterSp K C CT) :=
  mcal_any D sc291 (fun vs H Q E h => by
    obtain ⟨Hd, t, a, s, past, x, y, rfl, _⟩ := h
    rfl) fun f cdv A outer sh H E hr vs Q h => by
    obtain ⟨Hd, t, a, s, past, x, y, rfl, ex, ne, ht, ha, q⟩ := h
    have en := env_start (K := K) (Hd := Hd) ["self"] (ts := [.raw (.ref t)]) (.cons (.raw (.ref t)) .nil)
    have all : SvR K (wSs (un (dCx P w K mg base ["self"] "Trial.__enter__" (tm 1) f cdv A outer sh H E)) (defBody (tm 1))) (startD ["self"] [.raw (.ref t)]) (((StI (· = t) Hd H).and (InsI K C a (potF s past))).and (InsI K CT t (triF a x y))) (.raw (.ref a)) (((StI (· = t) Hd H).and (InsI K C a (potF s past))).and (InsI K CT t (triF a (encStand s) (.tup (past.map encStand))))) :=
      sr_cons (si_fld (d := encStand s) (.inl rfl) (ins_off ne) (x_var 0) (x_st c (fun _ _ z => z.1.2) (x_fld (fun _ _ z => z.2) (x_var 0) rfl tc.cls tc.he)) tc.cls tc.ks)
      (sr_cons (si_fld (d := .tup (past.map encStand)) (.inl rfl) (ins_off ne) (x_var 0) (x_pa c (fun _ _ z => z.1.2) (x_fld (fun _ _ z => z.2) (x_var 0) rfl tc.cls tc.he)) tc.cls tc.kp)
      (sr_ret (x_fld (fun _ _ z => z.2) (x_var 0) rfl tc.cls tc.he)))
    exact all _ Hd H ex en ⟨⟨.refl ex, ha⟩, ht⟩ _ fun v Hd1 H1 u1 ex1 iv p1 => by
      rw [iv.raw_inv]
      exact q Hd1 H1 p1.1.1 p1.2 p1.1.2
def ExitSp (K : PySem.W.Frag) (C CT : Addr) : Sp := fun vs H Q _ => ∃ (Hd : Hp) (t a : Addr) (s s0 : Stand) (past past0 : List Stand) (v1 v2 v3 : V), vs = [.ref t, v1, v2, v3] ∧ Ex Hd H ∧ a ≠ t ∧ (InsI K CT t (triF a (encStand s0) (.tup (past0.map encStand)))).p Hd H ∧ (InsI K C a (potF s past)).p Hd H ∧
  ∀ v Hd' H', Stp (· = a) Hd H Hd' H' → (InsI K C a (potF s0 past0)).p Hd' H' → Q v H'
abbrev n292 : List Str := ["self", "kind", "value", "trace"]
theorem sc292 : FnScope n292 ["self", "kind", "value", "trace"] (defScope (tm 2)) := ⟨rfl, rfl, rfl, by decide +kernel, rfl, by decide +kernel, by decide +kernel⟩
theorem d_exit (c : PotC K C) (tc : TriC K CT) (D : MDef K CT "__exit__" "Trial.__exit__" (tm 2) ["self", "kind", "value", "trace"]) : MCal P w K mg base CT "__exit__" 1 ["self", "kind", "value", "trace"] (ExitSp K C CT) :=
  mcal_any D sc292 (fun vs H Q E h => by
    obtain ⟨Hd, t, a, s, s0, past, past0, v1, v2, v3, rfl, _⟩ := h
    rfl) fun f cdv A outer sh H E hr vs Q h => by
    obtain ⟨Hd, t, a, s, s0, past, past0, v1, v2, v3, rfl, ex, ne, ht, ha, q⟩ := h
    have en := env_start (K := K) (Hd := Hd) n292 (ts := [.raw (.ref t), .raw v1, .raw v2, .raw v3]) (.cons (.raw _) (.cons (.raw _) (.cons (.raw _) (.cons (.raw _) .nil))))
    have all : SvI K (wSs (un (dCx P w K mg base n292 "Trial.__exit__" (tm 2) f cdv A outer sh H E)) (defBody (tm 2))) (startD n292 [.raw (.ref t), .raw v1, .raw v2, .raw v3]) (((StI (· = a) Hd H).and (InsI K CT t (triF a (encStand s0) (.tup (past0.map encStand))))).and (InsI K C a (potF s past))) (startD n292 [.raw (.ref t), .raw v1, .raw v2, .raw v3]) (((StI (· = a) Hd H).and (InsI K CT t (triF a (encStand s0) (.tup (past0.map encStand))))).and (InsI K C a (potF s0 past0))) :=
      si_cons (si_fld (d := encStand s0) (.inl rfl) (ins_off (Ne.symm ne)) (x_fld (fun _ _ z => z.1.2) (x_var 0) rfl tc.cls tc.he) (x_fld (fun _ _ z => z.1.2) (x_var 0) rfl tc.cls tc.ks) c.cls c.st)
      (si_one (si_fld (d := .tup (past0.map encStand)) (.inl rfl) (ins_off (Ne.symm ne)) (x_fld (fun _ _ z => z.1.2) (x_var 0) rfl tc.cls tc.he) (x_fld (fun _ _ z => z.1.2) (x_var 0) rfl tc.cls tc.kp) c.cls c.pa))
    exact all _ Hd H ex en ⟨⟨.refl ex, ht⟩, ha⟩ _ fun σ1 Hd1 H1 u1 ex1 en1 p1 => q .non Hd1 H1 p1.1.1 p1.2
end
end SP
/-! P15 -/
namespace SP
open PySem PySem.Spec PySem.Calls PyProof.Rows L2
/-! ### an instance that is called -/
section
variable {M : Model} {A : Around} {E : Value → Shared → Prop} {s : Shared} {env : Env} {pos : Pos} {x : Addr} {first : List Value} {Q : Value → Shared → Prop}
theorem co_callWith_of {P1 : Heap → Prop} (hP : ∀ h, P1 h → PySem.W.Looks M h (keeperOf (.ref x)) .caller) {args : List (Bool × Sem Value)} {keywords : List (Option Str × Sem Value)} (hplain : (args.any (·.1) || keywords.any (·.1.isNone)) = false)
    (h : wpAny M A (evalArgs (.ref x) true args keywords) (fun a s₁ => P1 s₁.heap ∧ wpAny M A (call (.ref x) (first ++ a.pos) a.kw) Q E s₁) E s) : wpAny M A (callWith pos (.ref x) first args keywords) Q E s := by
  unfold callWith
  refine wpAny_bind (wpAny_holding (wpAny_mono h (fun a s₁ h₁ => wpAny_bind (wpAny_standAt ?_)) fun _ _ y => y))
  have L := hP _ h₁.1
  simp only [hplain]
  refine wpAny_bind (L.here ?_)
  have tail : ∀ {t : Sem Value}, wpAny M A t Q E s₁ → wpAny M A (t >>= fun r => holding [r] point >>= fun _ => pure r) Q E s₁ :=
    fun ht => wpAny_bind (wpAny_mono ht (fun r s₂ hr => wpAny_bind (wpAny_holding (wpAny_point (wpAny_pure hr)))) fun _ _ y => y)
  exact tail (wpAny_operateT h₁.2)
theorem co_callWith {P1 : Heap → Prop} (hP : ∀ h, P1 h → PySem.W.Looks M h (keeperOf (.ref x)) .caller) {e : Expr} {rest : List Expr} (h : wpAny M A (spliced (backTo pos (starEach (e :: rest) env))) (fun vs s₁ => P1 s₁.heap ∧ wpAny M A (call (.ref x) (first ++ vs)) Q E s₁) E s)
    (he : starEach (e :: rest) env = (false, eval e env) :: starEach rest env := by rfl) (hplain : (backTo pos (starEach rest env)).any (·.1) = false := by rfl) :
    wpAny M A (callWith pos (.ref x) first (backTo pos (starEach (e :: rest) env)) []) Q E s := by
  rw [he] at h ⊢
  exact co_callWith_of hP (by show ((false || (backTo pos (starEach rest env)).any (·.1)) || false) = false; rw [hplain]; rfl) (evalArgs_plain h)
end
structure CCal (P : Program) (w : World) (K : PySem.W.Frag) (mg : Str → Option Value) (base : Heap) (C : Addr) (k : Nat) (sp : Sp) : Prop where
  ex : ∃ f, PySem.W.findIn K (.ref C) "__call__" = some (some (.ref f)) ∧ PySem.W.isFn K (.ref f) = true ∧ PySem.W.fnIn K f = true ∧ FnR P w K mg base CX0 k f sp
theorem MCal.cc {P : Program} {w : World} {K : PySem.W.Frag} {mg : Str → Option Value} {base : Heap} {C : Addr} {k : Nat} {ps ps2 : List Str} {sp : Sp} {qual : Str} {st : Stmt} (m : MCal P w K mg base C "__call__" k ps sp) (D : MDef K C "__call__" qual st ps2) : CCal P w K mg base C k sp := by
  obtain ⟨f, h1, h2, h3⟩ := m.sp.ex
  obtain ⟨g, fd, g1, g2, g3⟩ := D.ex
  have e : f = g := by
    have := g1.at_
    rw [h1] at this
    cases this
    rfl
  subst e
  obtain ⟨oc, od, kV, doc, pm, an, cdv, ct, osl, _, lk, _⟩ := g2.ex
  exact ⟨f, h1, h2, by unfold PySem.W.fnIn; rw [lk], h3⟩
def tCallO (i : Nat) (C : Addr) (sp : Sp) (te : TE) : TE := fun σ H Q => ∃ a dx fs, σ[i]? = some (some (.ref a)) ∧ H a = some (.ins C dx fs) ∧ te σ H fun v H1 => (∃ dx fs, H1 a = some (.ins C dx fs)) ∧ sp [.ref a, v] H1 Q E0
theorem pe_callO {X : Cx} {C : Addr} {k j i : Nat} {sp : Sp} {x : Str} {p pos : Pos} {e : Expr} {te : TE} (m : CCal X.prog X.w X.K X.mg X.base C k sp) (hr : Room j X.A) (hkj : k ≤ j) (hN : X.N[i]? = some x) (hv : Vis X.env.scope x) (he : PE X e te)
    (hdb : (x == ("__debug__" : Str)) = false := by decide) (hcd : (x == ("__classdict__" : Str)) = false := by decide)
    (hs : starEach [e] X.env = (false, eval e X.env) :: starEach [] X.env := by rfl) : PE X (.Call (.Name x p) [e] [] pos) (tCallO i C sp te) := by
  obtain ⟨f, h1, h2, h3, h4⟩ := m.ex
  refine ⟨fun pins s σ H Q I h => ?_⟩
  obtain ⟨a, dx, fs, hs1, ha, ht⟩ := h
  refine wpAny_Call_Name_kw (thn ((pe_var (pos := p) hN hv hdb hcd).run pins s σ H (fun v H1 => v = .ref a ∧ H1 = H) I ⟨.ref a, hs1, rfl, rfl⟩) fun u s1 ⟨v, H1, I1, r1, q1⟩ => ?_)
  obtain ⟨ev, eH⟩ := q1
  subst ev
  rw [eH] at I1
  obtain rfl : u = Value.ref a := r1
  refine co_callWith (P1 := fun h => ∃ ox od, PySem.W.InstAt h a ox C od ∧ ox.data = .plain) (first := []) (fun h ⟨ox, od, J, hd⟩ => PySem.W.kco_keeper J hd) (thn ((pa_cons he pa_nil hs).run pos pins s1 σ H (fun vs H2 => match vs with | [v] => (∃ dx fs, H2 a = some (.ins C dx fs)) ∧ sp [.ref a, v] H2 Q E0 | _ => False) I1 ht) fun us s2 ⟨vs, H2, I2, r, q⟩ => ?_) hs rfl
  obtain ⟨v, rfl⟩ : ∃ v, vs = [v] := by
    match vs, q with
    | [v], _ => exact ⟨v, rfl⟩
    | [], q => exact q.elim
    | _ :: _ :: _, q => exact q.elim
  obtain ⟨w, rfl, rv⟩ := vals1 r
  obtain ⟨⟨dx2, fs2, ha2⟩, q⟩ := q
  obtain ⟨mA, O, _⟩ := ins_get I2.hok ha2
  obtain ⟨od, J, _⟩ := O.look
  refine ⟨⟨_, _, J, rfl⟩, wpAny_call (PySem.W.kco_code I2.kIn J rfl h1 h2 h3 ?_)⟩
  have hr' : Room k X.A := hr.mono hkj
  refine codeAny_mono (h4 X.A X.stack s2 H2 [.ref a, w] [.ref a, v] Q E0 hr' I2.env0 (.cons rfl (.cons rv .nil)) q) fun r s' hq => ?_
  cases r with
  | error e => exact False.elim hq
  | ok fl =>
    cases fl with
    | ret u => exact I2.after hq
    | next => exact False.elim hq
    | brk => exact False.elim hq
    | cont => exact False.elim hq
end SP
/-! P14 -/
namespace SP
open PySem L2
/-! ### data of a size -/
structure Fine (d : Dt) (w h : Nat) : Prop where
  pure : d.pure = true
  lay : d.py.canLay0 = true
  depth : d.py.depth ≤ h
  weight : d.py.weight ≤ w
  short : d.py.intsShort 13 = true
  show_ : d.py.showable = true
structure FineA (ds : List Dt) (w h : Nat) : Prop where
  pure : Dt.pureA ds = true
  lay : PyData.canLayAll0 (Dt.pyA ds) = true
  depth : PyData.depthAll (Dt.pyA ds) ≤ h
  weight : PyData.weightAll (Dt.pyA ds) ≤ w
  short : PyData.intsShortAll 13 (Dt.pyA ds) = true
  show_ : PyData.showableAll (Dt.pyA ds) = true
theorem Fine.le {d : Dt} {w h w' h' : Nat} (f : Fine d w h) (a : w ≤ w') (b : h ≤ h') : Fine d w' h' := ⟨f.pure, f.lay, Nat.le_trans f.depth b, Nat.le_trans f.weight a, f.short, f.show_⟩
theorem FineA.le {d : List Dt} {w h w' h' : Nat} (f : FineA d w h) (a : w ≤ w') (b : h ≤ h') : FineA d w' h' := ⟨f.pure, f.lay, Nat.le_trans f.depth b, Nat.le_trans f.weight a, f.short, f.show_⟩
theorem fine_non : Fine .non 0 0 := ⟨by simp [Dt.pure], by simp [Dt.py, PyData.canLay0], by simp [Dt.py, PyData.depth], by simp [Dt.py, PyData.weight], by simp [Dt.py, PyData.intsShort], by simp [Dt.py, PyData.showable]⟩
theorem fine_bl (b : Bool) : Fine (.bl b) 0 0 := ⟨by simp [Dt.pure], by simp [Dt.py, PyData.canLay0], by simp [Dt.py, PyData.depth], by simp [Dt.py, PyData.weight], by simp [Dt.py, PyData.intsShort], by simp [Dt.py, PyData.showable]⟩
theorem fine_int {i : Int} (h : i.natAbs < 1000000000000) : Fine (.int i) 41 0 := by
  have hl : i.natAbs.log2 < 40 := by
    by_cases z : i.natAbs = 0
    · rw [z]; decide
    · exact (Nat.log2_lt z).mpr (Nat.lt_of_lt_of_le h (by decide))
  refine ⟨by simp [Dt.pure], by simp [Dt.py, PyData.canLay0], by simp [Dt.py, PyData.depth], ?_, ?_, ?_⟩
  · rw [Dt.py, PyData.weight]
    split <;> omega
  · rw [Dt.py, PyData.intsShort, decide_eq_true_eq, PyData.shown]
    have := int_text_length_le10 (a := i) (k := 12) (by decide) (Nat.lt_of_lt_of_le h (by decide))
    rw [ofString_length]
    omega
  · rw [Dt.py, PyData.showable, decide_eq_true_eq]
    omega
theorem fine_nat {n : Nat} (h : n < 1000000000000) : Fine (.int (n : Int)) 41 0 := fine_int (by omega)
theorem fine_str {s : Str} (h : ∀ c ∈ s.cps.toList, c < 0x110000) : Fine (.str s) s.length 0 := by
  refine ⟨by simp [Dt.pure], ?_, by simp [Dt.py, PyData.depth], by simp [Dt.py, PyData.weight, Str.length], by simp [Dt.py, PyData.intsShort], by simp [Dt.py, PyData.showable]⟩
  rw [Dt.py, PyData.canLay0]
  show s.cps.all (· < 0x110000) = true
  rw [Array.all_eq_true']
  intro x hx
  exact decide_eq_true (h x (by simpa using hx))
theorem fineA_nil {h : Nat} : FineA [] 0 h := ⟨by simp [Dt.pureA], by simp [Dt.pyA, PyData.canLayAll0], by simp [Dt.pyA, PyData.depthAll], by simp [Dt.pyA, PyData.weightAll], by simp [Dt.pyA, PyData.intsShortAll], by simp [Dt.pyA, PyData.showableAll]⟩
theorem fineA_cons {d : Dt} {ds : List Dt} {w w2 h : Nat} (a : Fine d w h) (b : FineA ds w2 h) : FineA (d :: ds) (w + 1 + w2) h := by
  refine ⟨by simp [Dt.pureA, a.pure, b.pure], by simp [Dt.pyA, PyData.canLayAll0, a.lay, b.lay], ?_, ?_, by simp [Dt.pyA, PyData.intsShortAll, a.short, b.short], by simp [Dt.pyA, PyData.showableAll, a.show_, b.show_]⟩
  · have h1 := a.depth
    have h2 := b.depth
    simp only [Dt.pyA, PyData.depthAll]
    omega
  · have h1 := a.weight
    have h2 := b.weight
    simp only [Dt.pyA, PyData.weightAll]
    omega
theorem fineA_map {α : Type} {f : α → Dt} {w h : Nat} : ∀ {l : List α}, (∀ x ∈ l, Fine (f x) w h) → FineA (l.map f) (l.length * (w + 1)) h
  | [], _ => fineA_nil.le (by omega) (Nat.le_refl _)
  | x :: r, hx => by
    have ih := fineA_map (l := r) fun y hy => hx y (List.mem_cons_of_mem _ hy)
    have := fineA_cons (hx x List.mem_cons_self) ih
    rw [List.length_cons, Nat.succ_mul]
    exact this.le (by omega) (Nat.le_refl _)
theorem fine_lst {ds : List Dt} {w h : Nat} (a : FineA ds w h) : Fine (.lst ds) w (h + 1) := by
  refine ⟨by simp [Dt.pure, a.pure], by simp [Dt.py, PyData.canLay0, a.lay], ?_, by simpa [Dt.py, PyData.weight] using a.weight, by simp [Dt.py, PyData.intsShort, a.short], by simp [Dt.py, PyData.showable, a.show_]⟩
  have h1 := a.depth
  simp only [Dt.py, PyData.depth]
  omega
theorem fine_tp {k : Bool} {ds : List Dt} {w h : Nat} (a : FineA ds w h) : Fine (.tp k ds) w (h + 1) := by
  refine ⟨by simp [Dt.pure, a.pure], by simp [Dt.py, PyData.canLay0, a.lay], ?_, by simpa [Dt.py, PyData.weight] using a.weight, by simp [Dt.py, PyData.intsShort, a.short], by simp [Dt.py, PyData.showable, a.show_]⟩
  have h1 := a.depth
  simp only [Dt.py, PyData.depth]
  omega
theorem Fine.shaped {d : Dt} {w h : Nat} (f : Fine d w h) (hh : h ≤ 64) : SeqAt.shaped d.py = true := by
  unfold SeqAt.shaped
  rw [f.lay, Bool.true_and]
  exact decide_eq_true (Nat.le_trans f.depth hh)
theorem Fine.noDict {d : Dt} {w h : Nat} (f : Fine d w h) : d.py.hasDict = false := PyData.hasDict_of_canLay _ f.lay
theorem Fine.shown {d : Dt} {w h : Nat} (f : Fine d w h) (hh : h ≤ 64) (hw : w ≤ 1048576) : d.py.shown.length ≤ sizeLine := by
  refine Nat.le_trans (PyProof.Rows.shown_le13 (d := d.py) ?_ f.short) (by decide)
  show (PyData.canLay0 d.py && decide (PyData.depth d.py ≤ 64) && decide (PyData.weight d.py ≤ 2 ^ 20)) = true
  rw [f.lay, Bool.true_and, decide_eq_true (Nat.le_trans f.depth hh), Bool.true_and]
  exact decide_eq_true (Nat.le_trans (Nat.le_trans f.weight hw) (by decide))
theorem Fine.eqv {d : Dt} {w h : Nat} (f : Fine d w h) : PyData.eqv d.py d.py = true := SeqAt.eqv_refl _ f.lay
end SP
/-! P12 -/
namespace SP
open PySem PySem.Spec PyProof.Rows L2
section
variable {K : PySem.W.Frag} {Hd H : Hp} {σ : L2.St} {ρ : Rho} {te : TE} {d : Dt} {Φ : MP}
theorem ev_at (en : EnvD K Hd σ ρ) (ex : Ex Hd H) (pp : Φ.p Hd H) (h : EvD K Φ te ρ d) {Q : VK} (q : ∀ v Hd' H', Stp NoM Hd H Hd' H' → Im K Hd' v d → Q v H') : te σ H Q := h σ Hd H ex en pp Q q
end
/-! ### expressions step by step -/
section
variable {ι : Type} {F : ι → Cx} {σ : L2.St} {H : Hp} {e a b c : Expr} {es : List Expr} {pos p : Pos} {Q : VK} {n : Str}
theorem c_op {op : Operator} {r : R2} (ho : ∀ i, OpR (F i) (binaryOp op) r) (h : wE F a σ H fun v H1 => wE F b σ H1 fun u H2 => r v u H2 Q) : wE F (.BinOp a op b pos) σ H Q := ⟨_, fun i => pe_op (ho i) (wE_ok i) (wE_ok i), h⟩
theorem c_tup {x1} (h : wA F es σ H fun vs H1 => vs.length ≤ sizeLine ∧ ∀ p, H1 p = none → Q (.ref p) (upd H1 p (.tup vs))) : wE F (.Tuple es x1 pos) σ H Q := ⟨tTup (wA F es), fun i => pe_tup (wA_ok i), h⟩
theorem c_tux {x1} (h : wA F es σ H fun vs H1 => vs.length ≤ sizeLine ∧ ∀ p o, H1 p = none → o.dict = none → Q (.ref p) (upd H1 p (.frz o (.tup vs)))) : wE F (.Tuple es x1 pos) σ H Q := ⟨tTupX (wA F es), fun i => pe_tupX (wA_ok i), h⟩
theorem c_ix {r : R2} (hr : ∀ i, IxR (F i) r) (h : wE F a σ H fun v H1 => wE F b σ H1 fun u H2 => r v u H2 Q) (hs : PlainIx b := by exact fun _ _ => rfl) : wE F (.Subscript a b pos) σ H Q := ⟨_, fun i => pe_ix (hr i) (wE_ok i) (wE_ok i) hs, h⟩
theorem c_slN {p2 : Pos} {r : V → Option Int → Option Int → Hp → VK → Prop} (hr : ∀ i, SlR (F i) r) (h : wE F a σ H fun v H1 => wE F b σ H1 fun u H2 => ∃ i, u = .int i ∧ r v none (some i) H2 Q) : wE F (.Subscript a (.Slice none (some b) none p2) pos) σ H Q := ⟨tSl r (wE F a) tNoPart (tPart (wE F b)), fun i => pe_slice (hr i) (wE_ok i) po_none (po_some (wE_ok i)), h⟩
theorem c_cmpT {op : CmpOp} {r : R2} {Q : Bool → Hp → Prop} (ho : ∀ i, OpR (F i) (compareOp op) r) (h : wE F a σ H fun v H1 => wE F b σ H1 fun u H2 => r v u H2 fun x H' => ∃ k, x = .bl k ∧ Q k H') (hm : behindInMarks op b = false) : wT F (.Compare a [op] [b] pos) σ H Q := ⟨_, fun i => pt_cmpR (ho i) (wE_ok i) (wE_ok i) hm, h⟩
theorem c_call {k j : Nat} {ps : List Str} {sp : Sp} (c : ∀ i, Cal (F i) n k ps sp) (hr : ∀ i, Room j (F i).A) (h : wA F (e :: es) σ H fun vs H1 => sp (vs ++ []) H1 Q E0) (hkj : k ≤ j := by decide) (hg : ∀ i, Gl (F i) n := by intro _; rfl) (hdb : (n == ("__debug__" : Str)) = false := by decide)
    (he : ∀ i, starEach (e :: es) (F i).env = (false, eval e (F i).env) :: starEach es (F i).env := by intro _; rfl) (hpl : ∀ i, (backTo pos (starEach es (F i).env)).any (·.1) = false := by intro _; rfl) : wE F (.Call (.Name n p) (e :: es) [] pos) σ H Q := ⟨tCall sp [] E0 (wA F (e :: es)), fun i => pe_cal (c i) (hr i) hkj (wA_ok i) (hg i) hdb (he i) (hpl i), h⟩
theorem c_cb {id : String} {r : List V → Hp → VK → Prop} (hc : ∀ i, CallR (F i) (.builtin id) r) (hv : bootBuiltins n = some (.builtin id)) (hm : ∀ i, (F i).mg n = none) (h : wA F (e :: es) σ H fun vs H1 => r vs H1 Q) (hg : ∀ i, Gl (F i) n := by intro _; rfl) (hn : n ≠ "__name__" := by decide) (hdb : (n == ("__debug__" : Str)) = false := by decide)
    (he : ∀ i, starEach (e :: es) (F i).env = (false, eval e (F i).env) :: starEach es (F i).env := by intro _; rfl) (hpl : ∀ i, (backTo pos (starEach es (F i).env)).any (·.1) = false := by intro _; rfl) : wE F (.Call (.Name n p) (e :: es) [] pos) σ H Q := ⟨tCB r (wA F (e :: es)), fun i => pe_callB (hc i) (hg i) (hm i) hv (wA_ok i) hn hdb (he i) (hpl i), h⟩
theorem c_ct {T : String} {r : List V → Hp → VK → Prop} (hc : ∀ i, CallR (F i) (.type T) r) (hv : bootBuiltins n = some (.type T)) (hm : ∀ i, (F i).mg n = none) (h : wA F (e :: es) σ H fun vs H1 => r vs H1 Q) (hg : ∀ i, Gl (F i) n := by intro _; rfl) (hn : n ≠ "__name__" := by decide) (hdb : (n == ("__debug__" : Str)) = false := by decide)
    (he : ∀ i, starEach (e :: es) (F i).env = (false, eval e (F i).env) :: starEach es (F i).env := by intro _; rfl) (hpl : ∀ i, (backTo pos (starEach es (F i).env)).any (·.1) = false := by intro _; rfl) : wE F (.Call (.Name n p) (e :: es) [] pos) σ H Q := ⟨tCB r (wA F (e :: es)), fun i => pe_callTy (hc i) (hg i) (hm i) hv (wA_ok i) hn hdb (he i) (hpl i), h⟩
theorem c_int {i : Int} {j : Nat} (q : Q (.int i) H) : wE F (.Constant (.int i) j pos) σ H Q := ⟨_, fun _ => pe_int, q⟩
theorem c_str {s : Str} {j : Nat} (q : Q (.str s) H) : wE F (.Constant (.str s) j pos) σ H Q := ⟨_, fun _ => pe_str, q⟩
theorem c_non {j : Nat} (q : Q .non H) : wE F (.Constant .none j pos) σ H Q := ⟨_, fun _ => pe_non, q⟩
end
/-! ### the dict of draws -/
def kCells : Key := Sum.inr "cells"
def kLeft : Key := Sum.inr "left"
def kSpot : Key := Sum.inr "spot"
def drawD (c : Addr) (l s : Int) : List (Key × V) := [(kCells, .ref c), (kLeft, .int l), (kSpot, .int s)]
/-- exactly told -/
def MX (K : PySem.W.Frag) (am c : Addr) (cs : List Int) (l s : Int) : MP := ⟨fun Hd H => Hd am = none ∧ H am = some (.dK (drawD c l s)) ∧ Im K Hd (.ref c) (.lst (cs.map Dt.int)), fun {Hd H Hd' H'} t ⟨a, b, d⟩ => ⟨t.sep am (by rw [b]; intro z; cases z) a, t.ex _ _ b, d.mono t.ud⟩⟩
/-- at most n spots were read -/
def MD (K : PySem.W.Frag) (am : Addr) (n : Nat) : MP := ⟨fun Hd H => ∃ c cs l s, (MX K am c cs l s).p Hd H ∧ cs ≠ [] ∧ cs.length ≤ 100000 ∧ 0 ≤ l ∧ 0 ≤ s ∧ s ≤ n, fun t ⟨c, cs, l, s, h, r⟩ => ⟨c, cs, l, s, (MX K am c cs l s).mono t h, r⟩⟩
theorem MD.le {K : PySem.W.Frag} {am : Addr} {n m : Nat} {Hd H : Hp} (h : (MD K am n).p Hd H) (e : n ≤ m) : (MD K am m).p Hd H := by
  obtain ⟨c, cs, l, s, h1, h2, h3, h4, h5, h6⟩ := h
  exact ⟨c, cs, l, s, h1, h2, h3, h4, h5, by omega⟩
section
variable {K : PySem.W.Frag} {Φ : MP} {ρ : Rho} {F : Unit → Cx} {o e : Expr} {d : Dt} {am c : Addr} {cs : List Int} {l s : Int} {pos p p' : Pos} {M : Addr → Prop} {Hd0 H0 : Hp} {key : Str} {j jj : Nat}
/-- m[key] -/
theorem x_mget (hr : ∀ i, Room jj (F i).A) {v : V} (hΦ : ∀ Hd H, Φ.p Hd H → (MX K am c cs l s).p Hd H) (ho : EvD K Φ (wE F o) ρ (.raw (.ref am))) (hv : valV (drawD c l s) (Sum.inr key) = some v) (hd : ∀ Hd, Im K Hd (.ref c) (.lst (cs.map Dt.int)) → Im K Hd v d) : EvD K Φ (wE F (.Subscript o (.Constant (.str key) j p) pos)) ρ d :=
  lE (fun i => pe_dget (pos := pos) (hu_of (hr i)) (wE_ok (F := F) (e := o) i) (pe_str (x := key) (j := j) (pos := p)) (fun _ _ => rfl)) fun σ Hd H ex en pp Q q => ho σ Hd H ex en pp _ fun w Hd1 H1 s1 i1 => by
    rw [i1.raw_inv]
    obtain ⟨_, h2, h3⟩ := hΦ _ _ (Φ.mono s1 pp)
    exact ⟨am, v, rfl, by rw [← hv]; exact DGet.k (k := Sum.inr key) h2, q v Hd1 H1 s1 (hd _ h3)⟩
theorem x_mleft (hr : ∀ i, Room jj (F i).A) (hΦ : ∀ Hd H, Φ.p Hd H → (MX K am c cs l s).p Hd H) (ho : EvD K Φ (wE F o) ρ (.raw (.ref am))) : EvD K Φ (wE F (.Subscript o (.Constant (.str "left") j p) pos)) ρ (.int l) := x_mget hr hΦ ho (v := .int l) (by unfold drawD valV kCells kLeft; rfl) fun _ _ => .int l
theorem x_mspot (hr : ∀ i, Room jj (F i).A) (hΦ : ∀ Hd H, Φ.p Hd H → (MX K am c cs l s).p Hd H) (ho : EvD K Φ (wE F o) ρ (.raw (.ref am))) : EvD K Φ (wE F (.Subscript o (.Constant (.str "spot") j p) pos)) ρ (.int s) := x_mget hr hΦ ho (v := .int s) (by unfold drawD valV kCells kLeft kSpot; rfl) fun _ _ => .int s
theorem x_mcells (hr : ∀ i, Room jj (F i).A) (hΦ : ∀ Hd H, Φ.p Hd H → (MX K am c cs l s).p Hd H) (ho : EvD K Φ (wE F o) ρ (.raw (.ref am))) : EvD K Φ (wE F (.Subscript o (.Constant (.str "cells") j p) pos)) ρ (.lst (cs.map Dt.int)) := x_mget hr hΦ ho (v := .ref c) (by unfold drawD valV kCells; rfl) fun _ h => h
/-- m[key] = e -/
theorem si_mput (hr : ∀ i, Room jj (F i).A) {v : Int} {l' s' : Int} (hm : M am ∨ H0 am = none) (ho : EvD K ((StI M Hd0 H0).and (MX K am c cs l s)) (wE F o) ρ (.raw (.ref am))) (hv : EvD K ((StI M Hd0 H0).and (MX K am c cs l s)) (wE F e) ρ (.int v)) (hk : putK (drawD c l s) (Sum.inr key) (.int v) = drawD c l' s')
    (hs : ∀ i, swapsWith e (some (.Subscript o (.Constant (.str key) j p) p')) pos.line (F i).env = pure false := by intro _; rfl) :
    SvI K (wS F (.Assign [.Subscript o (.Constant (.str key) j p) p'] e pos)) ρ ((StI M Hd0 H0).and (MX K am c cs l s)) ρ ((StI M Hd0 H0).and (MX K am c cs l' s')) := fun σ Hd H ex en pp D q => by
  refine ⟨sDPut (wE F o) (tC (.str key)) (wE F e), fun i => ps_dput (hu_of (hr i)) (wE_ok (F := F) (e := o) i) (pe_str (x := key) (j := j) (pos := p)) (wE_ok (F := F) (e := e) i) (hs i), ?_⟩
  refine hv σ Hd H ex en pp _ fun w Hd1 H1 s1 i1 => ?_
  have p1 := ((StI M Hd0 H0).and (MX K am c cs l s)).mono s1 pp
  refine ho σ Hd1 H1 s1.sub (en.mono s1.ud) p1 _ fun x Hd2 H2 s2 i2 => ?_
  rw [i2.raw_inv, (i1.mono s2.ud).int_inv]
  obtain ⟨t1, t2, t3, t4⟩ := ((StI M Hd0 H0).and (MX K am c cs l s)).mono s2 p1
  have t1' : Stp M Hd0 H0 Hd2 H2 := t1
  have st := t1'.putAt (o := .dK (drawD c l' s')) hm t2
  refine ⟨am, upd H2 am (.dK (drawD c l' s')), rfl, ?_, q σ Hd2 _ (s1.ud.trans s2.ud) st.sub (en.mono (s1.ud.trans s2.ud)) ⟨st, t2, upd_same, t4⟩⟩
  rw [← hk]
  exact DPut.k (k := Sum.inr key) t3 (show 3 < sizeLine by decide)
end
end SP
/-! Q12 -/
namespace SP
open PySem PySem.Spec PyProof.Rows L2
section
variable {P : Program} {w : World} {K : PySem.W.Frag} {mg : Str → Option Value} {base : Heap}
/-! ### a draw -/
abbrev n33 : List Str := ["_law_m", "_law_limit", "_law_found", "_law_spot", "_law_cell", "_law_mixed"]
theorem sc33 : FnScope n33 ["_law_m", "_law_limit"] (defScope (top 33)) := ⟨rfl, rfl, rfl, by decide +kernel, rfl, by decide +kernel, by decide +kernel⟩
def DrawSp (K : PySem.W.Frag) : Sp := fun vs H Q _ => ∃ (Hd : Hp) (am : Addr) (n lim : Nat), vs = [.ref am, .int (lim : Int)] ∧ Ex Hd H ∧ (MD K am n).p Hd H ∧ 0 < lim ∧ lim ≤ 1000000 ∧ n ≤ 1000000000 ∧
  ∀ (r : Nat) Hd' H', r < lim → Stp (· = am) Hd H Hd' H' → (MD K am (n + 1)).p Hd' H' → Q (.int (r : Int)) H'
theorem putL (c : Addr) (l s l' : Int) : putK (drawD c l s) (Sum.inr "left") (.int l') = drawD c l' s := by unfold drawD putK kCells kLeft kSpot; rfl
theorem putS (c : Addr) (l s s' : Int) : putK (drawD c l s) (Sum.inr "spot") (.int s') = drawD c l s' := by unfold drawD putK kCells kLeft kSpot; rfl
theorem nat_mod {i : Int} {lim : Nat} (h : 0 < lim) : ∃ r : Nat, r < lim ∧ i % (lim : Int) = (r : Int) := by
  have h1 := Int.emod_nonneg i (show (lim : Int) ≠ 0 by omega)
  have h2 := Int.emod_lt_of_pos i (show (0 : Int) < lim by omega)
  exact ⟨(i % (lim : Int)).toNat, by omega, by omega⟩
theorem d_draw (T : TX mg) (D : DefAt K mg "_law_draw" (top 33) ["_law_m", "_law_limit"]) : Callee P w K mg base "_law_draw" 1 ["_law_m", "_law_limit"] (DrawSp K) :=
  cal_any D sc33 (fun vs H Q E h => by
    obtain ⟨Hd, am, n, lim, rfl, _⟩ := h
    rfl) fun f cdv A outer sh H E hr vs Q h => by
    obtain ⟨Hd, am, n, lim, rfl, ex, hmd, hl0, hl1, hn, q⟩ := h
    obtain ⟨c, cs, l, s, hx, hcs, hcl, hl, hs0, hs1⟩ := hmd
    have en := env_start (K := K) (Hd := Hd) n33 (ts := [.raw (.ref am), .int (lim : Int)]) (.cons (.raw _) (.cons (.int _) .nil))
    have hl2 : (0 : Int) < (lim : Int) := by omega
    by_cases hp : 0 < l
    · obtain ⟨r, hr1, hr2⟩ := nat_mod (i := l) hl0
      have all : SvR K (wSs (un (dCx P w K mg base n33 "_law_draw" (top 33) f cdv A outer sh H E)) (ifBody (stm 33 0))) (startD n33 [.raw (.ref am), .int (lim : Int)]) ((StI (· = am) Hd H).and (MX K am c cs l s)) (.int (r : Int)) ((StI (· = am) Hd H).and (MX K am c cs (l / (lim : Int)) s)) :=
        sr_cons (svi_of (s_set 2 (fun _ => sc33.nd) (ed_is (x_mod (x_int1 T (x_mleft (fun _ => hr) (fun _ _ z => z.2) (x_var 0))) (x_var 1) hl2) (congrArg Dt.int hr2))))
        (sr_cons (si_mput (fun _ => hr) (.inl rfl) (x_var 0) (x_fdiv (x_mleft (fun _ => hr) (fun _ _ z => z.2) (x_var 0)) (x_var 1) ⟨hl2, by omega⟩) (putL c l s _))
        (sr_ret (x_var 2)))
      have tst : EvT K ((StI (· = am) Hd H).and (MX K am c cs l s)) (wT (un (dCx P w K mg base n33 "_law_draw" (top 33) f cdv A outer sh H E)) (ifTest (stm 33 0))) (startD n33 [.raw (.ref am), .int (lim : Int)]) true :=
        et_is (t_cmp (fun _ => op_gt) (x_mleft (fun _ => hr) (fun _ _ z => z.2) (x_var 0)) x_int rd_ib (nomark _)) (decide_eq_true hp)
      refine c_cons (c_if (tst _ Hd H ex en ⟨.refl ex, hx⟩ _ fun Hd1 H1 s1 => ?_))
      refine all _ Hd1 H1 s1.sub (en.mono s1.ud) ⟨s1.nom, (MX K am c cs l s).mono s1 hx⟩ _ fun v Hd2 H2 u2 ex2 iv p2 => ?_
      rw [iv.int_inv]
      exact q r Hd2 H2 hr1 p2.1 ⟨c, cs, _, s, p2.2, hcs, hcl, Int.ediv_nonneg hl (by omega), hs0, by omega⟩
    · have hl' : l = 0 := by omega
      subst hl'
      have clen : (0 : Int) < ((cs.length : Nat) : Int) := by
        have : cs.length ≠ 0 := fun z => hcs (List.length_eq_zero_iff.mp z)
        omega
      obtain ⟨k, hk1, hk2⟩ := nat_mod (i := s + 1) (lim := cs.length) (by omega)
      have hk3 : cs[k]? = some cs[k] := List.getElem?_eq_getElem hk1
      have hk4 : (cs.map Dt.int)[k]? = some (.int cs[k]) := by rw [List.getElem?_map, hk3]; rfl
      generalize cs[k] = cell at hk4
      obtain ⟨r, hr1, hr2⟩ := nat_mod (i := ((cell % 2147483629 + 6133 * (s + 1) + 23 * (s + 1) * (s + 1)) * 48271 % 2147483647 + 93241 * (s + 1)) * 69621 % 2147483587 / 13) hl0
      have all : SvR K (wSs (un (dCx P w K mg base n33 "_law_draw" (top 33) f cdv A outer sh H E)) ((defBody (top 33)).drop 1)) (startD n33 [.raw (.ref am), .int (lim : Int)]) ((StI (· = am) Hd H).and (MX K am c cs 0 s)) (.int (r : Int)) ((StI (· = am) Hd H).and (MX K am c cs 0 (s + 1))) :=
        sr_cons (svi_of (s_set 3 (fun _ => sc33.nd) (x_add (x_mspot (fun _ => hr) (fun _ _ z => z.2) (x_var 0)) x_int)))
        (sr_cons (si_mput (fun _ => hr) (.inl rfl) (x_var 0) (x_var 3) (putS c 0 s _))
        (sr_cons (svi_of (s_set 4 (fun _ => sc33.nd) (x_ixL k (x_mcells (fun _ => hr) (fun _ _ z => z.2) (x_var 0)) (x_mod (x_int1 T (x_var 3)) (ed_is (x_lenL T (x_mcells (fun _ => hr) (fun _ _ z => z.2) (x_var 0))) (congrArg (fun k : Nat => Dt.int (k : Int)) (List.length_map ..))) clen) hk2 hk4)))
        (sr_cons (svi_of (s_set 5 (fun _ => sc33.nd) (x_mul (x_int1 T (x_add (x_add (x_mod (x_int1 T (x_var 4)) x_int (by decide)) (x_mul x_int (x_var 3) (.inl ⟨by decide, by decide⟩))) (x_mul (x_mul x_int (x_var 3) (.inl ⟨by decide, by decide⟩)) (x_var 3) (.inr ⟨by omega, by omega⟩)))) x_int (.inr ⟨by decide, by decide⟩))))
        (sr_cons (svi_of (s_set 5 (fun _ => sc33.nd) (x_mul (x_int1 T (x_add (x_mod (x_int1 T (x_var 5)) x_int (by decide)) (x_mul x_int (x_var 3) (.inl ⟨by decide, by decide⟩)))) x_int (.inr ⟨by decide, by decide⟩))))
        (sr_ret (ed_is (x_mod (x_int1 T (x_fdiv (x_mod (x_int1 T (x_var 5)) x_int (by decide)) x_int ⟨by decide, by decide⟩)) (x_var 1) hl2) (congrArg Dt.int hr2)))))))
      have tst : EvT K ((StI (· = am) Hd H).and (MX K am c cs 0 s)) (wT (un (dCx P w K mg base n33 "_law_draw" (top 33) f cdv A outer sh H E)) (ifTest (stm 33 0))) (startD n33 [.raw (.ref am), .int (lim : Int)]) false :=
        et_is (t_cmp (fun _ => op_gt) (x_mleft (fun _ => hr) (fun _ _ z => z.2) (x_var 0)) x_int rd_ib (nomark _)) (decide_eq_false hp)
      refine c_cons (c_if (tst _ Hd H ex en ⟨.refl ex, hx⟩ _ fun Hd1 H1 s1 => ?_))
      refine c_nil (all _ Hd1 H1 s1.sub (en.mono s1.ud) ⟨s1.nom, (MX K am c cs 0 s).mono s1 hx⟩ _ fun v Hd2 H2 u2 ex2 iv p2 => ?_)
      rw [iv.int_inv]
      exact q r Hd2 H2 hr1 p2.1 ⟨c, cs, _, _, p2.2, hcs, hcl, by omega, by omega, by omega⟩
end
end SP
/-! P13 -/
namespace SP
open PySem PySem.Spec PyProof.Rows L2
/-! ### loops step by step -/
section
variable {K : PySem.W.Frag} {X : Cx} {tg it : Expr} {body : List Stmt} {pos : Pos} {σ : L2.St} {H : Hp} {D : Ends}
theorem c_forX (hit : ∀ R : It → Hp → Prop, (∀ J (ds : List Dt) Hd1 H1, Ex Hd1 H1 → ItOk K J Hd1 ds → (∃ I : Nat → L2.St → Hp → Hp → Prop, I 0 σ Hd1 H1 ∧ (∀ i σ' Hd' H', I i σ' Hd' H' → Ex Hd1 Hd' ∧ Ex Hd' H') ∧
      (∀ i d σ1 Hd2 H2, ds[i]? = some d → I i σ1 Hd2 H2 → ∃ ρ1 ρ2 js, EnvD K Hd2 σ1 ρ1 ∧ GvD K (wG (un X) tg) d ρ1 ρ2 js ∧ ∀ σ2 Hd3 H3, Stp NoM Hd2 H2 Hd3 H3 → EnvD K Hd3 σ2 ρ2 → ∀ D' : Ends, D'.rt = D.rt → (∀ σ3 Hd4 H4, Ex Hd1 Hd4 → I (i + 1) σ3 Hd4 H4 → D'.nx σ3 H4) → wSs (un X) body D' σ2 H3) ∧
      (∀ σ1 Hd2 H2, I ds.length σ1 Hd2 H2 → D.nx σ1 H2)) → R J H1) → wI (un X) tg it σ H R)
    (hp : PassesOwn (model X.prog X.w) X.A X.env X.xe := by exact PassesOwn.never) (hc : X.calm = true := by rfl) (hf : ∀ x, foldedSetIterable it X.env x = pure x := by intro _; rfl) : wS (un X) (.For tg it body [] pos) D σ H := by
  refine c_for ?_ hp hc hf
  refine hit _ fun J ds Hd1 H1 ex ok ⟨I, h0, hsub, hs, he⟩ => ?_
  refine ⟨fun i m σ' H' => i ≤ ds.length ∧ m = ds.length - i ∧ ∃ Hd', I i σ' Hd' H', ⟨ds.length, Nat.zero_le _, rfl, Hd1, h0⟩, ?_⟩
  rintro i m σ' H' ⟨hil, rfl, Hd', hI⟩
  obtain ⟨u1, u2⟩ := hsub i _ _ _ hI
  have ex1 : Ex Hd1 H' := u1.trans u2
  by_cases hlt : i < ds.length
  · have hget : ds[i]? = some ds[i] := List.getElem?_eq_getElem hlt
    obtain ⟨ρ1, ρ2, js, en, hg, hb⟩ := hs i ds[i] σ' Hd' H' hget hI
    refine .inr ⟨ok.go i H' ex1 hlt, fun σ2 H2 => ∃ Hd2, I (i + 1) σ2 Hd2 H2, fun σ2 H2 ⟨Hd2, a⟩ => ⟨ds.length - (i + 1), by omega, hlt, rfl, Hd2, a⟩, fun x H2 y => ?_⟩
    obtain ⟨Hd3, s3, ix⟩ := ok.yld i ds[i] H' x H2 ex1 hget y Hd' u1 u2
    refine hg σ' Hd3 H2 x s3.sub (en.mono s3.ud) ix _ fun σ3 en3 _ => ?_
    exact hb σ3 Hd3 H2 s3 en3 _ rfl fun σ4 Hd4 H4 u4 p4 => ⟨Hd4, p4⟩
  · have hik : i = ds.length := by omega
    subst hik
    exact .inl ⟨ok.stop H' ex1, he σ' Hd' H' hI⟩
end
/-! ### expressions that draw -/
def ER (K : PySem.W.Frag) (am : Addr) (c : Nat) (t : TE) (ρ : Rho) (G : Dt → Prop) : Prop := ∀ (n : Nat) (σ : L2.St) (Hd H : Hp), n + c ≤ 1000000000 → Ex Hd H → EnvD K Hd σ ρ → (MD K am n).p Hd H → ∀ Q : VK, (∀ v d Hd' H', G d → Stp (· = am) Hd H Hd' H' → (MD K am (n + c)).p Hd' H' → Im K Hd' v d → Q v H') → t σ H Q
def ERA (K : PySem.W.Frag) (am : Addr) (c : Nat) (t : TA) (ρ : Rho) (G : List Dt → Prop) : Prop := ∀ (n : Nat) (σ : L2.St) (Hd H : Hp), n + c ≤ 1000000000 → Ex Hd H → EnvD K Hd σ ρ → (MD K am n).p Hd H → ∀ Q : List V → Hp → Prop, (∀ vs ds Hd' H', G ds → Stp (· = am) Hd H Hd' H' → (MD K am (n + c)).p Hd' H' → ImA K Hd' vs ds → Q vs H') → t σ H Q
/-- what is walked, when drawing -/
def ItR (K : PySem.W.Frag) (am : Addr) (c : Nat) (wi : TI) (ρ : Rho) (G : List Dt → Prop) : Prop := ∀ (n : Nat) (σ : L2.St) (Hd H : Hp), n + c ≤ 1000000000 → Ex Hd H → EnvD K Hd σ ρ → (MD K am n).p Hd H → ∀ R : It → Hp → Prop, (∀ J ds Hd' H', G ds → Stp (· = am) Hd H Hd' H' → (MD K am (n + c)).p Hd' H' → ItOk K J Hd' ds → R J H') → wi σ H R
def DSp (K : PySem.W.Frag) (R : List Dt → Nat → (Dt → Prop) → Prop) : Sp := fun vs H Q _ => ∃ (Hd : Hp) (am : Addr) (n : Nat) (us : List V) (ts : List Dt) (c : Nat) (G : Dt → Prop), vs = .ref am :: us ∧ Ex Hd H ∧ (MD K am n).p Hd H ∧ ImA K Hd us ts ∧ R ts c G ∧ n + c ≤ 1000000000 ∧
  ∀ v d Hd' H', G d → Stp (· = am) Hd H Hd' H' → (MD K am (n + c)).p Hd' H' → Im K Hd' v d → Q v H'
section
variable {K : PySem.W.Frag} {am : Addr} {ρ : Rho} {c c1 c2 : Nat} {G G1 G2 : Dt → Prop} {ι : Type} {F : ι → Cx} {e a b : Expr} {es : List Expr} {pos p : Pos} {n : Str} {d x : Dt}
theorem er_is {t : TE} (h : ER K am c t ρ G1) (hc : c ≤ c1) (hG : ∀ d, G1 d → G d) : ER K am c1 t ρ G := fun n σ Hd H hn ex en md Q q => h n σ Hd H (by omega) ex en md Q fun v d Hd' H' g s m i => q v d Hd' H' (hG d g) s (MD.le m (by omega)) i
theorem er_ev {t : TE} (h : EvD K MP.tt t ρ d) : ER K am 0 t ρ (· = d) := fun n σ Hd H hn ex en md Q q => h σ Hd H ex en True.intro Q fun v Hd' H' s i => q v d Hd' H' rfl s.nom ((MD K am n).mono s md) i
theorem er_op {op : Operator} {r : R2} (ho : ∀ i, OpR (F i) (binaryOp op) r) (ha : ER K am c1 (wE F a) ρ G1) (hb : ER K am c2 (wE F b) ρ G2) (hr : ∀ x y, G1 x → G2 y → ∃ z, RD2 K MP.tt r x y z ∧ G z) : ER K am (c1 + c2) (wE F (.BinOp a op b pos)) ρ G := fun n σ Hd H hn ex en md Q q =>
  c_op ho (ha n σ Hd H (by omega) ex en md _ fun v x Hd1 H1 g1 s1 m1 i1 => hb (n + c1) σ Hd1 H1 (by omega) s1.sub (en.mono s1.ud) m1 _ fun u y Hd2 H2 g2 s2 m2 i2 => by
    obtain ⟨z, h1, h2⟩ := hr x y g1 g2
    refine h1 Hd2 H2 v u s2.sub (i1.mono s2.ud) i2 True.intro Q fun w Hd3 H3 s3 i3 => q w z Hd3 H3 h2 ((s1.trans s2).trans s3.nom) ?_ i3
    rw [← Nat.add_assoc]
    exact (MD K am _).mono s3 m2)
theorem er_ix {r : R2} (hix : ∀ i, IxR (F i) r) (ha : ER K am c1 (wE F a) ρ G1) (hb : ER K am c2 (wE F b) ρ G2) (hr : ∀ x y, G1 x → G2 y → ∃ z, RD2 K MP.tt r x y z ∧ G z) (hs : PlainIx b := by exact fun _ _ => rfl) : ER K am (c1 + c2) (wE F (.Subscript a b pos)) ρ G := fun n σ Hd H hn ex en md Q q =>
  c_ix hix (ha n σ Hd H (by omega) ex en md _ fun v x Hd1 H1 g1 s1 m1 i1 => hb (n + c1) σ Hd1 H1 (by omega) s1.sub (en.mono s1.ud) m1 _ fun u y Hd2 H2 g2 s2 m2 i2 => by
    obtain ⟨z, h1, h2⟩ := hr x y g1 g2
    refine h1 Hd2 H2 v u s2.sub (i1.mono s2.ud) i2 True.intro Q fun w Hd3 H3 s3 i3 => q w z Hd3 H3 h2 ((s1.trans s2).trans s3.nom) ?_ i3
    rw [← Nat.add_assoc]
    exact (MD K am _).mono s3 m2) hs
/-- e[:hi] of an exact tuple -/
theorem er_slX {p2 : Pos} (ha : ER K am c1 (wE F a) ρ (fun d => ∃ xs, d = .tux xs ∧ G1 (.tux xs))) (hb : ER K am c2 (wE F b) ρ (fun d => ∃ k : Nat, d = .int (k : Int) ∧ G2 (.int (k : Int)))) (hr : ∀ xs (k : Nat), G1 (.tux xs) → G2 (.int (k : Int)) → G (.tux (cutD xs none (some (k : Int))))) : ER K am (c1 + c2) (wE F (.Subscript a (.Slice none (some b) none p2) pos)) ρ G := fun n σ Hd H hn ex en md Q q =>
  c_slN (fun i => sl_tupX) (ha n σ Hd H (by omega) ex en md _ fun v x Hd1 H1 g1 s1 m1 i1 => hb (n + c1) σ Hd1 H1 (by omega) s1.sub (en.mono s1.ud) m1 _ fun u y Hd2 H2 g2 s2 m2 i2 => by
    obtain ⟨xs, rfl, g1⟩ := g1
    obtain ⟨k, rfl, g2⟩ := g2
    refine ⟨k, i2.int_inv, ?_⟩
    have hx : EvD K MP.tt (tSl (rSlX) (tC v) tNoPart (tPart (tC (.int (k : Int))))) [] (.tux (cutD xs none (some (k : Int)))) → True := fun _ => True.intro
    have q' : EvD K MP.tt (tSl rSlX (tVar 0) tNoPart (tPart (tC (.int (k : Int))))) [some (.tux xs)] (.tux (cutD xs none (some (k : Int)))) := ed_slX ed_var eo_none (eo_some ed_int)
    have := q' [some v] Hd2 H2 s2.sub ⟨rfl, fun i d h => by
      cases i with
      | zero => cases h; exact ⟨v, rfl, i1.mono s2.ud⟩
      | succ i => simp at h⟩ True.intro Q fun w Hd3 H3 s3 i3 => q w _ Hd3 H3 (hr xs k g1 g2) ((s1.trans s2).trans s3.nom) (by rw [← Nat.add_assoc]; exact (MD K am _).mono s3 m2) i3
    obtain ⟨w, hw, h⟩ := this
    cases hw
    obtain ⟨j, hj, h⟩ := h
    cases hj
    exact h)
theorem er_call {k j : Nat} {ps : List Str} {R : List Dt → Nat → (Dt → Prop) → Prop} {ts : List Dt} (C : ∀ i, Cal (F i) n k ps (DSp K R)) (hr : ∀ i, Room j (F i).A) (ha : EvA K MP.tt (wA F (e :: es)) ρ (.raw (.ref am) :: ts)) (hR : R ts c G) (hkj : k ≤ j := by decide) (hg : ∀ i, Gl (F i) n := by intro _; rfl) (hdb : (n == ("__debug__" : Str)) = false := by decide)
    (he : ∀ i, starEach (e :: es) (F i).env = (false, eval e (F i).env) :: starEach es (F i).env := by intro _; rfl) (hpl : ∀ i, (backTo pos (starEach es (F i).env)).any (·.1) = false := by intro _; rfl) : ER K am c (wE F (.Call (.Name n p) (e :: es) [] pos)) ρ G := fun m σ Hd H hn ex en md Q q =>
  c_call C hr (ha σ Hd H ex en True.intro _ fun vs Hd1 H1 s1 i1 => by
    obtain ⟨v, us, rfl, iv, it⟩ := i1.cons_inv
    rw [iv.raw_inv, List.append_nil]
    exact ⟨Hd1, am, m, us, ts, c, G, rfl, s1.sub, (MD K am m).mono s1 md, it, hR, hn, fun w d Hd2 H2 g s2 m2 i2 => q w d Hd2 H2 g (s1.nom.trans s2) m2 i2⟩) hkj hg hdb he hpl
theorem er_draw {lim j : Nat} (C : ∀ i, Cal (F i) "_law_draw" 1 ["_law_m", "_law_limit"] (DrawSp K)) (hr : ∀ i, Room j (F i).A) (ha : EvA K MP.tt (wA F [a, b]) ρ [.raw (.ref am), .int (lim : Int)]) (h0 : 0 < lim) (h1 : lim ≤ 1000000) (hkj : 1 ≤ j := by decide) (hg : ∀ i, Gl (F i) "_law_draw" := by intro _; rfl)
    (he : ∀ i, starEach [a, b] (F i).env = (false, eval a (F i).env) :: starEach [b] (F i).env := by intro _; rfl) (hpl : ∀ i, (backTo pos (starEach [b] (F i).env)).any (·.1) = false := by intro _; rfl) : ER K am 1 (wE F (.Call (.Name "_law_draw" p) [a, b] [] pos)) ρ (fun d => ∃ r : Nat, r < lim ∧ d = .int (r : Int)) := fun m σ Hd H hn ex en md Q q =>
  c_call C hr (ha σ Hd H ex en True.intro _ fun vs Hd1 H1 s1 i1 => by
    obtain ⟨v, us, rfl, iv, it⟩ := i1.cons_inv
    obtain ⟨v2, us2, rfl, iv2, it2⟩ := it.cons_inv
    rw [it2.nil_inv, iv.raw_inv, iv2.int_inv, List.append_nil]
    exact ⟨Hd1, am, m, lim, rfl, s1.sub, (MD K am m).mono s1 md, h0, h1, by omega, fun r Hd2 H2 hr2 s2 m2 => q _ _ Hd2 H2 ⟨r, hr2, rfl⟩ (s1.nom.trans s2) m2 (.int _)⟩) hkj hg (by decide) he hpl
theorem era_nil : ERA K am 0 (wA F []) ρ (· = []) := fun n σ Hd H hn ex en md Q q => c_anil (q [] [] Hd H rfl (.refl ex) md .nil)
theorem era_cons {Gs : List Dt → Prop} (h : ER K am c1 (wE F e) ρ G1) (hr : ERA K am c2 (wA F es) ρ Gs) (hs : ∀ i, starEach (e :: es) (F i).env = (false, eval e (F i).env) :: starEach es (F i).env := by intro _; rfl) : ERA K am (c1 + c2) (wA F (e :: es)) ρ (fun l => ∃ d ds, l = d :: ds ∧ G1 d ∧ Gs ds) := fun n σ Hd H hn ex en md Q q =>
  c_acons (h n σ Hd H (by omega) ex en md _ fun v d Hd1 H1 g1 s1 m1 i1 => hr (n + c1) σ Hd1 H1 (by omega) s1.sub (en.mono s1.ud) m1 _ fun vs ds Hd2 H2 g2 s2 m2 i2 => q _ (d :: ds) Hd2 H2 ⟨d, ds, rfl, g1, g2⟩ (s1.trans s2) (by rw [← Nat.add_assoc]; exact m2) (.cons (i1.mono s2.ud) i2)) hs
theorem era_is {t : TA} {Ga Gb : List Dt → Prop} (h : ERA K am c t ρ Ga) (hc : c ≤ c1) (hG : ∀ d, Ga d → Gb d) : ERA K am c1 t ρ Gb := fun n σ Hd H hn ex en md Q q => h n σ Hd H (by omega) ex en md Q fun v d Hd' H' g s m i => q v d Hd' H' (hG d g) s (MD.le m (by omega)) i
theorem er_tux {x1} {Gs : List Dt → Prop} (h : ERA K am c (wA F es) ρ Gs) (hl : ∀ ds, Gs ds → ds.length ≤ 100000) (hG : ∀ ds, Gs ds → G (.tux ds)) : ER K am c (wE F (.Tuple es x1 pos)) ρ G := fun n σ Hd H hn ex en md Q q =>
  c_tux (h n σ Hd H hn ex en md _ fun vs ds Hd1 H1 g s m i => ⟨by rw [i.length]; exact Nat.le_trans (hl ds g) (by decide), fun p o np ho => by
    have s2 : Stp NoM Hd1 H1 (upd Hd1 p (.frz o (.tup vs))) _ := Stp.new s.sub np
    exact q _ _ _ _ (hG ds g) (s.trans s2.nom) ((MD K am _).mono s2 m) (.tux upd_same ho (i.mono s2.ud))⟩)
theorem er_lst {Gs : List Dt → Prop} (h : ERA K am c (wA F es) ρ Gs) (hl : ∀ ds, Gs ds → ds.length ≤ 100000) (hG : ∀ ds, Gs ds → G (.lst ds)) : ER K am c (wE F (.List es pos)) ρ G := fun n σ Hd H hn ex en md Q q =>
  c_lst (h n σ Hd H hn ex en md _ fun vs ds Hd1 H1 g s m i => ⟨by rw [i.length]; exact Nat.le_trans (hl ds g) (by decide), fun p np => by
    have s2 : Stp NoM Hd1 H1 (upd Hd1 p (.lst vs)) _ := Stp.new s.sub np
    exact q _ _ _ _ (hG ds g) (s.trans s2.nom) ((MD K am _).mono s2 m) (.lst upd_same (i.mono s2.ud))⟩)
/-- a built-in class called, on what was drawn -/
theorem er_ct {T : String} {r : List V → Hp → VK → Prop} (hc : ∀ i, CallR (F i) (.type T) r) (hv : bootBuiltins n = some (.type T)) (hm : ∀ i, (F i).mg n = none) (ha : ER K am c (wE F e) ρ G1) (hr : ∀ x, G1 x → ∃ z, RDC K MP.tt r [x] z ∧ G z) (hg : ∀ i, Gl (F i) n := by intro _; rfl) (hn : n ≠ "__name__" := by decide) (hdb : (n == ("__debug__" : Str)) = false := by decide)
    (he : ∀ i, starEach [e] (F i).env = (false, eval e (F i).env) :: starEach [] (F i).env := by intro _; rfl) (hpl : ∀ i, (backTo pos (starEach [] (F i).env)).any (·.1) = false := by intro _; rfl) : ER K am c (wE F (.Call (.Name n p) [e] [] pos)) ρ G := fun m σ Hd H hn2 ex en md Q q =>
  c_ct hc hv hm (c_acons (ha m σ Hd H hn2 ex en md _ fun v x Hd1 H1 g s1 m1 i1 => c_anil (by
    obtain ⟨z, h1, h2⟩ := hr x g
    exact h1 Hd1 H1 [v] s1.sub (.cons i1 .nil) True.intro Q fun w Hd2 H2 s2 i2 => q w z Hd2 H2 h2 (s1.trans s2.nom) ((MD K am _).mono s2 m1) i2)) he) hg hn hdb he hpl
/-- range(e) -/
theorem ir_rng {tg : Expr} (hm : ∀ i, (F i).mg "range" = none) (h : ER K am c (wE F a) ρ (fun d => ∃ r : Nat, d = .int (r : Int) ∧ G (.int (r : Int)))) (hb : ∀ r : Nat, G (.int (r : Int)) → r ≤ 1000000) (hg : ∀ i, Gl (F i) "range" := by intro _; rfl) (hs : ∀ i, starEach [a] (F i).env = [(false, eval a (F i).env)] := by intro _; rfl) : ItR K am c (wI F tg (.Call (.Name "range" p) [a] [] pos)) ρ (fun ds => ∃ r : Nat, ds = (List.range r).map (fun (k : Nat) => Dt.int (k : Int)) ∧ G (.int (r : Int))) := fun n σ Hd H hn ex en md R q => by
  refine ⟨iRng1 (wA F [a]), fun i => pi_range1 (hg i) (hm i) (wA_ok i) (hs i), ?_⟩
  refine c_acons (h n σ Hd H hn ex en md _ fun v d Hd1 H1 g s1 m1 i1 => c_anil ?_) (by intro i; rw [hs i]; rfl)
  obtain ⟨r, rfl, g⟩ := g
  have hb' := hb r g
  have it : ItD K MP.tt (iRng1 (fun σ H Q => Q [.int (r : Int)] H)) [] ((List.range ((r : Int)).toNat).map fun (k : Nat) => Dt.int (k : Int)) := it_rng (fun σ Hd H e en p Q q => q _ Hd H (.refl e) (.cons (.int _) .nil)) ⟨by omega, by omega⟩
  rw [i1.int_inv]
  have := it [] Hd1 H1 s1.sub ⟨rfl, fun i d h => by simp at h⟩ True.intro R fun J Hd2 H2 s2 ok => q J _ Hd2 H2 ⟨r, by rw [Int.toNat_natCast], g⟩ (s1.trans s2.nom) ((MD K am _).mono s2 m1) ok
  exact this
theorem ir_is {wi : TI} {Ga Gb : List Dt → Prop} (h : ItR K am c wi ρ Ga) (hc : c ≤ c1) (hG : ∀ d, Ga d → Gb d) : ItR K am c1 wi ρ Gb := fun n σ Hd H hn ex en md R q => h n σ Hd H (by omega) ex en md R fun J ds Hd1 H1 g s m ok => q J ds Hd1 H1 (hG ds g) s (MD.le m (by omega)) ok
theorem ir_of {wi : TI} {ds : List Dt} (h : ItD K MP.tt wi ρ ds) : ItR K am 0 wi ρ (· = ds) := fun n σ Hd H hn ex en md R q => h σ Hd H ex en True.intro R fun J Hd1 H1 s ok => q J ds Hd1 H1 rfl s.nom ((MD K am n).mono s md) ok
/-- a comprehension whose elements draw -/
theorem er_lcT {wi : TI} {g : TG} {te : TE} {vs : List Nat} {Gi : List Dt → Prop} {L : Nat} (hi : ItR K am c1 wi ρ Gi) (hL : ∀ ds, Gi ds → ds.length ≤ L) (hL2 : L ≤ 1000)
    (hs : ∀ ds d, Gi ds → d ∈ ds → ∃ ρ1 js, GvD K g d (wipeD ρ vs) ρ1 js ∧ (∀ j ∈ js, j ∈ vs) ∧ ER K am c2 te ρ1 G) : ER K am (c1 + L * c2) (tLc wi g tYes te vs) ρ (fun d => ∃ ds es, Gi ds ∧ d = .lst es ∧ es.length = ds.length ∧ ∀ x ∈ es, G x) := by
  intro n σ Hd H hn ex en md Q q
  refine hi n σ Hd H (by omega) ex en md _ fun J ds Hd1 H1 gi s1 m1 ok => fun Dl hD => ?_
  have hlen := hL ds gi
  have hDn : Hd1 Dl = none := sub_none s1.sub hD
  have hDa : Dl ≠ am := by
    obtain ⟨_, _, _, _, ⟨_, e, _⟩, _⟩ := m1
    exact fun z => by rw [z, e] at hD; cases hD
  have mUp : ∀ {m : Nat} {Hd' H' : Hp} {o : HO}, (MD K am m).p Hd' H' → (MD K am m).p Hd' (upd H' Dl o) := fun {m Hd' H' o} ⟨c, cs, l, s, ⟨h1, h2, h3⟩, h⟩ => ⟨c, cs, l, s, ⟨h1, by rw [upd_ne (Ne.symm hDa)]; exact h2, h3⟩, h⟩
  refine ⟨fun i m H' => i ≤ ds.length ∧ m = ds.length - i ∧ ∃ Hd' acc es, Stp (· = am) Hd1 H1 Hd' H' ∧ (MD K am (n + c1 + i * c2)).p Hd' H' ∧ Hd' Dl = none ∧ H' Dl = some (.lst acc) ∧ ImA K Hd' acc es ∧ es.length = i ∧ ∀ x ∈ es, G x,
    ⟨ds.length, Nat.zero_le _, rfl, Hd1, [], [], .newM s1.sub hD, by rw [Nat.zero_mul, Nat.add_zero]; exact mUp m1, hDn, upd_same, .nil, rfl, fun x h => by simp at h⟩, ?_⟩
  rintro i m H' ⟨hil, rfl, Hd', acc, es, s2, m2, hd, hacc, iacc, hel, hG⟩
  have ex1 : Ex Hd1 H' := s2.ud.trans s2.sub
  by_cases hlt : i < ds.length
  · have hget : ds[i]? = some ds[i] := List.getElem?_eq_getElem hlt
    obtain ⟨ρ1, js, hg, hj, he⟩ := hs ds ds[i] gi (List.getElem_mem hlt)
    refine .inr ⟨ok.go i H' ex1 hlt, fun H2 => ∃ Hd2 acc2 es2, Stp (· = am) Hd1 H1 Hd2 H2 ∧ (MD K am (n + c1 + (i + 1) * c2)).p Hd2 H2 ∧ Hd2 Dl = none ∧ H2 Dl = some (.lst acc2) ∧ ImA K Hd2 acc2 es2 ∧ es2.length = i + 1 ∧ ∀ x ∈ es2, G x, fun H2 ⟨Hd2, acc2, es2, a⟩ => ⟨ds.length - (i + 1), by omega, hlt, rfl, Hd2, acc2, es2, a⟩, fun x H2 y => ?_⟩
    obtain ⟨Hd3, s3, ix⟩ := ok.yld i ds[i] H' x H2 ex1 hget y Hd' s2.ud s2.sub
    refine hg (L2.wipe σ vs) Hd3 H2 x s3.sub ((en.mono (s1.ud.trans (s2.ud.trans s3.ud))).wipe vs) ix _ fun σ3 en3 hw => ⟨?_, ?_⟩
    · rw [hw vs hj]
      exact wipe_wipe fun j h => h
    have hne : H' Dl ≠ none := by rw [hacc]; intro z; cases z
    have hb1 : i * c2 + c2 ≤ L * c2 := by
      rw [← Nat.succ_mul]
      exact Nat.mul_le_mul_right c2 (by omega)
    show te σ3 H2 _
    refine he (n + c1 + i * c2) σ3 Hd3 H2 (by omega) s3.sub en3 ((MD K am _).mono s3 m2) _ fun w d Hd4 H4 gd s4 m4 iw => ?_
    have s34 : Stp (· = am) Hd' H' Hd4 H4 := s3.nom.trans s4
    have hd4 : Hd4 Dl = none := s34.sep Dl hne hd
    refine ⟨acc, s34.up Dl _ hacc hDa, ?_, Hd4, acc ++ [w], es ++ [d], (s2.trans s34).mutNew hD hd4, ?_, hd4, upd_same, (iacc.mono s34.ud).append (.cons iw .nil), by rw [List.length_append, hel]; rfl, fun z hz => ?_⟩
    · rw [iacc.length, hel]
      exact Nat.lt_of_lt_of_le (show i < 100001 by omega) (by decide)
    · rw [Nat.succ_mul, ← Nat.add_assoc]
      exact mUp m4
    · rcases List.mem_append.mp hz with hz | hz
      · exact hG z hz
      · rw [List.mem_singleton.mp hz]; exact gd
  · have hik : i = ds.length := by omega
    subst hik
    refine .inl ⟨ok.stop H' ex1, ?_⟩
    have hb1 : ds.length * c2 ≤ L * c2 := Nat.mul_le_mul_right c2 hlen
    exact q _ (.lst es) (upd Hd' Dl (.lst acc)) H' ⟨ds, es, gi, rfl, hel, hG⟩ (s1.trans (s2.freeze hD hd hacc)) (by
      obtain ⟨c, cs, l, s, ⟨h1, h2, h3⟩, h⟩ := MD.le m2 (show n + c1 + ds.length * c2 ≤ n + (c1 + L * c2) by omega)
      exact ⟨c, cs, l, s, ⟨by rw [upd_ne (Ne.symm hDa)]; exact h1, h2, h3.mono (Ex.new hd)⟩, h⟩) (.lst upd_same (iacc.mono (Ex.new hd)))
/-- [elt for tg in iter], drawing -/
theorem er_lc {X : Cx} {elt iter tg : Expr} {scope : Scope} {N ps : List Str} {sc : Scope} {Gi : List Dt → Prop} (S : FnScope N ps sc) (own : List (Str × Nat)) (L : Nat) (hi : ItR K am c1 (wI (un X) tg iter) ρ Gi) (hL : ∀ ds, Gi ds → ds.length ≤ L) (hL2 : L ≤ 1000)
    (hs : ∀ ds d, Gi ds → d ∈ ds → ∃ ρ1 js, GvD K (wG (blkF X scope) tg) d (wipeD ρ (own.map (·.2))) ρ1 js ∧ (∀ j ∈ js, j ∈ own.map (·.2)) ∧ ER K am c2 (wE (blkF X scope) elt) ρ1 G)
    (hK : X.K = K := by rfl) (hX : X.N = N := by rfl) (hS : X.env.scope = sc := by rfl) (ok : BlkOk N sc scope own := by exact blkOk_by (by decide +kernel)) (hc : X.calm = true := by rfl) (hf : ∀ x, foldedSetIterable iter X.env x = pure x := by intro _; rfl) :
    ER K am (c1 + L * c2) (wE (un X) (.ListComp elt [⟨tg, iter, [], 0⟩] scope pos)) ρ (fun d => ∃ ds es, Gi ds ∧ d = .lst es ∧ es.length = ds.length ∧ ∀ x ∈ es, G x) := by
  subst hK hX hS
  exact fun n σ Hd H hn ex en md Q q => ⟨_, fun _ => pe_lc hc S.nd (wI_ok ()) ok (fun s H C cl fp => wG_ok (F := blkF X scope) (s, H, C, cl, fp)) (fun s H C cl fp => pts_nil) (fun s H C cl fp => wE_ok (F := blkF X scope) (s, H, C, cl, fp)) hf, er_lcT hi hL hL2 hs n σ Hd H hn ex en md Q q⟩
end
end SP
/-! N1 -/
namespace SP
open PySem L2
/-! ### the row of coins -/
def cycAt (f : List Nat) (i : Nat) : Nat := f.getD (i % f.length) 0
def coinAt : List Run → Nat → Nat
  | [], _ => 0
  | (none, f) :: _, i => cycAt f i
  | (some s, f) :: rs, i => if i < s then cycAt f i else coinAt rs (i - s)
def rowOf (rs : List Run) (n : Nat) : List Nat := (List.range n).map (coinAt rs)
def cycRow (f : List Nat) (n : Nat) : List Nat := (List.range n).map (cycAt f)
theorem cyc_succ (f : List Nat) (n : Nat) : cycRow f (n + 1) = cycRow f n ++ [cycAt f n] := by
  unfold cycRow; rw [List.range_succ, List.map_append]; rfl
theorem row_succ (rs : List Run) (n : Nat) : rowOf rs (n + 1) = rowOf rs n ++ [coinAt rs n] := by
  unfold rowOf; rw [List.range_succ, List.map_append]; rfl
theorem row_len (rs : List Run) (n : Nat) : (rowOf rs n).length = n := by simp [rowOf]
theorem cyc_len (f : List Nat) (n : Nat) : (cycRow f n).length = n := by simp [cycRow]
theorem take_cyc {f : List Nat} {t : Nat} (h : t < f.length) : f.take (t + 1) = f.take t ++ [f.getD t 0] := by
  rw [List.take_add_one, List.getD_eq_getElem?_getD, List.getElem?_eq_getElem h]
  rfl
theorem countIn_succ (f : List Nat) (c n : Nat) (hf : 1 ≤ f.length) : countIn f c (n + 1) = countIn f c n + (if cycAt f n = c then 1 else 0) := by
  unfold countIn cycAt
  have ht : n % f.length < f.length := Nat.mod_lt _ hf
  have hd : f.length * (n / f.length) + n % f.length = n := Nat.div_add_mod n f.length
  have e1 : (f.take (n % f.length + 1)).count c = (f.take (n % f.length)).count c + (if f.getD (n % f.length) 0 = c then 1 else 0) := by
    rw [take_cyc ht, List.count_append, List.count_cons, List.count_nil, Nat.zero_add]
    congr 1
    by_cases z : f.getD (n % f.length) 0 = c
    · simp [z]
    · rw [if_neg z, if_neg (by simpa using z)]
  generalize hq : n / f.length = q at *
  generalize hr : n % f.length = t at *
  have hn : n = f.length * q + t := hd.symm
  by_cases h : t + 1 < f.length
  · have q1 : (n + 1) / f.length = q := by
      rw [hn, Nat.add_assoc, Nat.mul_add_div (by omega), Nat.div_eq_of_lt h, Nat.add_zero]
    have r1 : (n + 1) % f.length = t + 1 := by
      rw [hn, Nat.add_assoc, Nat.mul_add_mod, Nat.mod_eq_of_lt h]
    rw [q1, r1, e1]
    omega
  · have et : t + 1 = f.length := by omega
    have q1 : (n + 1) / f.length = q + 1 := by
      rw [hn, Nat.add_assoc, et, ← Nat.mul_succ, Nat.mul_div_cancel_left _ (by omega)]
    have r1 : (n + 1) % f.length = 0 := by
      rw [hn, Nat.add_assoc, et, ← Nat.mul_succ, Nat.mul_mod_right]
    rw [q1, r1, List.take_zero, List.count_nil, Nat.add_zero]
    rw [et, List.take_length] at e1
    rw [Nat.succ_mul, e1]
    omega
theorem countIn_zero' (f : List Nat) (c : Nat) : countIn f c 0 = 0 := by simp [countIn]
theorem countIn_row (f : List Nat) (c : Nat) (hf : 1 ≤ f.length) : ∀ n, countIn f c n = (cycRow f n).count c
  | 0 => by rw [countIn_zero']; rfl
  | n + 1 => by
    rw [countIn_succ f c n hf, countIn_row f c hf n, cyc_succ, List.count_append, List.count_cons, List.count_nil, Nat.zero_add]
    congr 1
    by_cases z : cycAt f n = c
    · simp [z]
    · rw [if_neg z, if_neg (by simpa using z)]
/-- the runs end with an endless one -/
def Endless : List Run → Prop
  | [] => False
  | [(s, f)] => s = none ∧ 1 ≤ f.length
  | (s, f) :: r :: rs => (∃ n, s = some n) ∧ 1 ≤ f.length ∧ Endless (r :: rs)
theorem runs_endless {k : Nat} : ∀ {rs : List Run}, RunsOk k rs → Endless rs
  | [], h => h
  | [(s, f)], h => ⟨h.1, h.2.1⟩
  | (s, f) :: r :: rs, h => ⟨let ⟨n, e, _⟩ := h.1; ⟨n, e⟩, h.2.1.1, runs_endless h.2.2⟩
theorem countBy_cons (r : Run) (rs : List Run) (c n : Nat) : countBy (r :: rs) c n = countIn r.2 c (partOf r n) + countBy rs c (n - partOf r n) := by
  unfold countBy
  rw [parts_cons, List.zip_cons_cons, List.map_cons, List.sum_cons]
theorem countBy_zero (c : Nat) : ∀ rs : List Run, countBy rs c 0 = 0
  | [] => rfl
  | (s, f) :: rs => by
    rw [countBy_cons]
    cases s with
    | none => simp [partOf, countIn_zero', countBy_zero c rs]
    | some m => simp [partOf, countIn_zero', countBy_zero c rs]
theorem row_none (f : List Nat) (rs : List Run) (n : Nat) : rowOf ((none, f) :: rs) n = cycRow f n := rfl
theorem row_some (s : Nat) (f : List Nat) (rs : List Run) (n : Nat) : rowOf ((some s, f) :: rs) n = cycRow f (min n s) ++ rowOf rs (n - min n s) := by
  induction n with
  | zero => simp [rowOf, cycRow]
  | succ n ih =>
    rw [row_succ, ih]
    by_cases h : n < s
    · rw [Nat.min_eq_left (by omega), Nat.min_eq_left (by omega), cyc_succ, Nat.sub_self, Nat.sub_self]
      simp [rowOf, coinAt, h]
    · rw [Nat.min_eq_right (by omega), Nat.min_eq_right (by omega), show n + 1 - s = (n - s) + 1 by omega, row_succ]
      simp [coinAt, h]
theorem countBy_row : ∀ (rs : List Run) (c n : Nat), Endless rs → countBy rs c n = (rowOf rs n).count c
  | [], _, _, h => h.elim
  | [(s, f)], c, n, h => by
    obtain ⟨rfl, hf⟩ := h
    rw [countBy_cons, row_none]
    simp [partOf, countBy_zero, countIn_row f c hf]
  | (s, f) :: r :: rs, c, n, h => by
    obtain ⟨⟨m, rfl⟩, hf, h⟩ := h
    rw [countBy_cons, row_some, List.count_append, countIn_row f c hf, countBy_row (r :: rs) c _ h]
    rfl
theorem countBy_succ {rs : List Run} (h : Endless rs) (c n : Nat) : countBy rs c (n + 1) = countBy rs c n + (if coinAt rs n = c then 1 else 0) := by
  rw [countBy_row _ _ _ h, countBy_row _ _ _ h, row_succ, List.count_append, List.count_cons, List.count_nil, Nat.zero_add]
  congr 1
  by_cases z : coinAt rs n = c
  · simp [z]
  · rw [if_neg z, if_neg (by simpa using z)]
theorem countBy_up {rs : List Run} (h : Endless rs) (c n : Nat) : ∀ m, countBy rs c n ≤ countBy rs c (n + m)
  | 0 => Nat.le_refl _
  | m + 1 => by
    have := countBy_up h c n m
    rw [← Nat.add_assoc, countBy_succ h]
    omega
/-! ### reach -/
theorem place_at (c : Nat) : ∀ (f : List Nat) (k t : Nat), t < f.length → f.getD t 0 = c → (((f.zipIdx k).filter fun p => p.1 == c).map Prod.snd).getD ((f.take t).count c) 0 = k + t
  | [], _, _, h, _ => by simp at h
  | a :: r, k, 0, _, e => by
    have e' : a = c := by simpa using e
    rw [List.zipIdx_cons, List.filter_cons]
    simp [e']
  | a :: r, k, t + 1, h, e => by
    have ih := place_at c r (k + 1) t (by simpa using h) (by simpa using e)
    rw [List.zipIdx_cons, List.filter_cons, List.take_succ_cons, List.count_cons]
    by_cases z : a == c
    · simp only [z, if_true, List.map_cons, List.getD_cons_succ]
      rw [ih]
      omega
    · have z' : (a == c) = false := by simpa using z
      simp only [z', Bool.false_eq_true, if_false, Nat.add_zero]
      rw [ih]
      omega
/-- the coin number m of c stands at i in the endless row of f -/
theorem found_cyc {f : List Nat} {c i m : Nat} (hf : 1 ≤ f.length) (hc : cycAt f i = c) (hm : countIn f c i + 1 = m) : 0 < f.count c ∧ (m - 1) / f.count c * f.length + (placesOf c f).getD ((m - 1) % f.count c) 0 = i := by
  have ht : i % f.length < f.length := Nat.mod_lt _ hf
  have hcnt : (f.take (i % f.length)).count c + 1 ≤ f.count c := by
    have h1 : (f.take (i % f.length + 1)).count c = (f.take (i % f.length)).count c + 1 := by
      rw [take_cyc ht, List.count_append]
      have : f.getD (i % f.length) 0 = c := hc
      rw [this]
      simp
    have h2 := List.Sublist.count_le c (List.take_sublist (i % f.length + 1) f)
    omega
  have h0 : 0 < f.count c := by omega
  refine ⟨h0, ?_⟩
  have em : m - 1 = f.count c * (i / f.length) + (f.take (i % f.length)).count c := by
    unfold countIn at hm
    rw [Nat.mul_comm (f.count c)]
    omega
  have hp := place_at c f 0 (i % f.length) ht hc
  have hd := Nat.div_add_mod i f.length
  unfold placesOf
  generalize i / f.length = q at em hd
  generalize (f.take (i % f.length)).count c = u at em hp hcnt
  rw [em, Nat.mul_add_div h0, Nat.mul_add_mod, Nat.div_eq_of_lt (show u < f.count c by omega), Nat.mod_eq_of_lt (show u < f.count c by omega), Nat.add_zero, hp, Nat.zero_add, Nat.mul_comm]
  exact hd
theorem countIn_up {f : List Nat} (hf : 1 ≤ f.length) (c n : Nat) : ∀ m, countIn f c n ≤ countIn f c (n + m)
  | 0 => Nat.le_refl _
  | m + 1 => by
    have := countIn_up hf c n m
    rw [← Nat.add_assoc, countIn_succ f c _ hf]
    omega
theorem countIn_le {f : List Nat} (hf : 1 ≤ f.length) (c : Nat) {n m : Nat} (h : n ≤ m) : countIn f c n ≤ countIn f c m := by
  have := countIn_up hf c n (m - n)
  rwa [Nat.add_sub_cancel' h] at this
theorem reach_hit : ∀ (rs : List Run) (c i b m : Nat), Endless rs → coinAt rs i = c → countBy rs c i + 1 = m → reachGo c rs (b, m) = some (b + i + 1)
  | [], _, _, _, _, h, _, _ => h.elim
  | [(s, f)], c, i, b, m, h, hc, hm => by
    obtain ⟨rfl, hf⟩ := h
    rw [countBy_cons] at hm
    simp [partOf, countBy_zero] at hm
    obtain ⟨h0, e⟩ := found_cyc hf hc hm
    rw [reach_cons, if_pos (by simp [hitR, h0])]
    unfold foundR
    show some (b + (m - 1) / f.count c * f.length + (placesOf c f).getD ((m - 1) % f.count c) 0 + 1) = _
    rw [Nat.add_assoc b, e]
  | (s, f) :: r :: rs, c, i, b, m, h, hc, hm => by
    obtain ⟨⟨n, rfl⟩, hf, h⟩ := h
    rw [countBy_cons] at hm
    simp only [partOf] at hm
    by_cases hi : i < n
    · have hc' : cycAt f i = c := by simpa [coinAt, hi] using hc
      rw [Nat.min_eq_left (by omega), Nat.sub_self, countBy_zero, Nat.add_zero] at hm
      obtain ⟨h0, e⟩ := found_cyc hf hc' hm
      have hle : m ≤ countIn f c n := by
        have h1 := countIn_succ f c i hf
        rw [if_pos hc'] at h1
        have h2 := countIn_le hf c (show i + 1 ≤ n by omega)
        omega
      rw [reach_cons, if_pos (by simp [hitR, h0, hle])]
      unfold foundR
      show some (b + (m - 1) / f.count c * f.length + (placesOf c f).getD ((m - 1) % f.count c) 0 + 1) = _
      rw [Nat.add_assoc b, e]
    · have hc' : coinAt (r :: rs) (i - n) = c := by simpa [coinAt, hi] using hc
      rw [Nat.min_eq_right (by omega)] at hm
      have ih := reach_hit (r :: rs) c (i - n) (b + n) (m - countIn f c n) h hc' (by omega)
      rw [reach_cons, if_neg (by
        simp only [hitR, Bool.and_eq_true, decide_eq_true_eq]
        show ¬ (0 < f.count c ∧ m ≤ countIn f c n)
        omega)]
      show reachGo c (r :: rs) (b + n, m - countIn f c n) = _
      rw [ih]
      congr 1
      omega
theorem countIn_same {f : List Nat} (hf : 1 ≤ f.length) {c n : Nat} : ∀ m, (∀ i, n ≤ i → i < n + m → cycAt f i ≠ c) → countIn f c (n + m) = countIn f c n
  | 0, _ => rfl
  | m + 1, h => by
    rw [← Nat.add_assoc, countIn_succ f c _ hf, if_neg (h (n + m) (by omega) (by omega)), Nat.add_zero]
    exact countIn_same hf m fun i h1 h2 => h i h1 (by omega)
theorem reach_none : ∀ (rs : List Run) (c n b : Nat), Endless rs → (∀ i, n ≤ i → coinAt rs i ≠ c) → reachGo c rs (b, countBy rs c n + 1) = none
  | [], _, _, _, h, _ => h.elim
  | [(s, f)], c, n, b, h, hn => by
    obtain ⟨rfl, hf⟩ := h
    have h0 : f.count c = 0 := by
      rw [List.count_eq_zero]
      intro hm
      obtain ⟨t, ht, e⟩ := List.getElem_of_mem hm
      have := hn (n * f.length + t) (by
        have : n * 1 ≤ n * f.length := Nat.mul_le_mul_left n hf
        omega)
      refine this ?_
      show cycAt f _ = c
      unfold cycAt
      rw [Nat.mul_comm, Nat.mul_add_mod, Nat.mod_eq_of_lt ht, List.getD_eq_getElem?_getD, List.getElem?_eq_getElem ht]
      exact e
    rw [reach_cons, if_neg (by simp [hitR, h0])]
    rfl
  | (s, f) :: r :: rs, c, n, b, h, hn => by
    obtain ⟨⟨z, rfl⟩, hf, h⟩ := h
    have hrest : ∀ i, n - z ≤ i → coinAt (r :: rs) i ≠ c := fun i hi => by
      have := hn (i + z) (by omega)
      simpa [coinAt, show ¬ i + z < z by omega] using this
    have ih := reach_none (r :: rs) c (n - z) (b + z) h hrest
    rw [countBy_cons]
    simp only [partOf]
    by_cases hz : n < z
    · rw [Nat.min_eq_left (by omega), Nat.sub_self, countBy_zero, Nat.add_zero]
      have es : countIn f c z = countIn f c n := by
        have := countIn_same (c := c) (n := n) hf (z - n) fun i h1 h2 => by
          have := hn i h1
          simpa [coinAt, show i < z by omega] using this
        rwa [Nat.add_sub_cancel' (by omega)] at this
      rw [reach_cons, if_neg (by
        simp only [hitR, Bool.and_eq_true, decide_eq_true_eq]
        show ¬ (0 < f.count c ∧ countIn f c n + 1 ≤ countIn f c z)
        omega)]
      show reachGo c (r :: rs) (b + z, countIn f c n + 1 - countIn f c z) = none
      rw [show n - z = 0 by omega, countBy_zero] at ih
      rw [show countIn f c n + 1 - countIn f c z = 0 + 1 by omega]
      exact ih
    · rw [Nat.min_eq_right (by omega)]
      rw [reach_cons, if_neg (by
        simp only [hitR, Bool.and_eq_true, decide_eq_true_eq]
        show ¬ (0 < f.count c ∧ countIn f c z + countBy (r :: rs) c (n - z) + 1 ≤ countIn f c z)
        omega)]
      show reachGo c (r :: rs) (b + z, countIn f c z + countBy (r :: rs) c (n - z) + 1 - countIn f c z) = none
      rw [show countIn f c z + countBy (r :: rs) c (n - z) + 1 - countIn f c z = countBy (r :: rs) c (n - z) + 1 by omega]
      exact ih
/-- where the endless run begins -/
def beginOf : List Run → Nat
  | [] => 0
  | (none, _) :: _ => 0
  | (some s, _) :: rs => s + beginOf rs
/-- behind the beginning the row repeats: sixty coins tell all -/
theorem window : ∀ (rs : List Run) (c n : Nat), Endless rs → (∀ r ∈ rs, r.2.length ≤ 60) → beginOf rs ≤ n → (∀ i, n ≤ i → i < n + 60 → coinAt rs i ≠ c) → ∀ i, n ≤ i → coinAt rs i ≠ c
  | [], _, _, h, _, _, _ => h.elim
  | [(s, f)], c, n, h, hl, hb, hw => by
    obtain ⟨rfl, hf⟩ := h
    have h60 : f.length ≤ 60 := hl (none, f) (by simp)
    intro i hi
    have key : ∃ j, n ≤ j ∧ j < n + f.length ∧ j % f.length = i % f.length := by
      refine ⟨n + (i - n) % f.length, by omega, ?_, ?_⟩
      · have := Nat.mod_lt (i - n) hf
        omega
      · rw [Nat.add_mod, Nat.mod_mod, ← Nat.add_mod, Nat.add_sub_cancel' hi]
    obtain ⟨j, h1, h2, h3⟩ := key
    have := hw j h1 (by omega)
    simpa [coinAt, cycAt, h3] using this
  | (s, f) :: r :: rs, c, n, h, hl, hb, hw => by
    obtain ⟨⟨z, rfl⟩, hf, h⟩ := h
    have hb' : z + beginOf (r :: rs) ≤ n := hb
    intro i hi
    have ih := window (r :: rs) c (n - z) h (fun x hx => hl x (List.mem_cons_of_mem _ hx)) (by omega) (fun j h1 h2 => by
      have := hw (j + z) (by omega) (by omega)
      simpa [coinAt, show ¬ j + z < z by omega] using this) (i - z) (by omega)
    simpa [coinAt, show ¬ i < z by omega] using ih
end SP
/-! N2 -/
namespace SP
open PySem L2
/-! ### names in order -/
def ltS (a b : Str) : Prop := a.cps.toList < b.cps.toList
instance (a b : Str) : Decidable (ltS a b) := inferInstanceAs (Decidable (a.cps.toList < b.cps.toList))
theorem ltS_total {a b : Str} (h : ¬ ltS a b) (h2 : ¬ ltS b a) : a = b := str_ext (List.le_antisymm (List.not_lt.mp h2) (List.not_lt.mp h))
theorem ltS_irrefl (a : Str) : ¬ ltS a a := List.lt_irrefl _
theorem ltS_trans {a b c : Str} (h : ltS a b) (k : ltS b c) : ltS a c := List.lt_trans h k
def insS (n : Str) : List Str → List Str
  | [] => [n]
  | a :: r => if ltS n a then n :: a :: r else a :: insS n r
def sortS : List Str → List Str
  | [] => []
  | a :: r => insS a (sortS r)
theorem insS_perm (n : Str) : ∀ l : List Str, (insS n l).Perm (n :: l)
  | [] => .refl _
  | a :: r => by
    unfold insS
    split
    · exact .refl _
    · exact ((insS_perm n r).cons a).trans (.swap n a r)
theorem sortS_perm : ∀ l : List Str, (sortS l).Perm l
  | [] => .refl _
  | a :: r => (insS_perm a _).trans ((sortS_perm r).cons a)
theorem insS_sort {n : Str} : ∀ {l : List Str}, l.Pairwise ltS → n ∉ l → (insS n l).Pairwise ltS
  | [], _, _ => by simp [insS]
  | a :: r, h, hn => by
    obtain ⟨h1, h2⟩ := List.pairwise_cons.mp h
    unfold insS
    split
    · rename_i hlt
      refine List.pairwise_cons.mpr ⟨fun b hb => ?_, h⟩
      rcases List.mem_cons.mp hb with e | hb
      · rw [e]; exact hlt
      · exact ltS_trans hlt (h1 b hb)
    · rename_i hlt
      refine List.pairwise_cons.mpr ⟨fun b hb => ?_, insS_sort h2 fun z => hn (List.mem_cons_of_mem _ z)⟩
      rcases List.mem_cons.mp ((insS_perm n r).subset hb) with e | hb
      · subst e
        cases Decidable.em (ltS a b) with
        | inl h => exact h
        | inr h => exact absurd (ltS_total hlt h) (fun z => hn (by rw [z]; exact List.mem_cons_self))
      · exact h1 b hb
theorem sortS_sort : ∀ {l : List Str}, l.Nodup → (sortS l).Pairwise ltS
  | [], _ => .nil
  | a :: r, h => by
    obtain ⟨h1, h2⟩ := List.nodup_cons.mp h
    exact insS_sort (sortS_sort h2) fun z => h1 ((sortS_perm r).subset z)
theorem pair_nodup {l : List Str} (h : l.Pairwise ltS) : l.Nodup := by
  rw [List.nodup_iff_pairwise_ne]
  exact h.imp fun {a b} hab e => by
    subst e
    exact ltS_irrefl _ hab
/-- two orders of one set of names -/
theorem sortS_unique : ∀ {xs ys : List Str}, xs.Perm ys → ys.Pairwise ltS → xs.Pairwise (fun a b => ¬ ltS b a) → xs = ys
  | [], ys, p, _, _ => by rw [List.nil_perm.mp p]
  | x :: xs, ys, p, sy, sx => by
    cases ys with
    | nil => exact absurd p.length_eq (by simp)
    | cons y ys =>
      have hx : x ∈ y :: ys := p.subset List.mem_cons_self
      have hy : y ∈ x :: xs := p.symm.subset List.mem_cons_self
      have e : x = y := by
        rcases List.mem_cons.mp hx with e | hx
        · exact e
        · rcases List.mem_cons.mp hy with e | hy
          · exact e.symm
          · exact absurd ((List.pairwise_cons.mp sy).1 x hx) ((List.pairwise_cons.mp sx).1 y hy)
      subst e
      rw [sortS_unique (List.Perm.cons_inv p) (List.pairwise_cons.mp sy).2 (List.pairwise_cons.mp sx).2]
theorem rising_pair : ∀ (l : List Str) (p : Str), PyProof.Rows.risingS p l = true → (p :: l).Pairwise (fun a b => ¬ ltS b a)
  | [], _, _ => by simp
  | x :: r, p, h => by
    unfold PyProof.Rows.risingS at h
    rw [Bool.and_eq_true, PyProof.Rows.ltCps_eq] at h
    have h1 : ¬ ltS x p := by simpa [ltS] using h.1
    have ih := rising_pair r x h.2
    refine List.pairwise_cons.mpr ⟨fun b hb => ?_, ih⟩
    rcases List.mem_cons.mp hb with e | hb
    · rw [e]; exact h1
    · have h2 := (List.pairwise_cons.mp ih).1 b hb
      intro z
      have h3 : x.cps.toList ≤ b.cps.toList := List.not_lt.mp h2
      have h4 : p.cps.toList ≤ x.cps.toList := List.not_lt.mp h1
      exact absurd z (List.not_lt.mpr (List.le_trans h4 h3))
theorem sorted_is {l ys : List Str} (hl : l.Nodup) (hp : ys.Perm l) (hs : PyProof.Rows.sortedS ys = true) : ys = sortS l := by
  refine sortS_unique (hp.trans (sortS_perm l).symm) (sortS_sort hl) ?_
  cases ys with
  | nil => exact .nil
  | cons a r => exact rising_pair r a hs
/-! ### lookups -/
theorem getN_put {l : Cnt} {n m : Str} {k : Nat} : getN (putN l n k) m = if n = m then some k else getN l m := by
  unfold putN
  split
  · rename_i h
    have key : ∀ l : Cnt, getN (l.map fun p => if p.1 = n then (p.1, k) else p) m = if n = m then (getN l m).map (fun _ => k) else getN l m := fun l => by
      induction l with
      | nil => simp [getN]
      | cons p r ih =>
        obtain ⟨a, j⟩ := p
        rw [List.map_cons]
        by_cases e : a = n
        · subst e
          simp only [if_true, getN]
          by_cases e2 : a = m
          · simp [e2]
          · simp only [e2, if_false]
            rw [ih, if_neg e2]
        · simp only [e, if_false, getN]
          by_cases e2 : a = m
          · subst e2
            simp [Ne.symm e]
          · simp only [e2, if_false]
            exact ih
    rw [key]
    by_cases e : n = m
    · subst e
      rw [if_pos rfl, if_pos rfl]
      cases z : getN l n with
      | none => rw [z] at h; cases h
      | some j => rfl
    · rw [if_neg e, if_neg e]
  · rename_i h
    have h' : getN l n = none := by
      cases z : getN l n with
      | none => rfl
      | some j => rw [z] at h; exact absurd rfl h
    have key : ∀ l : Cnt, getN l n = none → getN (l ++ [(n, k)]) m = if n = m then some k else getN l m := fun l => by
      induction l with
      | nil => intro _; simp [getN]
      | cons p r ih =>
        obtain ⟨a, j⟩ := p
        intro hz
        have e : a ≠ n := fun e => by simp [getN, e] at hz
        have hz' : getN r n = none := by simpa [getN, e] using hz
        rw [List.cons_append]
        by_cases e2 : a = m
        · subst e2
          simp [getN, Ne.symm e]
        · simp only [getN, e2, if_false]
          exact ih hz'
    exact key l h'
theorem getN_add {l : Cnt} {n m : Str} {c : Nat} : getN (addN l n c) m = if n = m then some ((getN l n).getD 0 + c) else getN l m := getN_put
def sumN (ps : List (Str × Nat)) (n : Str) : Nat := ((ps.filter fun p => decide (p.1 = n)).map (·.2)).sum
theorem sumN_cons (p : Str × Nat) (ps : List (Str × Nat)) (n : Str) : sumN (p :: ps) n = (if p.1 = n then p.2 else 0) + sumN ps n := by
  unfold sumN
  rw [List.filter_cons]
  by_cases h : p.1 = n
  · simp [h]
  · simp [h]
theorem sumN_none {ps : List (Str × Nat)} {n : Str} (h : n ∉ keysN ps) : sumN ps n = 0 := by
  induction ps with
  | nil => rfl
  | cons p r ih =>
    rw [sumN_cons, ih (fun z => h (List.mem_cons_of_mem _ z)), if_neg (fun z => h (by rw [← z]; exact List.mem_cons_self))]
theorem getN_all (m : Str) : ∀ (ps : List (Str × Nat)) (l : Cnt), getN (addAll l ps) m = if m ∈ keysN ps then some ((getN l m).getD 0 + sumN ps m) else getN l m
  | [], l => by simp [addAll, keysN]
  | (n, c) :: r, l => by
    show getN (addAll (addN l n c) r) m = _
    rw [getN_all m r, getN_add, sumN_cons]
    have hk : m ∈ keysN ((n, c) :: r) ↔ m = n ∨ m ∈ keysN r := by simp [keysN]
    by_cases e : n = m
    · subst e
      rw [if_pos rfl, if_pos (hk.mpr (.inl rfl))]
      simp only [if_true, Option.getD_some]
      by_cases h : n ∈ keysN r
      · rw [if_pos h, Nat.add_assoc]
      · rw [if_neg h, sumN_none h, Nat.add_zero]
    · rw [if_neg e]
      by_cases h : m ∈ keysN r
      · rw [if_pos h, if_pos (hk.mpr (.inr h))]
        simp [e]
      · rw [if_neg h, if_neg (fun z => (hk.mp z).elim (fun z => e z.symm) h)]
theorem getN_mem {p : Str × Nat} : ∀ {l : Cnt}, (keysN l).Nodup → (p ∈ l ↔ getN l p.1 = some p.2)
  | [], _ => by simp [getN]
  | (a, k) :: r, h => by
    obtain ⟨h1, h2⟩ := List.nodup_cons.mp (show (a :: keysN r).Nodup from h)
    have ih := getN_mem (p := p) h2
    obtain ⟨n, c⟩ := p
    rw [List.mem_cons, ih]
    show (n, c) = (a, k) ∨ getN r n = some c ↔ (if a = n then some k else getN r n) = some c
    by_cases e : a = n
    · subst e
      rw [if_pos rfl]
      have : getN r a = none := getN_none.mpr h1
      rw [this]
      simp [eq_comm]
    · rw [if_neg e]
      have : ¬ n = a := fun z => e z.symm
      simp [this]
theorem nodup_of_keys {l : Cnt} (h : (keysN l).Nodup) : l.Nodup := by
  rw [List.nodup_iff_pairwise_ne]
  have : l.Pairwise (fun a b => a.1 ≠ b.1) := by
    have := h
    rw [List.nodup_iff_pairwise_ne] at this
    exact List.pairwise_map.mp this
  exact this.imp fun {a b} h e => h (by rw [e])
theorem perm_get {l m : Cnt} (hl : (keysN l).Nodup) (hm : (keysN m).Nodup) (h : ∀ n, getN l n = getN m n) : l.Perm m :=
  (List.perm_ext_iff_of_nodup (nodup_of_keys hl) (nodup_of_keys hm)).mpr fun p => by rw [getN_mem hl, getN_mem hm, h]
theorem keys_put {l : Cnt} {n : Str} {k : Nat} : keysN (putN l n k) = if n ∈ keysN l then keysN l else keysN l ++ [n] := by
  unfold putN
  by_cases h : n ∈ keysN l
  · have hs : (getN l n).isSome = true := by
      cases z : getN l n with
      | none => exact absurd h (getN_none.mp z)
      | some j => rfl
    rw [if_pos hs, if_pos h]
    unfold keysN
    rw [List.map_map]
    refine List.map_congr_left fun p _ => ?_
    show (if p.1 = n then (p.1, k) else p).1 = p.1
    split <;> rfl
  · have hs : ¬ (getN l n).isSome = true := by rw [getN_none.mpr h]; simp
    rw [if_neg hs, if_neg h]
    simp [keysN]
theorem keys_all_in : ∀ (ps : List (Str × Nat)) (l : Cnt), (∀ n ∈ keysN ps, n ∈ keysN l) → keysN (addAll l ps) = keysN l
  | [], l, _ => rfl
  | (n, c) :: r, l, h => by
    have e : keysN (addN l n c) = keysN l := by
      unfold addN
      rw [keys_put, if_pos (h n List.mem_cons_self)]
    show keysN (addAll (addN l n c) r) = _
    rw [keys_all_in r _ (fun m hm => by rw [e]; exact h m (List.mem_cons_of_mem _ hm)), e]
theorem keys_all_nodup : ∀ (ps : List (Str × Nat)) (l : Cnt), (keysN l).Nodup → (keysN (addAll l ps)).Nodup
  | [], l, h => h
  | (n, c) :: r, l, h => by
    refine keys_all_nodup r (addN l n c) ?_
    unfold addN
    rw [keys_put]
    split
    · exact h
    · rename_i hn
      rw [List.nodup_append]
      exact ⟨h, by simp, fun a ha b hb e => by
        rw [List.mem_singleton] at hb
        subst hb e
        exact hn ha⟩
theorem sumN_ones (ns : List Str) (n : Str) : sumN (ns.map fun m => (m, 1)) n = ns.count n := by
  induction ns with
  | nil => rfl
  | cons a r ih =>
    rw [List.map_cons, sumN_cons, ih, List.count_cons]
    by_cases h : a = n
    · simp [h]; omega
    · simp [h]
theorem keys_ones (ns : List Str) : keysN (ns.map fun m => (m, 1)) = ns := by
  unfold keysN
  rw [List.map_map]
  exact List.map_id' ns
theorem getN_zero (ns : List Str) (n : Str) : getN (zeroHad ns) n = if n ∈ ns then some 0 else none := by
  induction ns with
  | nil => rfl
  | cons a r ih =>
    show (if a = n then some 0 else getN (zeroHad r) n) = _
    rw [ih]
    by_cases h : a = n
    · simp [h]
    · have : ¬ n = a := fun z => h z.symm
      simp [h, this]
theorem keys_zero (ns : List Str) : keysN (zeroHad ns) = ns := by
  unfold keysN zeroHad
  rw [List.map_map]
  exact List.map_id' ns
end SP
/-! N3 -/
namespace SP
open PySem L2
/-! ### the deeds -/
inductive Deed where
  | deal (d : Deal)
  | pay (n : Nat)
/-- whose coins the n coins behind the first m are -/
def coinsOf (d : Deal) (m n : Nat) : List Str := ((rowOf d.runs (m + n)).drop m).map fun c => d.names.getD c ""
structure FS where
  deal : Deal
  dealt : Nat
  paid : Nat
  coins : List Str
def fs0 : FS := ⟨⟨[], []⟩, 0, 0, []⟩
def fsStep (s : FS) : Deed → FS
  | .deal d => ⟨d, 0, s.paid, s.coins⟩
  | .pay n => ⟨s.deal, s.dealt + n, s.paid + n, s.coins ++ coinsOf s.deal s.dealt n⟩
def fsOf (film : List Deed) : FS := film.foldl fsStep fs0
def seenStep (acc : List Str) : Deed → List Str
  | .deal d => acc ++ d.names.filter fun n => !decide (n ∈ acc)
  | .pay _ => acc
def seenOf (film : List Deed) : List Str := film.foldl seenStep []
def namesOf (film : List Deed) : List Str := sortS (seenOf film)
def ones (ns : List Str) : List (Str × Nat) := ns.map fun m => (m, 1)
def hadOf (film : List Deed) : Cnt := addAll (zeroHad (namesOf film)) (ones (fsOf film).coins)
def standOf (film : List Deed) : Stand := ⟨(fsOf film).deal, (fsOf film).dealt, (fsOf film).paid, hadOf film⟩
theorem fs_snoc (film : List Deed) (x : Deed) : fsOf (film ++ [x]) = fsStep (fsOf film) x := by
  unfold fsOf; rw [List.foldl_append]; rfl
theorem seen_snoc (film : List Deed) (x : Deed) : seenOf (film ++ [x]) = seenStep (seenOf film) x := by
  unfold seenOf; rw [List.foldl_append]; rfl
/-! ### films that are drawn -/
structure DealS (d : Deal) : Prop where
  ok : DealOk d
  n4 : d.names.length ≤ 4
  runs : d.runs.length ≤ 4
  short : ∀ r ∈ d.runs, r.2.length ≤ 6 ∧ (∀ n, r.1 = some n → n ≤ 9)
def DeedOk : Deed → Prop
  | .deal d => DealS d
  | .pay n => 1 ≤ n ∧ n ≤ 14
structure FilmOk (film : List Deed) : Prop where
  all : ∀ x ∈ film, DeedOk x
  first : ∃ d r, film = .deal d :: r
theorem FilmOk.snoc {film : List Deed} {x : Deed} (h : FilmOk film) (hx : DeedOk x) : FilmOk (film ++ [x]) := by
  obtain ⟨d, r, e⟩ := h.first
  refine ⟨fun y hy => ?_, d, r ++ [x], by rw [e]; rfl⟩
  rcases List.mem_append.mp hy with hy | hy
  · exact h.all y hy
  · rw [List.mem_singleton.mp hy]; exact hx
theorem FilmOk.take {film : List Deed} (h : FilmOk film) (k : Nat) (hk : 1 ≤ k) : FilmOk (film.take k) := by
  obtain ⟨d, r, e⟩ := h.first
  refine ⟨fun y hy => h.all y (List.mem_of_mem_take hy), d, r.take (k - 1), ?_⟩
  rw [e, show k = (k - 1) + 1 by omega, List.take_succ_cons]
  rfl
theorem FilmOk.one {d : Deal} (h : DealS d) : FilmOk [.deal d] := ⟨fun y hy => by rw [List.mem_singleton.mp hy]; exact h, d, [], rfl⟩
/-- induction from the front deal on -/
theorem film_ind {P : List Deed → Prop} (h1 : ∀ d, DealS d → P [.deal d]) (h2 : ∀ film x, FilmOk film → DeedOk x → P film → P (film ++ [x])) : ∀ (n : Nat) {film : List Deed}, film.length = n → FilmOk film → P film
  | 0, film, hn, h => by
    obtain ⟨d, r, e⟩ := h.first
    rw [e] at hn
    simp at hn
  | 1, film, hn, h => by
    obtain ⟨d, r, e⟩ := h.first
    have : r = [] := by rw [e] at hn; simpa using hn
    subst this
    rw [e]
    exact h1 d (show DealS d from h.all (.deal d) (by rw [e]; exact List.mem_cons_self))
  | n + 2, film, hn, h => by
    have hne : film ≠ [] := fun z => by rw [z] at hn; simp at hn
    have e := List.dropLast_concat_getLast hne
    have hl : film.dropLast.length = n + 1 := by rw [List.length_dropLast, hn]; rfl
    have hd : FilmOk film.dropLast := by
      rw [List.dropLast_eq_take]
      exact h.take _ (by omega)
    rw [← e]
    exact h2 _ _ hd (h.all _ (List.getLast_mem hne)) (film_ind h1 h2 (n + 1) hl hd)
theorem film_rec {P : List Deed → Prop} (h1 : ∀ d, DealS d → P [.deal d]) (h2 : ∀ film x, FilmOk film → DeedOk x → P film → P (film ++ [x])) {film : List Deed} (h : FilmOk film) : P film := film_ind h1 h2 _ rfl h
/-! ### rows of good deals -/
theorem runs_lt {k : Nat} : ∀ {rs : List Run}, RunsOk k rs → ∀ i, coinAt rs i < k
  | [], h, _ => h.elim
  | [(s, f)], h, i => by
    obtain ⟨rfl, h1, h2, h3⟩ := h
    show cycAt f i < k
    unfold cycAt
    have ht : i % f.length < f.length := Nat.mod_lt _ h1
    rw [List.getD_eq_getElem?_getD, List.getElem?_eq_getElem ht]
    exact h3 _ (List.getElem_mem ht)
  | (s, f) :: r :: rs, h, i => by
    obtain ⟨⟨n, rfl, _⟩, ⟨h1, h2, h3⟩, h4⟩ := h
    show (if i < n then cycAt f i else coinAt (r :: rs) (i - n)) < k
    split
    · unfold cycAt
      have ht : i % f.length < f.length := Nat.mod_lt _ h1
      rw [List.getD_eq_getElem?_getD, List.getElem?_eq_getElem ht]
      exact h3 _ (List.getElem_mem ht)
    · exact runs_lt h4 _
theorem inc_pairS {ns : List Str} (h : Inc ns) : ns.Pairwise ltS := inc_pair h
theorem coinsOf_len (d : Deal) (m n : Nat) : (coinsOf d m n).length = n := by
  unfold coinsOf
  rw [List.length_map, List.length_drop, row_len]
  omega
theorem coinsOf_mem {d : Deal} (h : DealOk d) {m n : Nat} {x : Str} (hx : x ∈ coinsOf d m n) : x ∈ d.names := by
  unfold coinsOf at hx
  obtain ⟨c, hc, rfl⟩ := List.mem_map.mp hx
  have hc' := List.mem_of_mem_drop hc
  unfold rowOf at hc'
  obtain ⟨i, _, rfl⟩ := List.mem_map.mp hc'
  have hlt := runs_lt h.runs i
  rw [List.getD_eq_getElem?_getD, List.getElem?_eq_getElem hlt]
  exact List.getElem_mem hlt
theorem row_drop_count {rs : List Run} (h : Endless rs) (c m n : Nat) : ((rowOf rs (m + n)).drop m).count c = countBy rs c (m + n) - countBy rs c m := by
  have e : rowOf rs (m + n) = rowOf rs m ++ (rowOf rs (m + n)).drop m := by
    conv => lhs; rw [← List.take_append_drop m (rowOf rs (m + n))]
    congr 1
    unfold rowOf
    rw [← List.map_take, List.take_range, Nat.min_eq_left (by omega)]
  rw [countBy_row _ _ _ h, countBy_row _ _ _ h]
  conv => rhs; rw [e]
  rw [List.count_append]
  omega
/-- the coins of a name -/
theorem coinsOf_count {d : Deal} (h : DealOk d) (m n : Nat) {k : Nat} {x : Str} (hk : d.names[k]? = some x) : (coinsOf d m n).count x = countBy d.runs k (m + n) - countBy d.runs k m := by
  rw [← row_drop_count (runs_endless h.runs)]
  unfold coinsOf
  have nd := pair_nodup (inc_pairS h.names.inc)
  have lt : ∀ c ∈ (rowOf d.runs (m + n)).drop m, c < d.names.length := fun c hc => by
    have hc' := List.mem_of_mem_drop hc
    unfold rowOf at hc'
    obtain ⟨i, _, rfl⟩ := List.mem_map.mp hc'
    exact runs_lt h.runs i
  generalize (rowOf d.runs (m + n)).drop m = l at lt
  induction l with
  | nil => rfl
  | cons c r ih =>
    rw [List.map_cons, List.count_cons, List.count_cons, ih fun c hc => lt c (List.mem_cons_of_mem _ hc)]
    have hc := lt c List.mem_cons_self
    obtain ⟨hk1, hk2⟩ := List.getElem?_eq_some_iff.mp hk
    have e : d.names.getD c "" = d.names[c] := by rw [List.getD_eq_getElem?_getD, List.getElem?_eq_getElem hc]; rfl
    by_cases z : c = k
    · subst z
      rw [e, hk2]
      simp
    · have : ¬ d.names.getD c "" = x := fun q => by
        have nd' := List.pairwise_iff_getElem.mp (List.nodup_iff_pairwise_ne.mp nd)
        rcases Nat.lt_or_gt_of_ne z with h | h
        · exact nd' c k hc hk1 h (by rw [← e, q, hk2])
        · exact nd' k c hk1 hc h (by rw [← e, q, hk2])
      rw [if_neg (by simpa using this), if_neg (by simpa using z)]
/-! ### what is known of a film -/
theorem seen_nodup {film : List Deed} (h : ∀ x ∈ film, DeedOk x) : (seenOf film).Nodup := by
  suffices ∀ (l : List Deed) (acc : List Str), (∀ x ∈ l, DeedOk x) → acc.Nodup → (l.foldl seenStep acc).Nodup from this film [] h List.nodup_nil
  intro l
  induction l with
  | nil => intro acc _ h; exact h
  | cons x r ih =>
    intro acc hx ha
    refine ih _ (fun y hy => hx y (List.mem_cons_of_mem _ hy)) ?_
    cases x with
    | pay n => exact ha
    | deal d =>
      have hd : DealS d := hx _ List.mem_cons_self
      have nd := pair_nodup (inc_pairS hd.ok.names.inc)
      show (acc ++ d.names.filter fun n => !decide (n ∈ acc)).Nodup
      rw [List.nodup_append]
      refine ⟨ha, nd.filter _, fun a h1 b h2 e => ?_⟩
      subst e
      have := (List.mem_filter.mp h2).2
      simp [h1] at this
theorem names_sort {film : List Deed} (h : ∀ x ∈ film, DeedOk x) : (namesOf film).Pairwise ltS := sortS_sort (seen_nodup h)
theorem names_nodup {film : List Deed} (h : ∀ x ∈ film, DeedOk x) : (namesOf film).Nodup := pair_nodup (names_sort h)
theorem mem_names {film : List Deed} {n : Str} : n ∈ namesOf film ↔ n ∈ seenOf film := (sortS_perm _).mem_iff
theorem seen_up {film : List Deed} {x : Deed} {n : Str} (h : n ∈ seenOf film) : n ∈ seenOf (film ++ [x]) := by
  rw [seen_snoc]
  cases x with
  | pay k => exact h
  | deal d => exact List.mem_append_left _ h
theorem seen_deal {film : List Deed} {d : Deal} {n : Str} : n ∈ seenOf (film ++ [.deal d]) ↔ n ∈ seenOf film ∨ n ∈ d.names := by
  rw [seen_snoc]
  show n ∈ seenOf film ++ d.names.filter (fun m => !decide (m ∈ seenOf film)) ↔ _
  rw [List.mem_append, List.mem_filter]
  by_cases h : n ∈ seenOf film
  · simp [h]
  · simp [h]
structure FsOk (film : List Deed) : Prop where
  deal : DealS (fsOf film).deal
  inSeen : ∀ n ∈ (fsOf film).deal.names, n ∈ seenOf film
  coins : ∀ n ∈ (fsOf film).coins, n ∈ seenOf film
  len : (fsOf film).coins.length = (fsOf film).paid
  paid : (fsOf film).paid ≤ 14 * film.length
  dealt : (fsOf film).dealt ≤ 14 * film.length
  seen : (seenOf film).length ≤ 4 * film.length
theorem fs_ok {film : List Deed} (h : FilmOk film) : FsOk film := by
  refine film_rec (P := FsOk) (fun d hd => ?_) (fun film x hf hx ih => ?_) h
  · have es : seenOf [.deal d] = d.names := by
      show ([] : List Str) ++ d.names.filter (fun n => !decide (n ∈ ([] : List Str))) = d.names
      rw [List.nil_append]
      exact List.filter_eq_self.mpr fun _ _ => by simp
    refine ⟨hd, fun n hn => by rw [es]; exact hn, fun n hn => absurd hn (by simp [fsOf, fsStep, fs0]), rfl, Nat.zero_le _, Nat.zero_le _, by rw [es]; have := hd.n4; simpa using this⟩
  · cases x with
    | deal d =>
      have hd : DealS d := hx
      refine ⟨?_, ?_, ?_, ?_, ?_, ?_, ?_⟩
      · rw [fs_snoc]; exact hd
      · intro n hn
        rw [fs_snoc] at hn
        exact seen_deal.mpr (.inr hn)
      · intro n hn
        rw [fs_snoc] at hn
        exact seen_up (ih.coins n hn)
      · rw [fs_snoc]; exact ih.len
      · rw [fs_snoc, List.length_append]
        have := ih.paid
        show (fsOf film).paid ≤ 14 * (film.length + 1)
        omega
      · rw [fs_snoc]
        exact Nat.zero_le _
      · rw [seen_snoc, List.length_append]
        show (seenOf film ++ d.names.filter _).length ≤ 4 * (film.length + 1)
        rw [List.length_append]
        have h1 := ih.seen
        have h2 := List.length_filter_le (fun m => !decide (m ∈ seenOf film)) d.names
        have h3 := hd.n4
        omega
    | pay k =>
      obtain ⟨k1, k2⟩ : 1 ≤ k ∧ k ≤ 14 := hx
      refine ⟨?_, ?_, ?_, ?_, ?_, ?_, ?_⟩
      · rw [fs_snoc]; exact ih.deal
      · intro n hn
        rw [fs_snoc] at hn
        exact seen_up (ih.inSeen n hn)
      · intro n hn
        rw [fs_snoc] at hn
        rcases List.mem_append.mp (show n ∈ (fsOf film).coins ++ coinsOf (fsOf film).deal (fsOf film).dealt k from hn) with hn | hn
        · exact seen_up (ih.coins n hn)
        · exact seen_up (ih.inSeen n (coinsOf_mem ih.deal.ok hn))
      · rw [fs_snoc]
        show ((fsOf film).coins ++ coinsOf (fsOf film).deal (fsOf film).dealt k).length = (fsOf film).paid + k
        rw [List.length_append, coinsOf_len, ih.len]
      · rw [fs_snoc, List.length_append]
        have := ih.paid
        show (fsOf film).paid + k ≤ 14 * (film.length + 1)
        omega
      · rw [fs_snoc, List.length_append]
        have := ih.dealt
        show (fsOf film).dealt + k ≤ 14 * (film.length + 1)
        omega
      · rw [seen_snoc, List.length_append]
        have := ih.seen
        show (seenOf film).length ≤ 4 * (film.length + 1)
        omega
theorem had_keys {film : List Deed} (h : FilmOk film) : keysN (hadOf film) = namesOf film := by
  unfold hadOf
  rw [keys_all_in, keys_zero]
  intro n hn
  unfold ones at hn
  rw [keys_ones] at hn
  rw [keys_zero]
  exact mem_names.mpr ((fs_ok h).coins n hn)
theorem had_get {film : List Deed} (h : FilmOk film) (n : Str) : getN (hadOf film) n = if n ∈ seenOf film then some ((fsOf film).coins.count n) else none := by
  unfold hadOf ones
  rw [getN_all, keys_ones, sumN_ones, getN_zero]
  by_cases h1 : n ∈ (fsOf film).coins
  · have h2 := (fs_ok h).coins n h1
    rw [if_pos h1, if_pos (mem_names.mpr h2), if_pos h2]
    simp
  · rw [if_neg h1]
    by_cases h2 : n ∈ seenOf film
    · rw [if_pos (mem_names.mpr h2), if_pos h2, List.count_eq_zero.mpr h1]
    · rw [if_neg (fun z => h2 (mem_names.mp z)), if_neg h2]
theorem had_nodup {film : List Deed} (h : FilmOk film) : (keysN (hadOf film)).Nodup := by
  rw [had_keys h]; exact names_nodup h.all
theorem had_sort {film : List Deed} (h : FilmOk film) : SortN (hadOf film) := by
  have := names_sort h.all
  rw [← had_keys h] at this
  exact (List.pairwise_map (f := fun p : Str × Nat => p.1) (R := ltS)).mp this
theorem had_len {film : List Deed} (h : FilmOk film) : (hadOf film).length ≤ 4 * film.length := by
  have e : (hadOf film).length = (keysN (hadOf film)).length := by simp [keysN]
  rw [e, had_keys h]
  unfold namesOf
  rw [(sortS_perm _).length_eq]
  exact (fs_ok h).seen
/-! ### the pot's own counts follow -/
theorem zip_sum {ns : List Str} (nd : ns.Nodup) (f : Nat → Nat) : ∀ (k : Nat) (n : Str), ns[k]? = some n → sumN (ns.zip ((List.range ns.length).map f)) n = f k := by
  induction ns generalizing f with
  | nil => intro k n h; simp at h
  | cons a r ih =>
    obtain ⟨h1, h2⟩ := List.nodup_cons.mp nd
    intro k n h
    rw [List.length_cons, List.range_succ_eq_map, List.map_cons, List.map_map, List.zip_cons_cons, sumN_cons]
    cases k with
    | zero =>
      obtain rfl : a = n := by simpa using h
      rw [if_pos rfl, sumN_none]
      · rfl
      · intro z
        unfold keysN at z
        obtain ⟨p, hp, rfl⟩ := List.mem_map.mp z
        exact h1 (List.of_mem_zip hp).1
    | succ k =>
      have h' : r[k]? = some n := by simpa using h
      have hne : ¬ a = n := fun z => h1 (by rw [z]; exact List.mem_of_getElem? h')
      rw [if_neg hne, Nat.zero_add]
      exact ih h2 (f ∘ Nat.succ) k n h'
theorem zip_keys {ns : List Str} (m : List Nat) (h : m.length = ns.length) : keysN (ns.zip m) = ns := by
  unfold keysN
  rw [List.map_fst_zip (by omega)]
theorem pay_perm {film : List Deed} (h : FilmOk film) {c : Nat} (hc : DeedOk (.pay c)) : (addAll (hadOf film) ((fsOf film).deal.names.zip (moreOf (fsOf film).deal (fsOf film).dealt c))).Perm (hadOf (film ++ [.pay c])) := by
  have h' := h.snoc hc
  have ok := fs_ok h
  have nd := pair_nodup (inc_pairS ok.deal.ok.names.inc)
  refine perm_get (keys_all_nodup _ _ (had_nodup h)) (had_nodup h') fun n => ?_
  rw [getN_all, had_get h, had_get h', fs_snoc, seen_snoc, zip_keys _ (by simp [moreOf])]
  show _ = if n ∈ seenOf film then some (((fsOf film).coins ++ coinsOf (fsOf film).deal (fsOf film).dealt c).count n) else none
  rw [List.count_append]
  by_cases h1 : n ∈ (fsOf film).deal.names
  · have h2 := ok.inSeen n h1
    obtain ⟨k, hk⟩ := List.getElem?_of_mem h1
    rw [if_pos h1, if_pos h2, if_pos h2, coinsOf_count ok.deal.ok _ _ hk]
    unfold moreOf
    rw [zip_sum nd _ k n hk]
    rfl
  · have : (coinsOf (fsOf film).deal (fsOf film).dealt c).count n = 0 := List.count_eq_zero.mpr fun z => h1 (coinsOf_mem ok.deal.ok z)
    rw [if_neg h1, this, Nat.add_zero]
theorem sumN_zero (ns : List Str) (n : Str) : sumN (zeroHad ns) n = 0 := by
  induction ns with
  | nil => rfl
  | cons a r ih =>
    show sumN ((a, 0) :: zeroHad r) n = 0
    rw [sumN_cons, ih]
    simp
theorem deal_perm {film : List Deed} (h : FilmOk film) {d : Deal} (hd : DeedOk (.deal d)) : (addAll (hadOf film) (d.names.zip (List.replicate d.names.length 0))).Perm (hadOf (film ++ [.deal d])) := by
  have h' := h.snoc hd
  have ok := fs_ok h
  refine perm_get (keys_all_nodup _ _ (had_nodup h)) (had_nodup h') fun n => ?_
  rw [zip_zero, getN_all, keys_zero, sumN_zero, had_get h, had_get h', fs_snoc]
  show _ = if n ∈ seenOf (film ++ [.deal d]) then some ((fsOf film).coins.count n) else none
  by_cases h1 : n ∈ d.names
  · rw [if_pos h1, if_pos (seen_deal.mpr (.inr h1)), Nat.add_zero]
    by_cases h2 : n ∈ seenOf film
    · rw [if_pos h2]; rfl
    · rw [if_neg h2, List.count_eq_zero.mpr fun z => h2 (ok.coins n z)]; rfl
  · rw [if_neg h1]
    by_cases h2 : n ∈ seenOf film
    · rw [if_pos h2, if_pos (seen_deal.mpr (.inl h2))]
    · rw [if_neg h2, if_neg fun z => (seen_deal.mp z).elim h2 h1]
theorem had_first {d : Deal} (hd : DealS d) : hadOf [.deal d] = zeroHad d.names := by
  have es : seenOf [.deal d] = d.names := by
    show ([] : List Str) ++ d.names.filter (fun n => !decide (n ∈ ([] : List Str))) = d.names
    rw [List.nil_append]
    exact List.filter_eq_self.mpr fun _ _ => by simp
  have en : namesOf [.deal d] = d.names := by
    unfold namesOf
    rw [es]
    exact sortS_unique (sortS_perm d.names) (inc_pairS hd.ok.names.inc) ((sortS_sort (pair_nodup (inc_pairS hd.ok.names.inc))).imp fun {a b} hab hba => ltS_irrefl _ (ltS_trans hab hba))
  unfold hadOf
  rw [en]
  rfl
/-- what a payment brings, by the counts -/
theorem brought_at {film : List Deed} (h : FilmOk film) {c : Nat} (hc : DeedOk (.pay c)) {k : Nat} {n : Str} (hk : (fsOf film).deal.names[k]? = some n) : ∃ i j, getN (hadOf film) n = some i ∧ getN (hadOf (film ++ [.pay c])) n = some j ∧ j = i + (countBy (fsOf film).deal.runs k ((fsOf film).dealt + c) - countBy (fsOf film).deal.runs k (fsOf film).dealt) := by
  have ok := fs_ok h
  have h1 : n ∈ seenOf film := ok.inSeen n (List.mem_of_getElem? hk)
  refine ⟨_, _, by rw [had_get h, if_pos h1], by rw [had_get (h.snoc hc), if_pos (seen_up h1)], ?_⟩
  rw [fs_snoc]
  show ((fsOf film).coins ++ coinsOf (fsOf film).deal (fsOf film).dealt c).count n = _
  rw [List.count_append, coinsOf_count ok.deal.ok _ _ hk]
theorem fit_of {d : Deal} (h : DealS d) : figsFit d.runs := fun r hr => by
  obtain ⟨i, hi⟩ := List.getElem?_of_mem hr
  have := (runs_at h.ok.runs i r hi).1
  exact ⟨this.1, this.2.1⟩
theorem pay_ok {film : List Deed} (h : FilmOk film) {c : Nat} (hc : DeedOk (.pay c)) (hl : film.length ≤ 200) : PayOk (standOf film) c := by
  have ok := fs_ok h
  obtain ⟨k1, k2⟩ : 1 ≤ c ∧ c ≤ 14 := hc
  have h1 := ok.deal.n4
  have h2 := ok.deal.runs
  have h3 := had_len h
  exact ⟨k1, by omega, by show (fsOf film).deal.names.length ≤ 6; omega, by show (fsOf film).deal.runs.length ≤ 60; omega, fit_of ok.deal, fun i => countBy_up (runs_endless ok.deal.ok.runs) i _ c, had_nodup h, by show (hadOf film).length ≤ 900; omega⟩
end SP
/-! Q13 -/
namespace SP
open PySem PySem.Spec PyProof.Rows L2
theorem md_put {K : PySem.W.Frag} {am p : Addr} {m : Nat} {Hd H : Hp} {o : HO} (h : (MD K am m).p Hd H) (hp : p ≠ am) : (MD K am m).p Hd (upd H p o) := by
  obtain ⟨c, cs, l, s, ⟨h1, h2, h3⟩, h⟩ := h
  exact ⟨c, cs, l, s, ⟨h1, by rw [upd_ne (Ne.symm hp)]; exact h2, h3⟩, h⟩
theorem md_fr {K : PySem.W.Frag} {am p : Addr} {m : Nat} {Hd H : Hp} {o : HO} (h : (MD K am m).p Hd H) (hp : p ≠ am) (hd : Hd p = none) : (MD K am m).p (upd Hd p o) H := by
  obtain ⟨c, cs, l, s, ⟨h1, h2, h3⟩, h⟩ := h
  exact ⟨c, cs, l, s, ⟨by rw [upd_ne (Ne.symm hp)]; exact h1, h2, h3.mono (Ex.new hd)⟩, h⟩
theorem md_ne {K : PySem.W.Frag} {am p : Addr} {m : Nat} {Hd H : Hp} (h : (MD K am m).p Hd H) (hp : H p = none) : p ≠ am := by
  obtain ⟨_, _, _, _, ⟨_, e, _⟩, _⟩ := h
  exact fun z => by rw [z, e] at hp; cases hp
section
variable {P : Program} {w : World} {K : PySem.W.Frag} {mg : Str → Option Value} {base : Heap} {n : Str} {st : Stmt} {N ps : List Str} {k : Nat}
theorem cal_draw {R : List Dt → Nat → (Dt → Prop) → Prop} (D : DefAt K mg n st ps) (S : FnScope N ps (defScope st)) (len : ∀ ts c G, R ts c G → ts.length + 1 = ps.length)
    (hbody : ∀ (f : Addr) (cdv : Value) (A : Around) (outer : List Env) (s : Shared) (H : Hp) (E : XK), Room k (dCx P w K mg base N n st f cdv A outer s H E).A → ∀ (Hd : Hp) (am : Addr) (m : Nat) (vs : List V) (ts : List Dt) (c : Nat) (G : Dt → Prop) (Q : VK), Ex Hd H → (MD K am m).p Hd H → EnvD K Hd (start N vs) (startD N (.raw (.ref am) :: ts)) → R ts c G → m + c ≤ 1000000000 →
      (∀ v d Hd' H', G d → Stp (· = am) Hd H Hd' H' → (MD K am (m + c)).p Hd' H' → Im K Hd' v d → Q v H') → wSs (un (dCx P w K mg base N n st f cdv A outer s H E)) (defBody st) { nx := fun _ H' => Q .non H', rt := Q } (start N vs) H) : Callee P w K mg base n (k + 1) ps (DSp K R) :=
  cal_any D S (fun vs H Q E h => by
    obtain ⟨Hd, am, n, us, ts, c, G, rfl, _, _, ia, hR, _⟩ := h
    rw [List.length_cons, ia.length]
    exact len ts c G hR) fun f cdv A outer s H E hr vs Q h => by
    obtain ⟨Hd, am, n, us, ts, c, G, rfl, ex, md, ia, hR, hn, q⟩ := h
    exact hbody f cdv A outer s H E hr Hd am n _ ts c G Q ex md (env_start N (ts := .raw (.ref am) :: ts) (.cons (.raw _) ia)) hR hn q
/-! ### one of a list -/
def retOf : Stmt → Expr
  | .Return (some e) _ => e
  | _ => .Constant .none 0 ⟨0, 0, 0, 0⟩
abbrev n34 : List Str := ["_law_m", "_law_some"]
theorem sc34 : FnScope n34 ["_law_m", "_law_some"] (defScope (top 34)) := ⟨rfl, rfl, rfl, by decide +kernel, rfl, by decide +kernel, by decide +kernel⟩
def ROf : List Dt → Nat → (Dt → Prop) → Prop := fun ts c G => ∃ xs, ts = [.lst xs] ∧ xs ≠ [] ∧ xs.length ≤ 1000 ∧ c = 1 ∧ G = fun d => d ∈ xs
theorem kIxL {F : Unit → Cx} (hK : ∀ i, (F i).K = K) (i : Unit) : IxR (F i) (rIxL K) := kL hK i
theorem d_of (T : TX mg) (D : DefAt K mg "_law_of" (top 34) ["_law_m", "_law_some"]) (C : Callee P w K mg base "_law_draw" 1 ["_law_m", "_law_limit"] (DrawSp K)) : Callee P w K mg base "_law_of" 2 ["_law_m", "_law_some"] (DSp K ROf) :=
  cal_draw D sc34 (by rintro _ _ _ ⟨xs, rfl, _⟩; rfl) fun f cdv A outer s H E hr Hd am m vs ts c G Q ex md en hR hm q => by
    obtain ⟨xs, rfl, hx, hl, rfl, rfl⟩ := hR
    have hx' : 0 < xs.length := List.length_pos_iff.mpr hx
    have h : ER K am 1 (wE (un (dCx P w K mg base n34 "_law_of" (top 34) f cdv A outer s H E)) (retOf (stm 34 0))) (startD n34 [.raw (.ref am), .lst xs]) (fun d => d ∈ xs) :=
      er_is (er_ix (G := fun d => d ∈ xs) (kIxL fun _ => rfl) (er_ev (x_var 1)) (er_draw (lim := xs.length) (fun _ => C) (fun _ => hr) (a_two (x_var 0) (x_lenL T (x_var 1))) hx' (by omega)) (by
        rintro x y rfl ⟨r, hr, rfl⟩
        exact ⟨xs[r], rd_ixL r rfl (List.getElem?_eq_getElem hr), List.getElem_mem hr⟩)) (by omega) (fun _ h => h)
    exact c_one (c_ret (h m _ Hd H hm ex en md Q q))
end
end SP
/-! Q14 -/
namespace SP
open PySem PySem.Spec PyProof.Rows L2
theorem pair_inc : ∀ {ns : List Str}, ns.Pairwise ltS → Inc ns
  | [], _ => True.intro
  | [a], _ => True.intro
  | a :: b :: r, h => by
    obtain ⟨h1, h2⟩ := List.pairwise_cons.mp h
    exact ⟨h1 b List.mem_cons_self, pair_inc h2⟩
theorem names_take {ns : List Str} (h : NamesOk ns) (k : Nat) (hk : 1 ≤ k) : NamesOk (ns.take k) := by
  have h1 := h.pos
  have h2 := h.most
  refine ⟨by rw [List.length_take]; omega, by rw [List.length_take]; omega, fun w hw => h.words w (List.mem_of_mem_take hw), pair_inc ((inc_pairS h.inc).sublist (List.take_sublist k ns))⟩
def nsA : List Str := ["a", "b", "c", "d", "e", "f"]
def nsB : List Str := ["ada", "bob", "cy", "dan", "eve", "flo"]
def nsC : List Str := ["a", "aa", "ab", "b", "zz", "zzzzzz"]
instance (w : Str) : Decidable (wordOk w) := by unfold wordOk; infer_instance
instance decInc : (ns : List Str) → Decidable (Inc ns)
  | [] => .isTrue True.intro
  | [_] => .isTrue True.intro
  | a :: b :: r => match decInc (b :: r) with
    | .isTrue h => if h2 : a.cps.toList < b.cps.toList then .isTrue ⟨h2, h⟩ else .isFalse fun z => h2 z.1
    | .isFalse h => .isFalse fun z => h z.2
theorem okA : NamesOk nsA := ⟨by decide, by decide, by decide +kernel, by decide +kernel⟩
theorem okB : NamesOk nsB := ⟨by decide, by decide, by decide +kernel, by decide +kernel⟩
theorem okC : NamesOk nsC := ⟨by decide, by decide, by decide +kernel, by decide +kernel⟩
theorem encN_inj {xs : List Dt} {ns : List Str} (h : Dt.tux xs = encN ns) : xs = ns.map Dt.str := by
  unfold encN at h
  cases h
  rfl
section
variable {P : Program} {w : World} {K : PySem.W.Frag} {mg : Str → Option Value} {base : Heap} {n : Str} {st : Stmt} {N ps : List Str} {k : Nat}
def argOf : Expr → Expr
  | .Call _ (e :: _) _ _ => e
  | e => e
def exprOf : List Stmt → Expr
  | .Expr e _ :: _ => e
  | _ => .Constant .none 0 ⟨0, 0, 0, 0⟩
def asgOf : Stmt → Expr
  | .Assign _ e _ => e
  | _ => .Constant .none 0 ⟨0, 0, 0, 0⟩
def genTg : Expr → Expr
  | .ListComp _ (g :: _) _ _ => g.target
  | e => e
def genIt : Expr → Expr
  | .ListComp _ (g :: _) _ _ => g.iter
  | e => e
def lcElt : Expr → Expr
  | .ListComp e _ _ _ => e
  | e => e
abbrev n35 : List Str := ["_law_m", "_law_most", "_law_some"]
theorem sc35 : FnScope n35 ["_law_m", "_law_most"] (defScope (top 35)) := ⟨rfl, rfl, rfl, by decide +kernel, rfl, by decide +kernel, by decide +kernel⟩
def RPeople : List Dt → Nat → (Dt → Prop) → Prop := fun ts c G => ∃ most : Nat, ts = [.int (most : Int)] ∧ 1 ≤ most ∧ most ≤ 1000 ∧ c = 2 ∧ G = fun d => ∃ ns, d = encN ns ∧ NamesOk ns ∧ ns.length ≤ most
theorem d_people (T : TX mg) (D : DefAt K mg "_law_people" (top 35) ["_law_m", "_law_most"]) (C : Callee P w K mg base "_law_draw" 1 ["_law_m", "_law_limit"] (DrawSp K)) (C2 : Callee P w K mg base "_law_of" 2 ["_law_m", "_law_some"] (DSp K ROf)) : Callee P w K mg base "_law_people" 3 ["_law_m", "_law_most"] (DSp K RPeople) :=
  cal_draw D sc35 (by rintro _ _ _ ⟨xs, rfl, _⟩; rfl) fun f cdv A outer s H E hr Hd am m vs ts c G Q ex md en hR hm q => by
    obtain ⟨most, rfl, hm1, hm2, rfl, rfl⟩ := hR
    have s1 : SvD K MP.tt (wS (un (dCx P w K mg base n35 "_law_people" (top 35) f cdv A outer s H E)) (stm 35 0)) (startD n35 [.raw (.ref am), .int (most : Int)]) (.nx [some (.raw (.ref am)), some (.int (most : Int)), some (.lst [encN nsA, encN nsB])]) :=
      s_set 2 (fun _ => sc35.nd) (x_lst (a_two (x_tux (a_cons x_str (a_cons x_str (a_cons x_str (a_cons x_str (a_two x_str x_str)))))) (x_tux (a_cons x_str (a_cons x_str (a_cons x_str (a_cons x_str (a_two x_str x_str))))))))
    have h : ER K am 2 (wE (un (dCx P w K mg base n35 "_law_people" (top 35) f cdv A outer s H E)) (retOf (stm 35 1))) [some (.raw (.ref am)), some (.int (most : Int)), some (.lst [encN nsA, encN nsB])] (fun d => ∃ ns, d = encN ns ∧ NamesOk ns ∧ ns.length ≤ most) :=
      er_is (er_slX (G1 := fun d => ∃ ns, d = encN ns ∧ NamesOk ns) (G2 := fun d => ∃ r : Nat, d = .int (r : Int) ∧ 1 ≤ r ∧ r ≤ most) (G := fun d => ∃ ns, d = encN ns ∧ NamesOk ns ∧ ns.length ≤ most)
        (er_is (er_call (fun _ => C2) (fun _ => hr) (a_two (x_var 0) (x_cat (x_var 2) (x_lst (a_one (x_tux (a_cons x_str (a_cons x_str (a_cons x_str (a_cons x_str (a_two x_str x_str)))))))) (by decide))) ⟨[encN nsA, encN nsB, encN nsC], rfl, by simp, by decide, rfl, rfl⟩) (Nat.le_refl 1) (by
          intro d hd
          rcases List.mem_cons.mp hd with e | hd
          · exact ⟨_, e, nsA, rfl, okA⟩
          · rcases List.mem_cons.mp hd with e | hd
            · exact ⟨_, e, nsB, rfl, okB⟩
            · have e := List.mem_singleton.mp hd
              exact ⟨_, e, nsC, rfl, okC⟩))
        (er_is (er_op (G := fun d => ∃ r : Nat, d = .int (r : Int) ∧ 1 ≤ r ∧ r ≤ most) (fun _ => op_add) (er_ev x_int) (er_draw (lim := most) (fun _ => C) (fun _ => hr) (a_two (x_var 0) (x_var 1)) (by omega) (by omega)) (by
          rintro x y rfl ⟨r, hr, rfl⟩
          exact ⟨_, rd_ii, r + 1, congrArg Dt.int (by omega), by omega, by omega⟩)) (Nat.le_refl _) (by
          rintro d ⟨r, rfl, h1, h2⟩
          exact ⟨r, rfl, r, rfl, h1, h2⟩))
        (by
          rintro xs k ⟨ns, e, ok⟩ ⟨r, e2, h1, h2⟩
          have e3 : k = r := by
            have := Dt.int.inj e2
            omega
          subst e3
          rw [encN_inj e, cutD_take, ← List.map_take]
          exact ⟨ns.take k, rfl, names_take ok k h1, by rw [List.length_take]; omega⟩)) (by decide) (fun _ h => h)
    exact c_cons (s1 _ Hd H ex en True.intro _ fun σ1 Hd1 H1 t1 en1 => c_one (c_ret (h m σ1 Hd1 H1 hm t1.sub en1 ((MD K am m).mono t1 md) Q fun v d Hd2 H2 g t2 m2 i2 => q v d Hd2 H2 g (t1.nom.trans t2) m2 i2)))
abbrev n36 : List Str := ["_law_m", "_law_total", "_law_long", "_law_k"]
theorem sc36 : FnScope n36 ["_law_m", "_law_total", "_law_long"] (defScope (top 36)) := ⟨rfl, rfl, rfl, by decide +kernel, rfl, by decide +kernel, by decide +kernel⟩
def figsR (total long : Nat) (f : List Nat) : Prop := 1 ≤ f.length ∧ f.length ≤ long ∧ ∀ c ∈ f, c < total
def RFigures : List Dt → Nat → (Dt → Prop) → Prop := fun ts c G => ∃ total long : Nat, ts = [.int (total : Int), .int (long : Int)] ∧ 1 ≤ total ∧ total ≤ 6 ∧ 1 ≤ long ∧ long ≤ 400 ∧ c = 1 + long ∧ G = fun d => ∃ f, d = .str (figS f) ∧ figsR total long f
theorem figs_of {total : Nat} : ∀ {es : List Dt}, (∀ x ∈ es, ∃ c, c < total ∧ x = .str (sgF c)) → ∃ f : List Nat, es = (f.map sgF).map Dt.str ∧ f.length = es.length ∧ ∀ c ∈ f, c < total
  | [], _ => ⟨[], rfl, rfl, fun c h => by simp at h⟩
  | x :: es, h => by
    obtain ⟨f, e, el, hf⟩ := figs_of (es := es) fun y hy => h y (List.mem_cons_of_mem _ hy)
    obtain ⟨c, hc, rfl⟩ := h x List.mem_cons_self
    exact ⟨c :: f, by rw [e]; rfl, by simp [el], fun d hd => (List.mem_cons.mp hd).elim (fun z => z ▸ hc) (hf d)⟩
theorem er_m1 {id : String} {nm : Str} {apos pos : Pos} {r : V → List V → Hp → VK → Prop} {wd : Str} {F : Unit → Cx} {a b : Expr} {am : Addr} {c : Nat} {ρ : Rho} {G1 G : Dt → Prop} (slot : Slot "str" nm id) (ty : typeOf (.builtin id) = pure (.type "method_descriptor")) (rule : ∀ i, MtR (F i) id r) (ho : EvD K MP.tt (wE F a) ρ (.str wd)) (hb : ER K am c (wE F b) ρ G1) (hr : ∀ x, G1 x → ∃ z, RDM K MP.tt r (.str wd) [x] z ∧ G z)
    (hs : ∀ i, starEach [b] (F i).env = [(false, eval b (F i).env)] := by intro _; rfl) (hbase : ∀ i, attributeBase a nm (F i).env (eval a (F i).env) = eval a (F i).env := by intro _; rfl) (hline : (apos.endLine == pos.line) = true := by rfl) : ER K am c (wE F (.Call (.Attribute a nm apos) [b] [] pos)) ρ G := fun n σ Hd H hn ex en md Q q =>
  ⟨tM1 r (wE F a) (wE F b), fun i => pe_m1 slot ty (rule i) (wE_ok i) (wE_ok i) (hs i) (hbase i) hline, ho σ Hd H ex en True.intro _ fun v Hd1 H1 s1 i1 => ⟨⟨wd, i1.str_inv⟩, hb n σ Hd1 H1 hn s1.sub (en.mono s1.ud) ((MD K am n).mono s1 md) _ fun u x Hd2 H2 g s2 m2 i2 => by
    obtain ⟨z, h1, h2⟩ := hr x g
    exact h1 Hd2 H2 v [u] s2.sub (i1.mono s2.ud) (.cons i2 .nil) True.intro Q fun w Hd3 H3 s3 i3 => q w z Hd3 H3 h2 ((s1.nom.trans s2).trans s3.nom) ((MD K am _).mono s3 m2) i3⟩⟩
theorem sum_ones (f : List Nat) : ((f.map sgF).map (·.length)).sum = f.length := by
  induction f with
  | nil => rfl
  | cons a r ih =>
    rw [List.map_cons, List.map_cons, List.sum_cons, ih, List.length_cons]
    show 1 + r.length = _
    omega
theorem d_figures (T : TX mg) (D : DefAt K mg "_law_figures" (top 36) ["_law_m", "_law_total", "_law_long"]) (C : Callee P w K mg base "_law_draw" 1 ["_law_m", "_law_limit"] (DrawSp K)) : Callee P w K mg base "_law_figures" 2 ["_law_m", "_law_total", "_law_long"] (DSp K RFigures) :=
  cal_draw D sc36 (by rintro _ _ _ ⟨t, l, rfl, _⟩; rfl) fun f cdv A outer s H E hr Hd am m vs ts c G Q ex md en hR hm q => by
    obtain ⟨total, long, rfl, ht1, ht2, hl1, hl2, rfl, rfl⟩ := hR
    have h : ER K am (1 + long) (wE (un (dCx P w K mg base n36 "_law_figures" (top 36) f cdv A outer s H E)) (retOf (stm 36 0))) (startD n36 [.raw (.ref am), .int (total : Int), .int (long : Int)]) (fun d => ∃ f, d = .str (figS f) ∧ figsR total long f) := by
      refine er_m1 (wd := "") (G1 := fun d => ∃ f, d = .lst ((f.map sgF).map Dt.str) ∧ figsR total long f) PySem.F.slot_str_join PySem.F.type_str_join (fun _ => mt_join) x_str ?_ (by
        rintro x ⟨f, rfl, h1, h2, h3⟩
        refine ⟨_, rm_join (by rw [sum_ones]; show f.length + (f.map sgF).length * 0 ≤ _; omega), f, ?_, h1, h2, h3⟩
        rw [tjoin_figs])
      refine er_is (er_lc (c2 := 1) (c1 := 1) (Gi := fun ds => ∃ r : Nat, ds = (List.range r).map (fun (k : Nat) => Dt.int (k : Int)) ∧ 1 ≤ r ∧ r ≤ long) (G := fun x => ∃ c, c < total ∧ x = .str (sgF c)) sc36 [("_law_k", 3)] long (ir_is (ir_rng (G := fun d => ∃ r : Nat, d = .int (r : Int) ∧ 1 ≤ r ∧ r ≤ long) (fun _ => T.range) (er_is (er_op (G := fun d => ∃ r : Nat, d = .int (r : Int) ∧ 1 ≤ r ∧ r ≤ long) (fun _ => op_add) (er_ev x_int) (er_draw (lim := long) (fun _ => C) (fun _ => hr) (a_two (x_var 0) (x_var 2)) (by omega) (by omega)) (by
          rintro x y rfl ⟨r, hr, rfl⟩
          exact ⟨_, rd_ii, r + 1, congrArg Dt.int (by omega), by omega, by omega⟩)) (Nat.le_refl _) (by
          rintro d ⟨r, rfl, h1, h2⟩
          exact ⟨r, rfl, r, rfl, h1, h2⟩)) (by
          rintro r ⟨r', e, h1, h2⟩
          have := Dt.int.inj e
          omega)) (by decide) (by
          rintro ds ⟨r, e, r', e2, h1, h2⟩
          have := Dt.int.inj e2
          exact ⟨r, e, by omega, by omega⟩)) (by
          rintro ds ⟨r, rfl, h1, h2⟩
          rw [List.length_map, List.length_range]; exact h2) (by omega) (by
          rintro ds d ⟨r, rfl, h1, h2⟩ hd
          obtain ⟨k, hk, rfl⟩ := List.mem_map.mp hd
          refine ⟨_, _, g_name 3 (fun _ => sc36.nd), by simp, ?_⟩
          exact er_is (er_ix (G2 := fun d => ∃ r : Nat, r < total ∧ d = .int (r : Int)) (fun _ => ix_str) (er_ev x_str) (er_draw (lim := total) (fun _ => C) (fun _ => hr) (a_two (x_var 0) (x_var 1)) (by omega) (by omega)) (by
            rintro x y rfl ⟨r, hr, rfl⟩
            exact ⟨_, rd_ixS r rfl (by decide) (digit6_at r (by omega)), r, hr, rfl⟩)) (by decide) (fun _ h => h))) (by omega) (by
          rintro d ⟨ds, es, ⟨r, rfl, h1, h2⟩, rfl, hl, hx⟩
          obtain ⟨f, e, el, hf⟩ := figs_of hx
          rw [List.length_map, List.length_range] at hl
          exact ⟨f, by rw [e], by omega, by omega, hf⟩)
    exact c_one (c_ret (h m _ Hd H hm ex en md Q q))
end
end SP
/-! Q15 -/
namespace SP
open PySem PySem.Spec PyProof.Rows L2
theorem EnvD.up {K : PySem.W.Frag} {Hd : Hp} {σ : L2.St} {ρ : Rho} {v : V} {d : Dt} {i : Nat} (h : EnvD K Hd σ ρ) (hv : σ[i]? = some (some v)) (iv : Im K Hd v d) : EnvD K Hd σ (ρ.set i (some d)) := by
  refine ⟨by rw [List.length_set, h.1], fun j e q => ?_⟩
  by_cases hj : i = j
  · subst hj
    by_cases hl : i < ρ.length
    · rw [List.getElem?_set_self hl] at q
      cases q
      exact ⟨v, hv, iv⟩
    · rw [List.getElem?_eq_none (by simpa using hl)] at q; cases q
  · rw [List.getElem?_set_ne hj] at q
    exact h.2 j e q
def runIn (total top long : Nat) (r : Run) : Prop := (∃ n, r.1 = some n ∧ 1 ≤ n ∧ n ≤ top) ∧ figsR total long r.2
theorem runs_snoc {total top long : Nat} {f : List Nat} (ht : top ≤ 1000000000000) (hl : long ≤ 400) (hf : figsR total long f) : ∀ {rs : List Run}, (∀ r ∈ rs, runIn total top long r) → RunsOk total (rs ++ [(none, f)])
  | [], _ => ⟨rfl, hf.1, Nat.le_trans hf.2.1 hl, hf.2.2⟩
  | (s, g) :: rs, h => by
    have ih := runs_snoc ht hl hf (rs := rs) fun r hr => h r (List.mem_cons_of_mem _ hr)
    obtain ⟨⟨n, h1, h2, h3⟩, h4⟩ := h (s, g) List.mem_cons_self
    cases e : rs ++ [(none, f)] with
    | nil => simp at e
    | cons x r =>
      rw [e] at ih
      show RunsOk total ((s, g) :: (rs ++ [(none, f)]))
      rw [e]
      exact ⟨⟨n, h1, h2, by omega⟩, ⟨h4.1, Nat.le_trans h4.2.1 hl, h4.2.2⟩, ih⟩
section
variable {P : Program} {w : World} {K : PySem.W.Frag} {mg : Str → Option Value} {base : Heap} {n : Str} {st : Stmt} {N ps : List Str} {k : Nat}
abbrev n37 : List Str := ["_law_m", "_law_total", "_law_count", "_law_top", "_law_long", "_law_found", "_law_k"]
theorem sc37 : FnScope n37 ["_law_m", "_law_total", "_law_count", "_law_top", "_law_long"] (defScope (top 37)) := ⟨rfl, rfl, rfl, by decide +kernel, rfl, by decide +kernel, by decide +kernel⟩
def RRuns : List Dt → Nat → (Dt → Prop) → Prop := fun ts c G => ∃ total count tp long : Nat, ts = [.int (total : Int), .int (count : Int), .int (tp : Int), .int (long : Int)] ∧ 1 ≤ total ∧ total ≤ 6 ∧ 1 ≤ count ∧ count ≤ 60 ∧ 1 ≤ tp ∧ tp ≤ 1000 ∧ 1 ≤ long ∧ long ≤ 400 ∧ c = 1 + count * (2 + long) + (1 + long) ∧
  G = fun d => ∃ rs, d = encRuns rs ∧ RunsOk total rs ∧ rs.length ≤ count ∧ ∀ r ∈ rs, r.2.length ≤ long ∧ ∀ n, r.1 = some n → n ≤ tp
theorem d_runs (T : TX mg) (D : DefAt K mg "_law_runs" (top 37) ["_law_m", "_law_total", "_law_count", "_law_top", "_law_long"]) (C : Callee P w K mg base "_law_draw" 1 ["_law_m", "_law_limit"] (DrawSp K)) (C2 : Callee P w K mg base "_law_figures" 2 ["_law_m", "_law_total", "_law_long"] (DSp K RFigures)) : Callee P w K mg base "_law_runs" 3 ["_law_m", "_law_total", "_law_count", "_law_top", "_law_long"] (DSp K RRuns) :=
  cal_draw D sc37 (by rintro _ _ _ ⟨t, l, _, _, rfl, _⟩; rfl) fun f cdv A outer s H E hr Hd am m vs ts c G Q ex md en hR hm q => by
    obtain ⟨total, count, tp, long, rfl, ht1, ht2, hc1, hc2, hp1, hp2, hl1, hl2, rfl, rfl⟩ := hR
    refine c_cons (c_set 5 (fun _ => sc37.nd) (c_lst (c_anil ⟨by decide, fun p np => ?_⟩)))
    have hpa : p ≠ am := md_ne md np
    have hdp : Hd p = none := sub_none ex np
    have ex1 : Ex Hd (upd H p (.lst [])) := ex.trans (Ex.new np)
    have en1 := en.set (i := 5) (Im.raw (.ref p))
    have md1 : (MD K am m).p Hd (upd H p (.lst [])) := md_put md hpa
    refine c_cons (c_forX (K := K) fun R cont => ?_)
    refine (ir_rng (K := K) (am := am) (c := 1) (G := fun d => ∃ r : Nat, r < count ∧ d = .int (r : Int)) (fun _ => T.range) (er_is (er_draw (lim := count) (fun _ => C) (fun _ => hr) (a_two (x_var 0) (x_var 2)) (by omega) (by omega)) (Nat.le_refl 1) (by
      rintro d ⟨r, h1, rfl⟩
      exact ⟨r, rfl, r, h1, rfl⟩)) (by
      rintro r ⟨r', h1, e⟩
      have := Dt.int.inj e
      omega)) m _ Hd _ (by omega) ex1 en1 md1 R fun J ds Hd1 H1 g s1 m1 ok => ?_
    obtain ⟨r, rfl, r', hr', er⟩ := g
    have hrc : r < count := by
      have := Dt.int.inj er
      omega
    have s1' : Stp (· = am) Hd H Hd1 H1 := (Stp.newM ex np).trans s1
    have mul1 : ∀ {i : Nat}, i < count → (i + 1) * (2 + long) ≤ count * (2 + long) := fun h => Nat.mul_le_mul_right _ (by omega)
    refine cont J _ Hd1 H1 s1.sub ok ⟨fun i σ' Hd' H' => ∃ (acc : List V) (rs : List Run), Ex Hd1 Hd' ∧ Stp (· = am) Hd H Hd' H' ∧ Hd' p = none ∧ H' p = some (.lst acc) ∧ ImA K Hd' acc (rs.map encRun) ∧ rs.length = i ∧ (∀ x ∈ rs, runIn total tp long x) ∧ (MD K am (m + 1 + i * (2 + long))).p Hd' H' ∧
      EnvD K Hd' σ' [some (.raw (.ref am)), some (.int (total : Int)), some (.int (count : Int)), some (.int (tp : Int)), some (.int (long : Int)), some (.raw (.ref p)), none], ?_, ?_, ?_, ?_⟩
    · exact ⟨[], [], .refl _, s1', s1.sep p (by rw [upd_same]; intro z; cases z) hdp, s1.up p _ upd_same hpa, .nil, rfl, fun x h => by simp at h, by rw [Nat.zero_mul, Nat.add_zero]; exact m1, en1.mono s1.ud⟩
    · rintro i σ' Hd' H' ⟨acc, rs, h1, h2, _⟩
      exact ⟨h1, h2.sub⟩
    · rintro i d σ1 Hd2 H2 hd ⟨acc, rs, h1, h2, h3, h4, h5, h6, h7, h8, h9⟩
      have hir : i < r := by
        have := (List.getElem?_eq_some_iff.mp hd).1
        simpa using this
      refine ⟨_, _, _, h9, g_name 6 (fun _ => sc37.nd), fun σ2 Hd3 H3 s3 en3 D' _ hD' => ?_⟩
      have hm2 := mul1 (show i < count by omega)
      have e2 : (i + 1) * (2 + long) = i * (2 + long) + (2 + long) := Nat.succ_mul _ _
      obtain ⟨v5, hv5, iv5⟩ := en3.2 5 (.raw (.ref p)) rfl
      rw [iv5.raw_inv] at hv5
      have tk : ER K am (2 + long) (wE (un (dCx P w K mg base n37 "_law_runs" (top 37) f cdv A outer s H E)) (argOf (exprOf (forBody (stm 37 1))))) ([some (.raw (.ref am)), some (.int (total : Int)), some (.int (count : Int)), some (.int (tp : Int)), some (.int (long : Int)), some (.raw (.ref p)), none].set 6 (some d)) (fun d => ∃ x, d = encRun x ∧ runIn total tp long x) :=
        er_is (er_tux (Gs := fun l => ∃ x, l = [encO x.1, .str (figS x.2)] ∧ runIn total tp long x) (G := fun d => ∃ x, d = encRun x ∧ runIn total tp long x) (era_is (era_cons (er_op (G := fun d => ∃ k : Nat, d = .int (k : Int) ∧ 1 ≤ k ∧ k ≤ tp) (fun _ => op_add) (er_ev x_int) (er_draw (lim := tp) (fun _ => C) (fun _ => hr) (a_two (x_var 0) (x_var 3)) (by omega) (by omega)) (by
            rintro x y rfl ⟨r, hr, rfl⟩
            exact ⟨_, rd_ii, r + 1, congrArg Dt.int (by omega), by omega, by omega⟩))
          (era_cons (er_call (fun _ => C2) (fun _ => hr) (a_cons (x_var 0) (a_two (x_var 1) (x_var 4))) ⟨total, long, rfl, ht1, ht2, hl1, hl2, rfl, rfl⟩) era_nil)) (Nat.le_refl _) (by
          rintro l ⟨d1, l1, rfl, ⟨k, rfl, k1, k2⟩, d2, l2, rfl, ⟨f, rfl, hf⟩, rfl⟩
          exact ⟨(some k, f), rfl, ⟨k, rfl, k1, k2⟩, hf⟩)) (by
          rintro l ⟨x, rfl, _⟩
          exact Nat.le_of_ble_eq_true rfl) (by
          rintro l ⟨x, rfl, hx⟩
          exact ⟨x, rfl, hx⟩)) (by omega) (fun _ h => h)
      refine c_one (c_expr (c_app 5 hv5 (s3.ex _ _ h4) (tk _ σ2 Hd3 H3 (by omega) s3.sub en3 ((MD K am _).mono s3 h8) _ fun v d Hd4 H4 g s4 m4 i4 => ?_) (K := K)))
      obtain ⟨x, rfl, hx⟩ := g
      have s24 : Stp (· = am) Hd H Hd4 H4 := h2.trans (s3.nom.trans s4)
      have s34 : Stp (· = am) Hd2 H2 Hd4 H4 := s3.nom.trans s4
      have hd4 : Hd4 p = none := s34.sep p (by rw [h4]; intro z; cases z) h3
      have s5 := s24.mutNew (o := .lst (acc ++ [v])) np hd4
      refine ⟨p, acc, v, rfl, rfl, s34.up p _ h4 hpa, ?_, hD' _ Hd4 _ (h1.trans s34.ud) ⟨acc ++ [v], rs ++ [x], h1.trans s34.ud, s5, hd4, upd_same, ?_, by rw [List.length_append, h6]; rfl, fun y hy => ?_, ?_, ?_⟩⟩
      · rw [h5.length, List.length_map, h6]
        exact Nat.lt_of_lt_of_le (show i < 1000 by omega) (by decide)
      · rw [List.map_append]
        exact (h5.mono s34.ud).append (.cons i4 .nil)
      · rcases List.mem_append.mp hy with hy | hy
        · exact h7 y hy
        · rw [List.mem_singleton.mp hy]; exact hx
      · refine md_put (MD.le m4 ?_) hpa
        omega
      · exact (en3.mono s4.ud).weak rfl (Wk.get (.keep (.keep (.keep (.keep (.keep (.keep (.skip .nil))))))))
    · rintro σ1 Hd2 H2 ⟨acc, rs, h1, h2, h3, h4, h5, h6, h7, h8, h9⟩
      rw [List.length_map, List.length_range] at h6 h8
      obtain ⟨v5, hv5, iv5⟩ := h9.2 5 (.raw (.ref p)) rfl
      rw [iv5.raw_inv] at hv5
      have s3 := h2.freeze np h3 h4
      have uD : Ex Hd2 (upd Hd2 p (.lst acc)) := Ex.new h3
      have en3 := (h9.mono uD).up (i := 5) hv5 (.lst upd_same (h5.mono uD))
      have m3 := md_fr (o := .lst acc) h8 hpa h3
      have hm2 := mul1 (show r < count by omega)
      have e2 : (r + 1) * (2 + long) = r * (2 + long) + (2 + long) := Nat.succ_mul _ _
      have tk : ER K am (1 + long) (wE (un (dCx P w K mg base n37 "_law_runs" (top 37) f cdv A outer s H E)) (retOf (stm 37 2))) ([some (.raw (.ref am)), some (.int (total : Int)), some (.int (count : Int)), some (.int (tp : Int)), some (.int (long : Int)), some (.raw (.ref p)), none].set 5 (some (.lst (rs.map encRun)))) (fun d => ∃ rs, d = encRuns rs ∧ RunsOk total rs ∧ rs.length ≤ count ∧ ∀ r ∈ rs, r.2.length ≤ long ∧ ∀ n, r.1 = some n → n ≤ tp) :=
        er_ct (G1 := fun d => ∃ f, d = .lst ((rs ++ [(none, f)]).map encRun) ∧ figsR total long f) (fun _ => by have := call_tupleX (X := dCx P w K mg base n37 "_law_runs" (top 37) f cdv A outer s H E); exact this) boot_tuple (fun _ => T.tuple) (er_is (er_op (G := fun d => ∃ f, d = .lst ((rs ++ [(none, f)]).map encRun) ∧ figsR total long f) (fun _ => op_cat) (er_ev (x_var 5)) (er_lst (Gs := fun l => ∃ f, l = [encRun (none, f)] ∧ figsR total long f) (G := fun d => ∃ f, d = .lst [encRun (none, f)] ∧ figsR total long f) (era_is (era_cons (er_tux (Gs := fun l => ∃ f, l = [.non, .str (figS f)] ∧ figsR total long f) (G := fun d => ∃ f, d = encRun (none, f) ∧ figsR total long f) (era_is (era_cons (er_ev x_non) (era_cons (er_call (fun _ => C2) (fun _ => hr) (a_cons (x_var 0) (a_two (x_var 1) (x_var 4))) ⟨total, long, rfl, ht1, ht2, hl1, hl2, rfl, rfl⟩) era_nil)) (Nat.le_refl _) (by
            rintro l ⟨d1, l1, rfl, rfl, d2, l2, rfl, ⟨f, rfl, hf⟩, rfl⟩
            exact ⟨f, rfl, hf⟩)) (by
            rintro l ⟨x, rfl, _⟩
            exact Nat.le_of_ble_eq_true rfl) (by
            rintro l ⟨x, rfl, hx⟩
            exact ⟨x, rfl, hx⟩)) era_nil) (Nat.le_refl _) (by
            rintro l ⟨d1, l1, rfl, ⟨f, rfl, hf⟩, rfl⟩
            exact ⟨f, rfl, hf⟩)) (by
            rintro l ⟨x, rfl, _⟩
            exact Nat.le_of_ble_eq_true rfl) (by
            rintro l ⟨x, rfl, hx⟩
            exact ⟨x, rfl, hx⟩)) (by
            rintro x y rfl ⟨f, rfl, hf⟩
            refine ⟨_, rd_cat (by rw [List.length_map, h6]; show r + 1 ≤ 100000; omega), f, ?_, hf⟩
            rw [List.map_append]
            rfl)) (by omega) (fun _ h => h)) (by
          rintro x ⟨f, rfl, hf⟩
          refine ⟨_, rc_tupleX, rs ++ [(none, f)], rfl, runs_snoc (by omega) hl2 hf h7, by rw [List.length_append, h6]; show r + 1 ≤ count; omega, fun y hy => ?_⟩
          rcases List.mem_append.mp hy with hy | hy
          · obtain ⟨⟨n, k1, k2, k3⟩, k4⟩ := h7 y hy
            exact ⟨k4.2.1, fun n' e => by rw [k1] at e; cases e; exact k3⟩
          · rw [List.mem_singleton.mp hy]
            exact ⟨hf.2.1, fun n e => by cases e⟩)
      refine c_one (c_ret (tk _ σ1 _ H2 (by omega) s3.sub en3 m3 Q fun v d Hd3 H3 g s4 m4 i4 => q v d Hd3 H3 g (s3.trans s4) (MD.le m4 ?_) i4))
      omega
abbrev n38 : List Str := ["_law_m", "_law_most", "_law_count", "_law_top", "_law_long", "_law_people_here"]
theorem sc38 : FnScope n38 ["_law_m", "_law_most", "_law_count", "_law_top", "_law_long"] (defScope (top 38)) := ⟨rfl, rfl, rfl, by decide +kernel, rfl, by decide +kernel, by decide +kernel⟩
def RDeal : List Dt → Nat → (Dt → Prop) → Prop := fun ts c G => ∃ most count tp long : Nat, ts = [.int (most : Int), .int (count : Int), .int (tp : Int), .int (long : Int)] ∧ 1 ≤ most ∧ most ≤ 4 ∧ 1 ≤ count ∧ count ≤ 4 ∧ 1 ≤ tp ∧ tp ≤ 9 ∧ 1 ≤ long ∧ long ≤ 6 ∧ c = 100 ∧ G = fun d => ∃ dl, d = encDeal dl ∧ DealS dl
theorem d_dealt (T : TX mg) (D : DefAt K mg "_law_deal" (top 38) ["_law_m", "_law_most", "_law_count", "_law_top", "_law_long"]) (C : Callee P w K mg base "_law_people" 3 ["_law_m", "_law_most"] (DSp K RPeople)) (C2 : Callee P w K mg base "_law_runs" 3 ["_law_m", "_law_total", "_law_count", "_law_top", "_law_long"] (DSp K RRuns)) : Callee P w K mg base "_law_deal" 4 ["_law_m", "_law_most", "_law_count", "_law_top", "_law_long"] (DSp K RDeal) :=
  cal_draw D sc38 (by rintro _ _ _ ⟨t, l, _, _, rfl, _⟩; rfl) fun f cdv A outer s H E hr Hd am m vs ts c G Q ex md en hR hm q => by
    obtain ⟨most, count, tp, long, rfl, ht1, ht2, hc1, hc2, hp1, hp2, hl1, hl2, rfl, rfl⟩ := hR
    have e1 : ER K am 2 (wE (un (dCx P w K mg base n38 "_law_deal" (top 38) f cdv A outer s H E)) (asgOf (stm 38 0))) (startD n38 [.raw (.ref am), .int (most : Int), .int (count : Int), .int (tp : Int), .int (long : Int)]) _ := er_call (fun _ => C) (fun _ => hr) (a_two (x_var 0) (x_var 1)) ⟨most, rfl, ht1, by omega, rfl, rfl⟩
    refine c_cons (c_set 5 (fun _ => sc38.nd) (e1 m _ Hd H (by omega) ex en md _ fun v d Hd1 H1 g s1 m1 i1 => ?_))
    obtain ⟨ns, rfl, ok, hn⟩ := g
    have hn1 := ok.pos
    have hn6 := ok.most
    have en1 := (en.mono s1.ud).set (i := 5) i1
    have hcl : count * (2 + long) ≤ 4 * 8 := Nat.mul_le_mul hc2 (by omega)
    have e2 : ER K am 90 (wE (un (dCx P w K mg base n38 "_law_deal" (top 38) f cdv A outer s H E)) (retOf (stm 38 1))) ((startD n38 [.raw (.ref am), .int (most : Int), .int (count : Int), .int (tp : Int), .int (long : Int)]).set 5 (some (encN ns))) (fun d => ∃ dl, d = encDeal dl ∧ DealS dl) :=
      er_is (er_tux (Gs := fun l => ∃ dl, l = [encN dl.names, encRuns dl.runs] ∧ DealS dl) (G := fun d => ∃ dl, d = encDeal dl ∧ DealS dl) (era_is (era_cons (er_ev (x_var 5)) (era_cons (er_call (fun _ => C2) (fun _ => hr) (a_cons (x_var 0) (a_cons (ed_is (x_lenT T (x_var 5)) (congrArg (fun k : Nat => Dt.int (k : Int)) (List.length_map ..))) (a_cons (x_var 2) (a_two (x_var 3) (x_var 4))))) ⟨ns.length, count, tp, long, rfl, hn1, hn6, hc1, by omega, hp1, by omega, hl1, by omega, rfl, rfl⟩) era_nil)) (Nat.le_refl _) (by
          rintro l ⟨d1, l1, rfl, rfl, d2, l2, rfl, ⟨rs, rfl, k1, k2, k3⟩, rfl⟩
          refine ⟨⟨ns, rs⟩, rfl, ⟨ok, k1, by show rs.length ≤ 60; omega⟩, by show ns.length ≤ 4; omega, by show rs.length ≤ 4; omega, fun r hr => ⟨by have := (k3 r hr).1; omega, fun n e => by have := (k3 r hr).2 n e; omega⟩⟩)) (by
          rintro l ⟨x, rfl, _⟩
          exact Nat.le_of_ble_eq_true rfl) (by
          rintro l ⟨x, rfl, hx⟩
          exact ⟨x, rfl, hx⟩)) (by omega) (fun _ h => h)
    exact c_one (c_ret (e2 (m + 2) _ Hd1 H1 (by omega) s1.sub en1 m1 Q fun v d Hd2 H2 g s2 m2 i2 => q v d Hd2 H2 g (s1.trans s2) (MD.le m2 (by omega)) i2))
end
end SP
/-! Q16 -/
namespace SP
open PySem PySem.Spec PyProof.Rows L2
/-! ### a row, coin by coin -/
def encRow (l : List Nat) : Dt := .lst (l.map fun c => Dt.str (sgF c))
def rowStep (n : Nat) (acc : List Nat) (r : Run) : List Nat := acc ++ cycRow r.2 (partOf r (n - acc.length))
def rowGo (n : Nat) (rs : List Run) : List Nat := rs.foldl (rowStep n) []
theorem part_le (r : Run) (n : Nat) : partOf r n ≤ n := by
  obtain ⟨s, f⟩ := r
  cases s with
  | none => exact Nat.le_refl _
  | some m => exact Nat.min_le_left _ _
theorem rowGo_len (n : Nat) : ∀ (rs : List Run) (acc : List Nat), acc.length ≤ n → (rs.foldl (rowStep n) acc).length ≤ n
  | [], _, h => h
  | r :: rs, acc, h => by
    refine rowGo_len n rs (rowStep n acc r) ?_
    unfold rowStep
    rw [List.length_append, cyc_len]
    have := part_le r (n - acc.length)
    omega
theorem rowGo_acc (n : Nat) : ∀ (rs : List Run) (acc : List Nat), Endless rs → acc.length ≤ n → rs.foldl (rowStep n) acc = acc ++ rowOf rs (n - acc.length)
  | [], _, h, _ => h.elim
  | [(s, f)], acc, h, _ => by
    obtain ⟨rfl, _⟩ := h
    rfl
  | (s, f) :: r :: rs, acc, h, hl => by
    obtain ⟨⟨m, rfl⟩, _, h⟩ := h
    show (r :: rs).foldl (rowStep n) (acc ++ cycRow f (min (n - acc.length) m)) = _
    rw [rowGo_acc n (r :: rs) _ h (by rw [List.length_append, cyc_len]; omega), row_some, List.length_append, cyc_len, List.append_assoc, Nat.sub_sub]
theorem rowGo_eq {rs : List Run} (h : Endless rs) (n : Nat) : rowGo n rs = rowOf rs n := by
  unfold rowGo
  rw [rowGo_acc n rs [] h (Nat.zero_le _)]
  simp
theorem rowGo_succ {rs : List Run} {n i : Nat} {r : Run} (h : rs[i]? = some r) : rowGo n (rs.take (i + 1)) = rowStep n (rowGo n (rs.take i)) r := by
  unfold rowGo
  rw [take_succ' h, List.foldl_append]
  rfl
def encDeed : Deed → Dt
  | .deal d => .tux [.str "deal", encDeal d]
  | .pay n => .tux [.str "pay", .int (n : Int)]
def encFilm (l : List Deed) : Dt := .lst (l.map encDeed)
theorem film_take {f : List Deed} {i : Nat} {x : Deed} {α : Type} {g : α → Deed → α} {a : α} (h : f[i]? = some x) : (f.take (i + 1)).foldl g a = g ((f.take i).foldl g a) x := by
  rw [take_succ' h, List.foldl_append]
  rfl
theorem seen_len (f : List Deed) (h : ∀ x ∈ f, DeedOk x) : (seenOf f).length ≤ 4 * f.length := by
  suffices ∀ (l : List Deed) (acc : List Str), (∀ x ∈ l, DeedOk x) → (l.foldl seenStep acc).length ≤ acc.length + 4 * l.length by
    have := this f [] h
    simpa [seenOf] using this
  intro l
  induction l with
  | nil => intro acc _; simp
  | cons x r ih =>
    intro acc hx
    have h1 := ih (seenStep acc x) fun y hy => hx y (List.mem_cons_of_mem _ hy)
    have h2 : (seenStep acc x).length ≤ acc.length + 4 := by
      cases x with
      | pay n => exact Nat.le_add_right _ _
      | deal d =>
        have hd : DealS d := hx _ List.mem_cons_self
        show (acc ++ d.names.filter _).length ≤ _
        rw [List.length_append]
        have h2 := List.length_filter_le (fun m => !decide (m ∈ acc)) d.names
        have h3 := hd.n4
        omega
    rw [List.length_cons]
    show (r.foldl seenStep (seenStep acc x)).length ≤ _
    omega
section
variable {P : Program} {w : World} {K : PySem.W.Frag} {mg : Str → Option Value} {base : Heap}
def forIt : Stmt → Expr
  | .For _ it _ _ _ => it
  | _ => .Constant .none 0 ⟨0, 0, 0, 0⟩
def posOf : Expr → Pos
  | .Name _ p => p
  | _ => ⟨0, 0, 0, 0⟩
def spos : Stmt → Pos
  | .For _ _ _ _ p => p
  | _ => ⟨0, 0, 0, 0⟩
abbrev n39 : List Str := ["_law_runs_here", "_law_size", "_law_found", "_law_coins", "_law_figures_here", "_law_left", "_law_k"]
theorem sc39 : FnScope n39 ["_law_runs_here", "_law_size"] (defScope (top 39)) := ⟨rfl, rfl, rfl, by decide +kernel, rfl, by decide +kernel, by decide +kernel⟩
def RRow : List Dt → Dt → Prop := fun ts r => ∃ (rs : List Run) (n : Nat), ts = [encRuns rs, .int (n : Int)] ∧ Endless rs ∧ figsFit rs ∧ n ≤ 10000 ∧ r = encRow (rowOf rs n)
theorem d_row (T : TX mg) (D : DefAt K mg "_law_row" (top 39) ["_law_runs_here", "_law_size"]) : Callee P w K mg base "_law_row" 1 ["_law_runs_here", "_law_size"] (spD K RRow) :=
  cal_data D sc39 (by rintro _ _ ⟨rs, n, rfl, _⟩; rfl) fun f cdv A outer s H E hr ts r hR => by
    obtain ⟨rs, n, rfl, hen, hfit, hn, rfl⟩ := hR
    have loop := s_forG (X := dCx P w K mg base n39 "_law_row" (top 39) f cdv A outer s H E) (K := K) (Φ := MP.tt) (tg := forTg (stm 39 1)) (it := .Name "_law_runs_here" (posOf (forIt (stm 39 1)))) (body := forBody (stm 39 1)) (pos := spos (stm 39 1)) rs encRun (i_tup (x_var 0)) (fun i => [some (encRuns rs), some (.int (n : Int)), some (encRow (rowGo n (rs.take i))), none, none, none, none]) rfl (by
      rintro i ⟨sz, fg⟩ ha
      have hf : 1 ≤ fg.length ∧ fg.length ≤ 400 := hfit _ (List.mem_of_getElem? ha)
      have hl : (rowGo n (rs.take i)).length ≤ n := rowGo_len n _ [] (Nat.zero_le _)
      have lf := figS_len fg
      show ∃ ρ1 js, _ ∧ SvD K MP.tt _ _ (.nx [some (encRuns rs), some (.int (n : Int)), some (encRow (rowGo n (rs.take (i + 1)))), none, none, none, none])
      rw [rowGo_succ ha]
      generalize rowGo n (rs.take i) = acc at hl ⊢
      have ll : (acc.map fun c => Dt.str (sgF c)).length = acc.length := List.length_map ..
      have e0 : ((n : Nat) : Int) - (((acc.map fun c => Dt.str (sgF c)).length : Nat) : Int) = ((n - acc.length : Nat) : Int) := by rw [ll]; omega
      have hple := part_le (sz, fg) (n - acc.length)
      refine ⟨_, _, g_two (k1 := 3) (k2 := 4) (fun _ => sc39.nd), ss_cons (s_set 5 (fun _ => sc39.nd) (d := .int ((partOf (sz, fg) (n - acc.length) : Nat) : Int)) ?_) (ss_one (sv_wk (s_set 2 (fun _ => sc39.nd) (d := encRow (rowStep n acc (sz, fg))) (ed_is (x_cat (x_var 2) (x_lcA sc39 [("_law_k", 6)] (List.range (partOf (sz, fg) (n - acc.length))) (fun (k : Nat) => .int (k : Int)) (fun (k : Nat) => .str (sgF (cycAt fg k))) (it_is (i_rng (fun _ => T.range) (a_one (x_var 5)) ⟨by omega, by omega⟩) (by rw [Int.toNat_natCast])) (by rw [List.length_range]; omega) (fun k _ => ⟨_, _, g_name 6 (fun _ => sc39.nd), by simp, ?_⟩)) ?_) ?_)) (.keep (.keep (.keep (.skip (.skip (.skip (.skip .nil)))))))))⟩
      · cases sz with
        | none => exact x_if (t_cmp (fun _ => op_isN) (x_var 3) x_non (rd_isn rfl) (nomark _)) (fun _ => ed_is (x_sub (x_var 1) (x_lenL T (x_var 2))) (congrArg Dt.int e0)) (fun h => by exact absurd (show true = false from h) (by decide))
        | some m => exact x_if (t_cmp (fun _ => op_isN) (x_var 3) x_non (rd_isn rfl) (nomark _)) (fun h => by exact absurd (show false = true from h) (by decide)) (fun _ => ed_is (x_min T (x_var 3) (x_sub (x_var 1) (x_lenL T (x_var 2)))) (congrArg Dt.int (by
            rw [e0]
            show min (m : Int) ((n - acc.length : Nat) : Int) = ((min (n - acc.length) m : Nat) : Int)
            omega)))
      · have ht : k % fg.length < fg.length := Nat.mod_lt _ hf.1
        refine x_ixS (k % fg.length) (x_var 4) (x_mod (x_int1 T (x_var 6)) (x_lenS T (x_var 4) (show (figS fg).length ≤ 100000 by omega)) (show (0 : Int) < (((figS fg).length : Nat) : Int) by omega)) (show ((k : Nat) : Int) % (((figS fg).length : Nat) : Int) = ((k % fg.length : Nat) : Int) by rw [lf]; omega) ?_ (show (figS fg).length ≤ 100000 by omega)
        rw [figS_cps, List.getElem?_map, List.getElem?_eq_getElem ht]
        unfold cycAt
        rw [List.getD_eq_getElem?_getD, List.getElem?_eq_getElem ht]
        rfl
      · rw [ll, List.length_map, List.length_range]
        omega
      · unfold encRow rowStep cycRow
        rw [List.map_append, List.map_map]
        rfl)
    refine ⟨_, ss_cons (s_set 2 (fun _ => sc39.nd) (d := encRow []) (x_lst a_nil)) (ss_cons loop (ss_one (s_ret (x_var 2)))), .inl ?_⟩
    rw [List.take_length, rowGo_eq hen]
abbrev n40 : List Str := ["_law_film", "_law_found", "_law_kind", "_law_thing", "_law_name"]
theorem sc40 : FnScope n40 ["_law_film"] (defScope (top 40)) := ⟨rfl, rfl, rfl, by decide +kernel, rfl, by decide +kernel, by decide +kernel⟩
def RNamesIn : List Dt → Dt → Prop := fun ts r => ∃ film, ts = [encFilm film] ∧ (∀ x ∈ film, DeedOk x) ∧ film.length ≤ 15 ∧ r = .lst ((namesOf film).map Dt.str)
theorem d_names_in (T : TX mg) (D : DefAt K mg "_law_names_in" (top 40) ["_law_film"]) : Callee P w K mg base "_law_names_in" 1 ["_law_film"] (spD K RNamesIn) :=
  cal_data D sc40 (by rintro _ _ ⟨film, rfl, _⟩; rfl) fun f cdv A outer s H E hr ts r hR => by
    obtain ⟨film, rfl, hok, hl, rfl⟩ := hR
    have hsl : ∀ i, (seenOf (film.take i)).length ≤ 60 := fun i => by
      have := seen_len (film.take i) fun x hx => hok x (List.mem_of_mem_take hx)
      rw [List.length_take] at this
      omega
    have loop := s_forG (X := dCx P w K mg base n40 "_law_names_in" (top 40) f cdv A outer s H E) (K := K) (Φ := MP.tt) (tg := forTg (stm 40 1)) (it := .Name "_law_film" (posOf (forIt (stm 40 1)))) (body := forBody (stm 40 1)) (pos := spos (stm 40 1)) film encDeed (i_lst (x_var 0)) (fun i => [some (encFilm film), some (.lst ((seenOf (film.take i)).map Dt.str)), none, none, none]) rfl (by
      rintro i x ha
      have hx := hok x (List.mem_of_getElem? ha)
      have hs := hsl i
      show ∃ ρ1 js, _ ∧ SvD K MP.tt _ _ (.nx [some (encFilm film), some (.lst ((seenOf (film.take (i + 1))).map Dt.str)), none, none, none])
      rw [show seenOf (film.take (i + 1)) = seenStep (seenOf (film.take i)) x from film_take ha]
      generalize seenOf (film.take i) = acc at hs ⊢
      cases x with
      | pay k => exact ⟨_, _, g_two (k1 := 2) (k2 := 3) (fun _ => sc40.nd), ss_one (sv_wk (s_ifN (et_is (t_cmp (fun _ => op_eq) (x_var 2) x_str rd_eqs (nomark _)) (by decide))) (.keep (.keep (.skip (.skip (.skip .nil))))))⟩
      | deal d =>
        have hd : DealS d := hx
        refine ⟨_, _, g_two (k1 := 2) (k2 := 3) (fun _ => sc40.nd), ss_one (sv_wk (s_ifT (et_is (t_cmp (fun _ => op_eq) (x_var 2) x_str rd_eqs (nomark _)) (by decide)) (ss_one (s_set 1 (fun _ => sc40.nd) (d := .lst ((seenStep acc (.deal d)).map Dt.str)) (ed_is (x_cat (x_var 1) (x_lc sc40 [("_law_name", 4)] d.names Dt.str (fun n => !decide (n ∈ acc)) Dt.str (i_tup (x_ixT 0 (x_var 3) x_int rfl rfl)) (by have := hd.n4; omega) (fun n hn => ⟨_, _, g_name 4 (fun _ => sc40.nd), by simp, ts_one (t_ninL (x_var 4) (x_var 1) (by with_unfolding_all rfl)), fun _ => x_var 4⟩)) ?_) ?_)))) (.keep (.keep (.skip (.skip (.skip .nil))))))⟩
        · rw [List.length_map, List.length_map]
          have h1 := List.length_filter_le (fun n => !decide (n ∈ acc)) d.names
          have := hd.n4
          omega
        · rw [← List.map_append]
          rfl)
    have hs := hsl film.length
    rw [List.take_length] at hs
    refine ⟨_, ss_cons (s_set 1 (fun _ => sc40.nd) (d := .lst ([].map Dt.str)) (x_lst a_nil)) (ss_cons loop (ss_one (s_ret (x_sortedS T (ms := namesOf film) (ns := seenOf film) (ed_is (x_var 1) (by rw [List.take_length])) (by omega) (fun ys hp hs => sorted_is (seen_nodup hok) hp hs))))), .inl rfl⟩
end
end SP
/-! Q17 -/
namespace SP
open PySem PySem.Spec PyProof.Rows L2
section
variable {K : PySem.W.Frag} {Hd H : Hp} {σ : L2.St} {ρ : Rho} {F : Unit → Cx} {a e : Expr} {pos p : Pos} {mg : Str → Option Value} {Q : VK} {Φ : MP}
/-- dict([..]) of pairs -/
theorem ev_dictL (T : TX mg) {l : Cnt} (en : EnvD K Hd σ ρ) (ex : Ex Hd H) (h : EvD K MP.tt (wE F a) ρ (.lst (l.map prD))) (hs : (keysN l).Nodup) (q : ∀ p Hd' H', (OwnD Hd H p l).p Hd' H' → Q (.ref p) H') (hmg : ∀ i, (F i).mg = mg := by intro _; rfl) (hc : ∀ i, (F i).calm = true := by intro _; rfl) (hK : ∀ i, (F i).K = K := by intro _; rfl) (hg : ∀ i, Gl (F i) "dict" := by intro _; rfl)
    (he : ∀ i, starEach [a] (F i).env = (false, eval a (F i).env) :: starEach [] (F i).env := by intro _; rfl) (hpl : ∀ i, (backTo pos (starEach [] (F i).env)).any (·.1) = false := by intro _; rfl) : wE F (.Call (.Name "dict" p) [a] [] pos) σ H Q := by
  refine c_ct (r := fun xs H Q => ∃ (a : Addr) (ps : List Addr) (kvs : List (Key × V)), xs = [.ref a] ∧ SqL K H a (ps.map V.ref) ∧ Paired (fun p kv => SqT K H p [kV kv.1, kv.2]) ps kvs ∧ ∀ p, H p = none → Q (.ref p) (upd H p (.dK (mergeK [] kvs)))) (fun i => by have := call_dictP (X := F i) (hc i); rwa [hK i] at this) boot_dict (fun i => by rw [hmg i]; exact T.dict) (c_acons (h σ Hd H ex en True.intro _ fun v Hd' H' s iv => c_anil ?_) he) hg (by decide) (by decide) he hpl
  obtain ⟨b, us, rfl, hb, ia⟩ := iv.lst_inv
  obtain ⟨ps, rfl, hp⟩ := had_pairs ia
  refine ⟨b, ps, kvD l, rfl, .inl (.inl (s.sub _ _ hb)), paired_imp (fun _ _ z => z H' s.sub) hp, fun p hp' => ?_⟩
  have e : mergeK [] (kvD l) = kvD l := by
    have := merge_kvD l [] (by simpa [keysN] using hs)
    simpa [kvD] using this
  rw [e]
  have n0 : H p = none := by
    cases z : H p with
    | none => rfl
    | some u => exact absurd hp' (s.al p (by rw [z]; intro q; cases q))
  exact q p Hd' _ ⟨s.trans (Stp.newM s.sub hp'), n0, sub_none s.sub hp', upd_same⟩
/-- d[e] += 1 -/
theorem si_dinc {kd : Nat} {nd : Str} {Hd0 H0 : Hp} {d : Addr} {l : Cnt} {n : Str} {k : Nat} {j jj : Nat} {q1 q2 tpos : Pos} (hr : ∀ i, Room j (F i).A) (hd : ρ[kd]? = some (some (.raw (.ref d)))) (he : EvD K (OwnD Hd0 H0 d l) (wE F e) ρ (.str n)) (hk : getN l n = some k) (hl : l.length < 100000)
    (ha : ∀ ov iv new, augStore e ov iv new = (do holding [new, ov, iv] (setItem ov iv new); release [new, ov, iv] []; pure .next) := by intros; rfl)
    (hN1 : ∀ i, (F i).N[kd]? = some nd := by intro _; rfl) (hv1 : ∀ i, Vis (F i).env.scope nd := by intro _; exact Or.inl rfl) (b1 : (nd == ("__debug__" : Str)) = false := by decide) (b4 : (nd == ("__classdict__" : Str)) = false := by decide) :
    SvI K (wS F (.AugAssign (.Subscript (.Name nd q1) e tpos) .Add (.Constant (.int 1) jj q2) pos)) ρ (OwnD Hd0 H0 d l) ρ (OwnD Hd0 H0 d (addN l n 1)) := fun σ Hd H ex en pp D q => by
  obtain ⟨v1, s1, i1⟩ := en.2 kd _ hd
  rw [i1.raw_inv] at s1
  refine ⟨sDAug (tVar kd) (wE F e) (tC (.int 1)) (rAdd), fun i => ps_daug (hu_of (hr i)) (pe_var (hN1 i) (hv1 i) b1 b4) (wE_ok (F := F) (e := e) i) pe_int in_add ha, ?_⟩
  refine ⟨_, s1, he σ Hd H ex en pp _ fun v Hd1 H1 t1 iv => ?_⟩
  obtain ⟨a1, a2, a3, a4⟩ := (OwnD Hd0 H0 d l).mono t1 pp
  rw [iv.str_inv]
  refine ⟨d, .int (k : Int), rfl, ?_, ?_⟩
  · have := DGet.k (k := Sum.inr n) a4
    rw [valV_kvD, hk] at this
    exact this
  refine ⟨(k : Int), 1, rfl, rfl, upd H1 d (.dK (kvD (addN l n 1))), ?_, ?_⟩
  · have := DPut.k (k := Sum.inr n) (v := .int ((k + 1 : Nat) : Int)) a4 (by unfold kvD; rw [List.length_map]; exact Nat.lt_of_lt_of_le hl (by decide))
    rw [putK_kvD] at this
    have e : addN l n 1 = putN l n (k + 1) := by unfold addN; rw [hk]; rfl
    rw [e]
    exact this
  · have a' := a1.mutNew (o := .dK (kvD (addN l n 1))) a2 a3
    exact q σ Hd1 _ t1.ud a'.sub (en.mono t1.ud) ⟨a', a2, a3, upd_same⟩
/-- '012345'.index(sign) -/
theorem x_sindex {apos : Pos} {c : Nat} (hc : c < 6) (ho : EvD K Φ (wE F a) ρ (.str "012345")) (hb : EvD K Φ (wE F e) ρ (.str (sgF c))) (hs : ∀ i, starEach [e] (F i).env = [(false, eval e (F i).env)] := by intro _; rfl) (hbase : ∀ i, attributeBase a "index" (F i).env (eval a (F i).env) = eval a (F i).env := by intro _; rfl) (hline : (apos.endLine == pos.line) = true := by rfl) :
    EvD K Φ (wE F (.Call (.Attribute a "index" apos) [e] [] pos)) ρ (.int (c : Int)) := x_m1 PySem.F.slot_str_index PySem.F.type_str_index (fun _ => mt_sindex) ho hb (fun Hd H v vs e i1 i2 _ Q q => by
    obtain ⟨u, us, rfl, iu, it⟩ := i2.cons_inv
    rw [it.nil_inv, i1.str_inv, iu.str_inv]
    have occ : ∀ c < 6, PySem.Builtin.Str.occurrences ("012345" : Str) (sgF c) 0 ("012345" : Str).length 1 = [c] := by decide +kernel
    exact ⟨_, _, c, [], rfl, rfl, occ c hc, q _ Hd H (.refl e) (.int _)⟩) hs hbase hline
end
def pactD : List Deed → Dt
  | [] => .non
  | x :: r => encDeal (fsOf (x :: r)).deal
theorem addAll_app (l : Cnt) (a b : List (Str × Nat)) : addAll l (a ++ b) = addAll (addAll l a) b := by unfold addAll; rw [List.foldl_append]
theorem ones_app (a b : List Str) : ones (a ++ b) = ones a ++ ones b := by unfold ones; rw [List.map_append]
theorem seen_pre (film : List Deed) (i : Nat) {n : Str} (h : n ∈ seenOf (film.take i)) : n ∈ seenOf film := by
  suffices ∀ (l : List Deed) (acc : List Str), n ∈ acc → n ∈ l.foldl seenStep acc by
    have := this (film.drop i) _ h
    unfold seenOf at this
    rw [← List.foldl_append, List.take_append_drop] at this
    exact this
  intro l
  induction l with
  | nil => intro acc h; exact h
  | cons x r ih =>
    intro acc h
    refine ih _ ?_
    cases x with
    | pay k => exact h
    | deal d => exact List.mem_append_left _ h
theorem own_some (ns : List Str) (ps : List (Str × Nat)) {n : Str} (h : n ∈ ns) : ∃ k, getN (addAll (zeroHad ns) ps) n = some k := by
  rw [getN_all, getN_zero, if_pos h]
  split <;> exact ⟨_, rfl⟩
theorem own_len (ns : List Str) (ps : List (Str × Nat)) : (addAll (zeroHad ns) ps).length ≤ ns.length + ps.length := by
  have := addAll_len ps (zeroHad ns)
  rwa [show (zeroHad ns).length = ns.length from List.length_map ..] at this
section
variable {P : Program} {w : World} {K : PySem.W.Frag} {mg : Str → Option Value} {base : Heap}
def headE : Expr → Expr
  | .Tuple (e :: _) _ _ => e
  | e => e
theorem si_ifF {K : PySem.W.Frag} {ρ ρ1 : Rho} {I I1 : MP} {F : Unit → Cx} {c : Expr} {body orelse : List Stmt} {pos : Pos} (h : EvT K I (wT F c) ρ false) (k : SvI K (wSs F orelse) ρ I ρ1 I1) : SvI K (wS F (.If c body orelse pos)) ρ I ρ1 I1 := fun σ Hd H ex en p D q => c_if (h σ Hd H ex en p _ fun Hd1 H1 s1 => k σ Hd1 H1 s1.sub (en.mono s1.ud) (I.mono s1 p) D fun σ2 Hd2 H2 u2 ex2 en2 p2 => q σ2 Hd2 H2 (s1.ud.trans u2) ex2 en2 p2)
theorem si_ifT {K : PySem.W.Frag} {ρ ρ1 : Rho} {I I1 : MP} {F : Unit → Cx} {c : Expr} {body orelse : List Stmt} {pos : Pos} (h : EvT K I (wT F c) ρ true) (k : SvI K (wSs F body) ρ I ρ1 I1) : SvI K (wS F (.If c body orelse pos)) ρ I ρ1 I1 := fun σ Hd H ex en p D q => c_if (h σ Hd H ex en p _ fun Hd1 H1 s1 => k σ Hd1 H1 s1.sub (en.mono s1.ud) (I.mono s1 p) D fun σ2 Hd2 H2 u2 ex2 en2 p2 => q σ2 Hd2 H2 (s1.ud.trans u2) ex2 en2 p2)
abbrev n41 : List Str := ["_law_film", "_law_own", "_law_pact", "_law_dealt", "_law_paid_so", "_law_name", "_law_kind", "_law_thing", "_law_sign"]
theorem sc41 : FnScope n41 ["_law_film"] (defScope (top 41)) := ⟨rfl, rfl, rfl, by decide +kernel, rfl, by decide +kernel, by decide +kernel⟩
def hadT (film : List Deed) : Dt := .tup [.dic (kvD (hadOf film)), encDeal (fsOf film).deal, .int ((fsOf film).dealt : Int), .int ((fsOf film).paid : Int)]
def RHad : List Dt → Dt → Prop := fun ts r => ∃ film, ts = [encFilm film] ∧ FilmOk film ∧ film.length ≤ 15 ∧ r = hadT film
def asgTg : Stmt → Expr
  | .Assign (t :: _) _ _ => t
  | _ => .Constant .none 0 ⟨0, 0, 0, 0⟩
theorem d_had (T : TX mg) (D : DefAt K mg "_law_had" (top 41) ["_law_film"]) (C1 : Callee P w K mg base "_law_names_in" 1 ["_law_film"] (spD K RNamesIn)) (C2 : Callee P w K mg base "_law_row" 1 ["_law_runs_here", "_law_size"] (spD K RRow)) : Callee P w K mg base "_law_had" 2 ["_law_film"] (spD K RHad) :=
  cal_dataC D sc41 (by rintro _ _ ⟨film, rfl, _⟩; rfl) fun f cdv A outer s H E hr Hd vs ts r Q ex en hR q => by
    obtain ⟨film, rfl, hok, hl, rfl⟩ := hR
    have nlen : (namesOf film).length ≤ 60 := by
      unfold namesOf
      rw [(sortS_perm _).length_eq]
      have := seen_len film hok.all
      omega
    have nnd := names_nodup hok.all
    have first : EvD K MP.tt (wE (un (dCx P w K mg base n41 "_law_had" (top 41) f cdv A outer s H E)) (argOf (headE (asgOf (stm 41 0))))) (startD n41 [encFilm film]) (.lst ((zeroHad (namesOf film)).map prD)) :=
      ed_is (x_lcA sc41 [("_law_name", 5)] (namesOf film) Dt.str (fun n => .tup [.str n, .int 0]) (i_lst (x_call (fun _ => C1) (fun _ => hr) (a_one (x_var 0)) ⟨film, rfl, hok.all, hl, rfl⟩)) (by omega) (fun n _ => ⟨_, _, g_name 5 (fun _ => sc41.nd), by simp, x_tup (a_two (x_var 5) x_int)⟩)) (by
        unfold zeroHad
        rw [List.map_map]
        rfl)
    refine c_cons (c_asg (c_tup (c_acons (ev_dictL T en ex first (by rw [keys_zero]; exact nnd) fun p Hd1 H1 own => c_acons (c_non (c_acons (c_int (c_acons (c_int (c_anil ⟨show 4 ≤ sizeLine by decide, fun t nt => ?_⟩))))))))))
    have ex1 : Ex Hd1 H1 := own.1.sub
    have s2 : Stp NoM Hd1 H1 (upd Hd1 t (.tup [.ref p, .non, .int 0, .int 0])) _ := Stp.new ex1 nt
    have own2 := (OwnD Hd H p (zeroHad (namesOf film))).mono s2 own
    have tg : GvD K (wG (un (dCx P w K mg base n41 "_law_had" (top 41) f cdv A outer s H E)) (asgTg (stm 41 0))) (.tup [.raw (.ref p), .non, .int 0, .int 0]) (startD n41 [encFilm film]) [some (encFilm film), some (.raw (.ref p)), some .non, some (.int 0), some (.int 0), none, none, none, none] _ :=
      g_tup (m := 4) (g_cons (g_name 1 (fun _ => sc41.nd)) (g_cons (g_name 2 (fun _ => sc41.nd)) (g_cons (g_name 3 (fun _ => sc41.nd)) (g_cons (g_name 4 (fun _ => sc41.nd)) g_nil))))
    refine tg _ _ _ _ s2.sub (en.mono (own.1.ud.trans s2.ud)) (.tup upd_same (.cons (.raw _) (.cons .non (.cons (.int 0) (.cons (.int 0) .nil))))) _ fun σ2 en2 _ => ?_
    refine c_cons ((si_for film encDeed (i_lst (x_var 0)) (fun i => [some (encFilm film), some (.raw (.ref p)), some (pactD (film.take i)), some (.int ((fsOf (film.take i)).dealt : Int)), some (.int ((fsOf (film.take i)).paid : Int)), none, none, none, none]) (fun i => OwnD Hd H p (addAll (zeroHad (namesOf film)) (ones (fsOf (film.take i)).coins))) rfl (fun _ _ z => z) ?_) σ2 _ _ s2.sub en2 own2 _ fun σ3 Hd3 H3 u3 ex3 en3 own3 => ?_)
    · rintro i x ha
      have hx := hok.all x (List.mem_of_getElem? ha)
      have htk : film.take (i + 1) = film.take i ++ [x] := take_succ' ha
      have efs : fsOf (film.take (i + 1)) = fsStep (fsOf (film.take i)) x := by rw [htk, fs_snoc]
      have epd : pactD (film.take (i + 1)) = encDeal (fsStep (fsOf (film.take i)) x).deal := by
        rw [← efs]
        cases e : film.take (i + 1) with
        | nil => rw [htk] at e; simp at e
        | cons a r => rfl
      show ∃ ρ1 js, _ ∧ SvI K _ _ _ [some (encFilm film), some (.raw (.ref p)), some (pactD (film.take (i + 1))), some (.int ((fsOf (film.take (i + 1))).dealt : Int)), some (.int ((fsOf (film.take (i + 1))).paid : Int)), none, none, none, none] (OwnD Hd H p (addAll (zeroHad (namesOf film)) (ones (fsOf (film.take (i + 1))).coins)))
      rw [epd, efs]
      cases x with
      | deal d =>
        refine ⟨_, _, g_two (k1 := 6) (k2 := 7) (fun _ => sc41.nd), si_one (si_wk (svi_of (s_ifT (et_is (t_cmp (fun _ => op_eq) (x_var 6) x_str rd_eqs (nomark _)) (by decide)) (ss_one (s_par (k1 := 2) (k2 := 3) (fun _ => sc41.nd) (a_two (x_var 7) x_int))))) (.keep (.keep (.keep (.keep (.keep (.skip (.skip (.skip (.skip .nil))))))))))⟩
      | pay c =>
        obtain ⟨c1, c2⟩ : 1 ≤ c ∧ c ≤ 14 := hx
        have hi1 : 1 ≤ i := by
          obtain ⟨d, r, e⟩ := hok.first
          rcases Nat.eq_zero_or_pos i with z | z
          · rw [z, e] at ha
            cases ha
          · exact z
        have hfi := hok.take i hi1
        have ok := fs_ok hfi
        have epi : pactD (film.take i) = encDeal (fsOf (film.take i)).deal := by
          cases e : film.take i with
          | nil =>
            obtain ⟨d, r, e2⟩ := hfi.first
            rw [e] at e2
            cases e2
          | cons a r => rfl
        rw [epi]
        have hin : ∀ n ∈ (fsOf (film.take i)).deal.names, n ∈ namesOf film := fun n hn => mem_names.mpr (seen_pre film i (ok.inSeen n hn))
        have hpd := ok.paid
        have hdl := ok.dealt
        have hcl := ok.len
        have htl : (film.take i).length ≤ 15 := by rw [List.length_take]; omega
        have hds := ok.deal
        generalize fsOf (film.take i) = fs at *
        obtain ⟨⟨ns, rs⟩, dl, pd, cs⟩ := fs
        have hds' : DealS ⟨ns, rs⟩ := hds
        have hdl' : dl ≤ 14 * (film.take i).length := hdl
        have hcl' : cs.length = pd := hcl
        have hpd' : pd ≤ 14 * (film.take i).length := hpd
        have ec : ((dl : Int) + (c : Int)) = ((dl + c : Nat) : Int) := by omega
        have ep : ((pd : Int) + (c : Int)) = ((pd + c : Nat) : Int) := by omega
        refine ⟨_, _, g_two (k1 := 6) (k2 := 7) (fun _ => sc41.nd), si_one (si_ifF (et_is (t_cmp (fun _ => op_eq) (x_var 6) x_str rd_eqs (nomark _)) (by decide)) (si_cons (si_for (R := fun _ => [some (encFilm film), some (.raw (.ref p)), some (encDeal ⟨ns, rs⟩), some (.int (dl : Int)), some (.int (pd : Int)), none, some (.str "pay"), some (.int (c : Int)), none]) (J := fun j => OwnD Hd H p (addAll (addAll (zeroHad (namesOf film)) (ones cs)) (ones ((coinsOf ⟨ns, rs⟩ dl c).take j)))) ((rowOf rs (dl + c)).drop dl) (fun k => .str (sgF k)) (it_is (i_lst (x_slL (x_call (fun _ => C2) (fun _ => hr) (a_two (x_ixT 1 (x_var 2) x_int rfl rfl) (ed_is (x_add (x_var 3) (x_var 7)) (congrArg Dt.int ec))) ⟨rs, dl + c, rfl, runs_endless hds'.ok.runs, fit_of hds', by omega, rfl⟩) (o_some (x_var 3)) o_none)) ?_) rfl (fun _ _ z => z) ?_)
          (si_one (si_wk (svi_to (svi_of (s_par (k1 := 3) (k2 := 4) (fun _ => sc41.nd) (a_is (a_two (x_add (x_var 3) (x_var 7)) (x_add (x_var 4) (x_var 7))) (by rw [ec, ep]; rfl)))) rfl ?_) (.keep (.keep (.keep (.keep (.keep (.skip (.skip (.skip (.skip .nil)))))))))))))⟩
        · show cutD ((rowOf rs (dl + c)).map fun k => Dt.str (sgF k)) (some (dl : Int)) none = _
          rw [cutD_drop, ← List.map_drop]
        · rintro j k hj
          have hk6 : k < ns.length := by
            have h1 := List.mem_of_mem_drop (List.mem_of_getElem? hj)
            unfold rowOf at h1
            obtain ⟨i, _, rfl⟩ := List.mem_map.mp h1
            exact runs_lt hds'.ok.runs i
          have hn4 : ns.length ≤ 4 := hds'.n4
          have hcj : (coinsOf ⟨ns, rs⟩ dl c)[j]? = some (ns.getD k "") := by
            unfold coinsOf
            rw [List.getElem?_map, hj]
            rfl
          have enk : ns[k]? = some (ns.getD k "") := by rw [List.getD_eq_getElem?_getD, List.getElem?_eq_getElem hk6]; rfl
          obtain ⟨q, hq⟩ : ∃ q, getN (addAll (addAll (zeroHad (namesOf film)) (ones cs)) (ones ((coinsOf ⟨ns, rs⟩ dl c).take j))) (ns.getD k "") = some q := by
            rw [← addAll_app]
            exact own_some _ _ (hin _ (List.mem_of_getElem? enk))
          refine ⟨_, _, g_name 8 (fun _ => sc41.nd), si_one (si_wk (svi_to (si_dinc (kd := 1) (fun _ => hr) rfl (x_ixT k (x_ixT 0 (x_var 2) x_int rfl rfl) (x_sindex (show k < 6 by omega) x_str (x_var 8)) rfl (by rw [List.getElem?_map, enk]; rfl)) hq ?_) rfl ?_) (.keep (.keep (.keep (.keep (.keep (.keep (.keep (.keep (.skip .nil))))))))))⟩
          · have h1 := addAll_len (ones ((coinsOf ⟨ns, rs⟩ dl c).take j)) (addAll (zeroHad (namesOf film)) (ones cs))
            have h2 := own_len (namesOf film) (ones cs)
            have h3 : (ones ((coinsOf ⟨ns, rs⟩ dl c).take j)).length ≤ c := by
              unfold ones
              rw [List.length_map, List.length_take, coinsOf_len]
              omega
            have h4 : (ones cs).length = cs.length := List.length_map ..
            omega
          · rw [take_succ' hcj, ones_app, addAll_app]
            rfl
        · show OwnD Hd H p (addAll (addAll (zeroHad (namesOf film)) (ones cs)) (ones ((coinsOf ⟨ns, rs⟩ dl c).take ((rowOf rs (dl + c)).drop dl).length))) = OwnD Hd H p (addAll (zeroHad (namesOf film)) (ones (cs ++ coinsOf ⟨ns, rs⟩ dl c)))
          rw [List.take_of_length_le (by rw [coinsOf_len, List.length_drop, row_len]; omega), ones_app, addAll_app]
    · rw [List.take_length] at own3 en3
      have epf : pactD film = encDeal (fsOf film).deal := by
        obtain ⟨d, r, e⟩ := hok.first
        rw [e]
        rfl
      rw [epf] at en3
      obtain ⟨o1, o2, o3, o4⟩ := own3
      obtain ⟨v1, hv1, iv1⟩ := en3.2 1 _ rfl
      rw [iv1.raw_inv] at hv1
      have o1' : Stp NoM Hd H Hd3 H3 := o1
      have fz := o1'.freeze o2 o3 o4
      have uD : Ex Hd3 (upd Hd3 p (.dK (kvD (hadOf film)))) := Ex.new o3
      have en4 := (en3.mono uD).up (i := 1) hv1 (.dic upd_same)
      exact c_one (c_ret (ev_at en4 fz.sub (Φ := MP.tt) True.intro (d := hadT film) (x_tup (a_cons (x_var 1) (a_cons (x_var 2) (a_two (x_var 3) (x_var 4))))) fun v Hd4 H4 s4 i4 => q v Hd4 H4 (fz.trans s4) i4))
end
end SP
/-! Q18 -/
namespace SP
open PySem PySem.Spec PyProof.Rows L2
/-! ### a dict that is data -/
section
variable {ι : Type} {F : ι → Cx} {K : PySem.W.Frag} {Φ : MP} {ρ : Rho} {a b : Expr} {pos p : Pos} {l : Cnt} {n : Str} {j : Nat} {mg : Str → Option Value}
theorem x_dget {k : Nat} (hr : ∀ i, Room j (F i).A) (ha : EvD K Φ (wE F a) ρ (.dic (kvD l))) (hb : EvD K Φ (wE F b) ρ (.str n)) (hk : getN l n = some k) (hs : NoSl b := by exact fun _ _ => rfl) : EvD K Φ (wE F (.Subscript a b pos)) ρ (.int (k : Int)) :=
  lE (fun i => pe_dget (pos := pos) (hu_of (hr i)) (wE_ok (F := F) (e := a) i) (wE_ok (F := F) (e := b) i) hs) fun σ Hd H ex en pp Q q => ha σ Hd H ex en pp _ fun v Hd1 H1 s1 i1 => by
    obtain ⟨d, rfl, hd⟩ := i1.dic_inv
    refine hb σ Hd1 H1 s1.sub (en.mono s1.ud) (Φ.mono s1 pp) _ fun u Hd2 H2 s2 i2 => ?_
    rw [i2.str_inv]
    have := DGet.k (k := Sum.inr n) (s2.ex _ _ (s1.sub _ _ hd))
    rw [valV_kvD, hk] at this
    exact ⟨d, _, rfl, this, q _ Hd2 H2 (s1.trans s2) (.int _)⟩
theorem x_din (hr : ∀ i, Room j (F i).A) (hb : EvD K Φ (wE F b) ρ (.str n)) (ha : EvD K Φ (wE F a) ρ (.dic (kvD l))) (hm : behindInMarks .In a = false) : EvD K Φ (wE F (.Compare b [.In] [a] pos)) ρ (.bl (decide (n ∈ keysN l))) :=
  lE (fun i => pe_cmp (pos := pos) (pc_din (hu_of (hr i)) (wE_ok (F := F) (e := b) i) (wE_ok (F := F) (e := a) i)) hm) fun σ Hd H ex en pp Q q => hb σ Hd H ex en pp _ fun v Hd1 H1 s1 i1 => by
    rw [i1.str_inv]
    refine ha σ Hd1 H1 s1.sub (en.mono s1.ud) (Φ.mono s1 pp) _ fun u Hd2 H2 s2 i2 => ?_
    obtain ⟨d, rfl, hd⟩ := i2.dic_inv
    have := DGet.k (k := Sum.inr n) (s2.sub _ _ hd)
    refine ⟨d, _, rfl, this, q _ Hd2 H2 (s1.trans s2) ?_⟩
    have e : (valV (kvD l) (Sum.inr n)).isSome = decide (n ∈ keysN l) := by
      rw [valV_kvD]
      cases z : getN l n with
      | none => rw [decide_eq_false (getN_none.mp z)]; rfl
      | some k =>
        have : n ∈ keysN l := by
          cases Decidable.em (n ∈ keysN l) with
          | inl h => exact h
          | inr h => rw [getN_none.mpr h] at z; cases z
        rw [decide_eq_true this]
        rfl
    rw [e]
    exact .bl _
/-- list(d), sorted(d) -/
theorem x_dlist (T : TX mg) (h : EvD K Φ (wE F a) ρ (.dic (kvD l))) (hmg : ∀ i, (F i).mg = mg := by intro _; rfl) (hc : ∀ i, (F i).calm = true := by intro _; rfl) (hg : ∀ i, Gl (F i) "list" := by intro _; rfl) (he : ∀ i, starEach [a] (F i).env = (false, eval a (F i).env) :: starEach [] (F i).env := by intro _; rfl) (hpl : ∀ i, (backTo pos (starEach [] (F i).env)).any (·.1) = false := by intro _; rfl) : EvD K Φ (wE F (.Call (.Name "list" p) [a] [] pos)) ρ (.lst ((keysN l).map Dt.str)) :=
  x_ct (fun i => call_listD (hc i)) boot_list (fun i => by rw [hmg i]; exact T.list) (a_one h he) (fun Hd H vs e i1 _ Q q => by
    obtain ⟨v, us, rfl, iv, it⟩ := i1.cons_inv
    obtain ⟨d, rfl, hd⟩ := iv.dic_inv
    rw [it.nil_inv]
    refine ⟨d, kvD l, rfl, .inl (e _ _ hd), fun p hp => ?_⟩
    have em : (kvD l).map (fun kv => kV kv.1) = (keysN l).map V.str := by
      unfold kvD keysN
      rw [List.map_map, List.map_map]
      rfl
    rw [em]
    exact q _ _ _ (Stp.new e hp) (.lst upd_same (ImA.of_strs _))) hg (by decide) (by decide) he hpl
theorem x_dsort (T : TX mg) (h : EvD K Φ (wE F a) ρ (.dic (kvD l))) (hs : (keysN l).Pairwise ltS) (hl : l.length < 64) (hmg : ∀ i, (F i).mg = mg := by intro _; rfl) (hc : ∀ i, (F i).calm = true := by intro _; rfl) (hg : ∀ i, Gl (F i) "sorted" := by intro _; rfl) (he : ∀ i, starEach [a] (F i).env = (false, eval a (F i).env) :: starEach [] (F i).env := by intro _; rfl) (hpl : ∀ i, (backTo pos (starEach [] (F i).env)).any (·.1) = false := by intro _; rfl) : EvD K Φ (wE F (.Call (.Name "sorted" p) [a] [] pos)) ρ (.lst ((keysN l).map Dt.str)) :=
  x_cb (fun i => call_sortedD (hc i)) boot_sorted (fun i => by rw [hmg i]; exact T.sorted) (a_one h he) (fun Hd H vs e i1 _ Q q => by
    obtain ⟨v, us, rfl, iv, it⟩ := i1.cons_inv
    obtain ⟨d, rfl, hd⟩ := iv.dic_inv
    rw [it.nil_inv]
    refine ⟨d, kvD l, keysN l, rfl, .inl (e _ _ hd), ?_, by unfold keysN; rw [List.length_map]; exact hl, fun ys p hp hs2 hn => ?_⟩
    · unfold kvD keysN
      rw [List.map_map, List.map_map]
      rfl
    have ey : ys = keysN l := by
      refine sortS_unique hp hs ?_
      cases ys with
      | nil => exact .nil
      | cons a r => exact rising_pair r a hs2
    rw [ey]
    exact q _ _ _ (Stp.new e hn) (.lst upd_same (ImA.of_strs _))) hg (by decide) (by decide) he hpl
end
section
variable {P : Program} {w : World} {K : PySem.W.Frag} {mg : Str → Option Value} {base : Heap}
abbrev n43 : List Str := ["_law_film", "_law_coins", "_law_one", "_law_two", "_law_some", "_law_name", "_law_pair"]
theorem sc43 : FnScope n43 ["_law_film", "_law_coins"] (defScope (top 43)) := ⟨rfl, rfl, rfl, by decide +kernel, rfl, by decide +kernel, by decide +kernel⟩
def RBrought : List Dt → Dt → Prop := fun ts r => ∃ film c, ts = [encFilm film, .int ((c : Nat) : Int)] ∧ FilmOk film ∧ film.length ≤ 14 ∧ DeedOk (.pay c) ∧ r = .tux ((bring (fsOf film).deal (fsOf film).dealt c).map prD)
theorem film_enc (film : List Deed) (x : Deed) : Dt.lst (film.map encDeed ++ [encDeed x]) = encFilm (film ++ [x]) := by
  unfold encFilm
  rw [List.map_append]
  rfl
theorem zip_at {ns : List Str} {m : List Nat} {p : Str × Nat} (h : p ∈ ns.zip m) : ∃ k : Nat, ns[k]? = some p.1 ∧ m[k]? = some p.2 := by
  obtain ⟨k, hk⟩ := List.getElem?_of_mem h
  rw [List.getElem?_zip_eq_some] at hk
  exact ⟨k, hk⟩
theorem d_brought (T : TX mg) (D : DefAt K mg "_law_brought" (top 43) ["_law_film", "_law_coins"]) (C : Callee P w K mg base "_law_had" 2 ["_law_film"] (spD K RHad)) : Callee P w K mg base "_law_brought" 3 ["_law_film", "_law_coins"] (spD K RBrought) :=
  cal_data D sc43 (by rintro _ _ ⟨film, c, rfl, _⟩; rfl) fun f cdv A outer s H E hr ts r hR => by
    obtain ⟨film, c, rfl, hok, hl, hc, rfl⟩ := hR
    have hok2 := hok.snoc hc
    have ok := fs_ok hok
    have n4 := ok.deal.n4
    refine ⟨_, ss_cons (s_asg (d := .tup [hadT film, hadT (film ++ [.pay c])]) (x_tup (a_two (x_call (fun _ => C) (fun _ => hr) (a_one (x_var 0)) ⟨film, rfl, hok, by omega, rfl⟩) (x_call (fun _ => C) (fun _ => hr) (a_one (ed_is (x_cat (x_var 0) (x_lst (a_one (x_tux (a_two x_str (x_var 1))))) (by rw [List.length_map]; show film.length + 1 ≤ 100000; omega)) (film_enc film (.pay c)))) ⟨film ++ [.pay c], rfl, hok2, by rw [List.length_append]; show film.length + 1 ≤ 15; omega, rfl⟩))) (g_two (k1 := 2) (k2 := 3) (fun _ => sc43.nd)))
      (ss_cons (s_setLcA sc43 4 [("_law_name", 5)] ((fsOf film).deal.names.zip (moreOf (fsOf film).deal (fsOf film).dealt c)) (fun p => .str p.1) prD (it_is (i_tup (x_ixT 0 (x_ixT 1 (x_var 2) x_int rfl rfl) x_int rfl rfl)) ?_) (by rw [List.length_zip]; omega) (fun p hp => ⟨_, _, g_name 5 (fun _ => sc43.nd), by simp, ?_⟩))
      (ss_one (s_ret (x_tupleX T (ed_is (x_lc sc43 [("_law_pair", 6)] ((fsOf film).deal.names.zip (moreOf (fsOf film).deal (fsOf film).dealt c)) prD (fun p => decide ((0 : Int) < (p.2 : Int))) prD (i_lst (x_var 4)) (by rw [List.length_zip]; omega) (fun p _ => ⟨_, _, g_name 6 (fun _ => sc43.nd), by simp, ts_one (t_cmp (fun _ => op_gt) (x_ixT 1 (x_var 6) x_int rfl rfl) x_int rd_ib (nomark _)), fun _ => x_var 6⟩)) (pay_e4 _ _ _ _)))))), .inl rfl⟩
    · have := zip_keys (ns := (fsOf film).deal.names) (moreOf (fsOf film).deal (fsOf film).dealt c) (by simp [moreOf])
      unfold keysN at this
      conv => lhs; rw [← this]
      rw [List.map_map]
      rfl
    · obtain ⟨k, h1, h2⟩ := zip_at hp
      obtain ⟨i, j, g1, g2, e⟩ := brought_at hok hc h1
      have hk : k < (fsOf film).deal.names.length := (List.getElem?_eq_some_iff.mp h1).1
      have h3 : p.2 = countBy (fsOf film).deal.runs k ((fsOf film).dealt + c) - countBy (fsOf film).deal.runs k (fsOf film).dealt := by
        unfold moreOf at h2
        rw [List.getElem?_map, List.getElem?_range hk] at h2
        exact (Option.some.inj h2).symm
      exact ed_is (x_tup (a_two (x_var 5) (x_sub (x_dget (fun _ => hr) (x_ixT 0 (x_var 3) x_int rfl rfl) (x_var 5) g2) (x_dget (fun _ => hr) (x_ixT 0 (x_var 2) x_int rfl rfl) (x_var 5) g1)))) (by
        show Dt.tup [.str p.1, .int ((j : Int) - (i : Int))] = .tup [.str p.1, .int (p.2 : Int)]
        rw [show (j : Int) - (i : Int) = (p.2 : Int) by omega])
abbrev n45 : List Str := ["_law_film", "_law_deed", "_law_due"]
theorem sc45 : FnScope n45 ["_law_film", "_law_deed"] (defScope (top 45)) := ⟨rfl, rfl, rfl, by decide +kernel, rfl, by decide +kernel, by decide +kernel⟩
def dueD (film : List Deed) : Deed → Dt
  | .deal _ => .non
  | .pay c => .tux ((bring (fsOf film).deal (fsOf film).dealt c).map prD)
def RBehind : List Dt → Dt → Prop := fun ts r => ∃ film x, ts = [encFilm film, encDeed x] ∧ FilmOk film ∧ film.length ≤ 14 ∧ DeedOk x ∧ r = .tup [dueD film x, encFilm (film ++ [x])]
theorem d_behind (T : TX mg) (D : DefAt K mg "_law_behind" (top 45) ["_law_film", "_law_deed"]) (C : Callee P w K mg base "_law_brought" 3 ["_law_film", "_law_coins"] (spD K RBrought)) : Callee P w K mg base "_law_behind" 4 ["_law_film", "_law_deed"] (spD K RBehind) :=
  cal_data D sc45 (by rintro _ _ ⟨film, c, rfl, _⟩; rfl) fun f cdv A outer s H E hr ts r hR => by
    obtain ⟨film, x, rfl, hok, hl, hx, rfl⟩ := hR
    have hcat : (film.map encDeed).length + [encDeed x].length ≤ 100000 := by
      rw [List.length_map]
      show film.length + 1 ≤ 100000
      omega
    cases x with
    | pay c =>
      exact ⟨_, ss_cons (s_set 2 (fun _ => sc45.nd) (d := dueD film (.pay c)) (x_if (t_cmp (fun _ => op_eq) (x_ixT 0 (x_var 1) x_int rfl rfl) x_str rd_eqs (nomark _)) (fun _ => x_call (fun _ => C) (fun _ => hr) (a_two (x_var 0) (x_ixT 1 (x_var 1) x_int rfl rfl)) ⟨film, c, rfl, hok, hl, hx, rfl⟩) (fun h => by exact absurd (show true = false from h) (by decide)))) (ss_one (s_ret (x_tup (a_two (x_var 2) (ed_is (x_cat (x_var 0) (x_lst (a_one (x_var 1))) hcat) (film_enc film (.pay c))))))), .inl rfl⟩
    | deal d =>
      exact ⟨_, ss_cons (s_set 2 (fun _ => sc45.nd) (d := dueD film (.deal d)) (x_if (t_cmp (fun _ => op_eq) (x_ixT 0 (x_var 1) x_int rfl rfl) x_str rd_eqs (nomark _)) (fun h => by exact absurd (show false = true from h) (by decide)) (fun _ => x_non))) (ss_one (s_ret (x_tup (a_two (x_var 2) (ed_is (x_cat (x_var 0) (x_lst (a_one (x_var 1))) hcat) (film_enc film (.deal d))))))), .inl rfl⟩
end
end SP
/-! Q19 -/
namespace SP
open PySem PySem.Spec PyProof.Rows L2
/-! ### the script -/
def Scr (K : PySem.W.Frag) (a : Addr) (ns : List Int) : MP := ⟨fun Hd H => SqL K Hd a (ns.map V.int), fun s h => ex_l s.ud h⟩
section
variable {K : PySem.W.Frag} {Φ : MP} {ρ : Rho} {ι : Type} {F : ι → Cx} {e tg : Expr} {a : Addr} {ns : List Int} {mg : Str → Option Value} {pos p : Pos}
theorem i_scr (hΦ : ∀ Hd H, Φ.p Hd H → (Scr K a ns).p Hd H) (h : EvD K Φ (wE F e) ρ (.raw (.ref a))) (hK : ∀ i, (F i).K = K := by intro _; rfl) : ItD K Φ (wI F tg e) ρ (ns.map Dt.int) :=
  lI (fun i => by have := pi_list (tg := tg) (wE_ok (F := F) (e := e) i); rwa [hK i] at this) fun σ Hd H ex en p R q =>
  h σ Hd H ex en p _ fun v Hd1 H1 s1 i1 => by
    rw [i1.raw_inv]
    have sq : SqL K Hd1 a (ns.map V.int) := hΦ _ _ (Φ.mono s1 p)
    have at_ : ∀ H2, Ex Hd1 H2 → SqL K H2 a (ns.map V.int) := fun H2 e2 => ex_l e2 sq
    refine ⟨a, rfl, ⟨ns.map V.int, at_ _ s1.sub⟩, q _ Hd1 H1 s1 ⟨fun i H2 e2 hi => ?_, fun H2 e2 => ⟨ns.map V.int, at_ _ e2, by rw [List.length_map, List.length_map]; exact Nat.le_refl _⟩, fun i d H2 x H3 e2 hd y Hd2 e3 e4 => ?_⟩⟩
    · have hx : i < (ns.map V.int).length := by rw [List.length_map]; rw [List.length_map] at hi; exact hi
      exact ⟨ns.map V.int, (ns.map V.int)[i], at_ _ e2, List.getElem?_eq_getElem hx⟩
    · obtain ⟨rfl, y⟩ := y
      have y' := y (ns.map V.int) (at_ _ e2)
      rw [List.getElem?_map] at y' hd
      cases z : ns[i]? with
      | none => rw [z] at hd; cases hd
      | some k =>
        rw [z] at hd y'
        cases hd
        cases y'
        exact ⟨Hd2, .refl e4, .int _⟩
theorem x_scrList (T : TX mg) (hΦ : ∀ Hd H, Φ.p Hd H → (Scr K a ns).p Hd H) (h : EvD K Φ (wE F e) ρ (.raw (.ref a))) (hmg : ∀ i, (F i).mg = mg := by intro _; rfl) (hK : ∀ i, (F i).K = K := by intro _; rfl) (hg : ∀ i, Gl (F i) "list" := by intro _; rfl) (he : ∀ i, starEach [e] (F i).env = (false, eval e (F i).env) :: starEach [] (F i).env := by intro _; rfl) (hpl : ∀ i, (backTo pos (starEach [] (F i).env)).any (·.1) = false := by intro _; rfl) : EvD K Φ (wE F (.Call (.Name "list" p) [e] [] pos)) ρ (.lst (ns.map Dt.int)) :=
  x_ct (fun i => by have := call_list_of (X := F i); rwa [hK i] at this) boot_list (fun i => by rw [hmg i]; exact T.list) (a_one h he) (fun Hd H vs ex i1 pp Q q => by
    obtain ⟨v, us, rfl, iv, it⟩ := i1.cons_inv
    rw [it.nil_inv, iv.raw_inv]
    have sq : SqL K Hd a (ns.map V.int) := hΦ _ _ pp
    exact ⟨a, ns.map V.int, rfl, .inl (ex_l ex sq), fun l hl => q _ _ _ (Stp.new ex hl) (.lst upd_same (ImA.of_ints ns))⟩) hg (by decide) (by decide) he hpl
theorem x_scrLen (T : TX mg) (hΦ : ∀ Hd H, Φ.p Hd H → (Scr K a ns).p Hd H) (h : EvD K Φ (wE F e) ρ (.raw (.ref a))) (hmg : ∀ i, (F i).mg = mg := by intro _; rfl) (hK : ∀ i, (F i).K = K := by intro _; rfl) (hc : ∀ i, (F i).calm = true := by intro _; rfl) (hg : ∀ i, Gl (F i) "len" := by intro _; rfl) (he : ∀ i, starEach [e] (F i).env = (false, eval e (F i).env) :: starEach [] (F i).env := by intro _; rfl) (hpl : ∀ i, (backTo pos (starEach [] (F i).env)).any (·.1) = false := by intro _; rfl) : EvD K Φ (wE F (.Call (.Name "len" p) [e] [] pos)) ρ (.int ((ns.length : Nat) : Int)) :=
  x_cb (fun i => by have := call_len (X := F i); rwa [hK i] at this) PySem.boot_len (fun i => by rw [hmg i]; exact T.len) (a_one h he) (fun Hd H vs ex i1 pp Q q => by
    obtain ⟨v, us, rfl, iv, it⟩ := i1.cons_inv
    rw [it.nil_inv, iv.raw_inv]
    have sq : SqL K Hd a (ns.map V.int) := hΦ _ _ pp
    exact ⟨_, ns.length, rfl, .inl ⟨ns.map V.int, ex_l ex sq, (List.length_map ..).symm⟩, q _ Hd H (.refl ex) (.int _)⟩) hg (by decide) (by decide) he hpl
end
section
variable {P : Program} {w : World} {K : PySem.W.Frag} {mg : Str → Option Value} {base : Heap}
def BegunSp (K : PySem.W.Frag) : Sp := fun vs H Q _ => ∃ (Hd : Hp) (a : Addr) (ns : List Int), vs = [.ref a] ∧ Ex Hd H ∧ (Scr K a ns).p Hd H ∧ ns.length ≤ 1000 ∧ ∀ am Hd' H', Stp NoM Hd H Hd' H' → H am = none → (MD K am 0).p Hd' H' → Q (.ref am) H'
abbrev n32 : List Str := ["_law_script", "_law_great", "_law_cell"]
theorem sc32 : FnScope n32 ["_law_script"] (defScope (top 32)) := ⟨rfl, rfl, rfl, by decide +kernel, rfl, by decide +kernel, by decide +kernel⟩
theorem lay_ints : ∀ l : List Int, PyData.canLayAll0 (Dt.pyA (l.map Dt.int)) = true ∧ PyData.depthAll (Dt.pyA (l.map Dt.int)) = 0
  | [] => by simp [Dt.pyA, PyData.canLayAll0, PyData.depthAll]
  | x :: r => by
    obtain ⟨h1, h2⟩ := lay_ints r
    simp [Dt.pyA, Dt.py, PyData.canLayAll0, PyData.depthAll, PyData.canLay0, PyData.depth, h1, h2]
theorem shaped_ints (l : List Int) : SeqAt.shaped (Dt.lst (l.map Dt.int)).py = true := by
  obtain ⟨h1, h2⟩ := lay_ints l
  unfold SeqAt.shaped
  rw [Dt.py, PyData.canLay0, PyData.depth, h1, h2]
  rfl
theorem pure_ints (l : List Int) : (Dt.lst (l.map Dt.int)).pure = true := by
  rw [Dt.pure]
  exact pure_map Dt.int (fun _ => by simp [Dt.pure]) l
theorem eqv_nil (l : List Int) : PyData.eqv (Dt.lst (l.map Dt.int)).py (Dt.lst []).py = l.isEmpty := by
  cases l with
  | nil => simp [Dt.py, Dt.pyA, PyData.eqv, PyData.eqvAll]
  | cons x r => simp [Dt.py, Dt.pyA, PyData.eqv, PyData.eqvAll]
def ifeTest : Expr → Expr
  | .IfExp t _ _ _ => t
  | e => e
def dictVals : Expr → List Expr
  | .Dict _ vs _ => vs
  | _ => []
theorem d_begun (T : TX mg) (D : DefAt K mg "_law_begun" (top 32) ["_law_script"]) : Callee P w K mg base "_law_begun" 1 ["_law_script"] (BegunSp K) :=
  cal_any D sc32 (fun vs H Q E h => by
    obtain ⟨Hd, a, ns, rfl, _⟩ := h
    rfl) fun f cdv A outer sh H E hr vs Q h => by
    obtain ⟨Hd, a, ns, rfl, ex, hsc, hl, q⟩ := h
    have en := env_start (K := K) (Hd := Hd) n32 (ts := [.raw (.ref a)]) (.cons (.raw (.ref a)) .nil)
    let great : List Int := ns.filter fun i => decide ((10 : Int) ^ 18 ≤ i)
    have s1 : SvD K (Scr K a ns) (wS (un (dCx P w K mg base n32 "_law_begun" (top 32) f cdv A outer sh H E)) (stm 32 0)) (startD n32 [.raw (.ref a)]) (.nx [some (.raw (.ref a)), some (.lst (great.map Dt.int)), none]) :=
      s_setLc sc32 1 [("_law_cell", 2)] ns Dt.int (fun i => decide ((10 : Int) ^ 18 ≤ i)) Dt.int (i_scr (fun _ _ z => z) (x_var 0)) (by omega) (fun i _ => ⟨_, _, g_name 2 (fun _ => sc32.nd), by simp, ts_one (t_cmp (fun _ => op_ge) (x_var 2) (x_op (fun _ => op_pow) x_int x_int (rd_iic ⟨by decide, by decide, by decide⟩)) rd_ib (nomark _)), fun _ => x_var 2⟩)
    refine c_cons (s1 _ Hd H ex en hsc _ fun σ1 Hd1 H1 t1 en1 => ?_)
    have hsc1 := (Scr K a ns).mono t1 hsc
    obtain ⟨l, hl0, hld⟩ : ∃ l : Int, 0 ≤ l ∧ EvD K (Scr K a ns) (wE (un (dCx P w K mg base n32 "_law_begun" (top 32) f cdv A outer sh H E)) ((dictVals (retOf (stm 32 1))).getD 1 (.Constant .none 0 ⟨0, 0, 0, 0⟩))) [some (.raw (.ref a)), some (.lst (great.map Dt.int)), none] (.int l) := by
      have tst : EvT K (Scr K a ns) (wT (un (dCx P w K mg base n32 "_law_begun" (top 32) f cdv A outer sh H E)) (ifeTest ((dictVals (retOf (stm 32 1))).getD 1 (.Constant .none 0 ⟨0, 0, 0, 0⟩)))) [some (.raw (.ref a)), some (.lst (great.map Dt.int)), none] (!great.isEmpty) :=
        et_is (t_cmp (fun _ => op_neD hr.units) (x_var 1) (x_lst a_nil) (rd_neD (pure_ints great) (by simp [Dt.pure, Dt.pureA]) (shaped_ints great) (shaped_ints [])) (nomark _)) (by rw [eqv_nil])
      cases e : great with
      | nil =>
        rw [e] at tst
        exact ⟨0, Int.le_refl _, x_if tst (fun h => by exact absurd (show false = true from h) (by decide)) (fun _ => x_int)⟩
      | cons g r =>
        rw [e] at tst
        have hg : g ∈ great := by rw [e]; exact List.mem_cons_self
        have h18 : (10 : Int) ^ 18 ≤ g := of_decide_eq_true (List.mem_filter.mp hg).2
        have h0 : (0 : Int) ≤ g := Int.le_trans (by decide) h18
        exact ⟨g, h0, x_if tst (fun _ => x_ixL 0 (x_var 1) x_int rfl rfl) (fun h => by exact absurd (show true = false from h) (by decide))⟩
    have cells : EvD K (Scr K a ns) (wE (un (dCx P w K mg base n32 "_law_begun" (top 32) f cdv A outer sh H E)) ((dictVals (retOf (stm 32 1))).getD 0 (.Constant .none 0 ⟨0, 0, 0, 0⟩))) [some (.raw (.ref a)), some (.lst (great.map Dt.int)), none] (.lst ((ns ++ [(ns.length : Int)]).map Dt.int)) :=
      ed_is (x_cat (x_scrList T (fun _ _ z => z) (x_var 0)) (x_lst (a_one (x_scrLen T (fun _ _ z => z) (x_var 0)))) (by rw [List.length_map]; show ns.length + 1 ≤ 100000; omega)) (by rw [List.map_append]; rfl)
    refine c_one (c_ret ⟨tDisp [(tC (.str "cells"), wE (un (dCx P w K mg base n32 "_law_begun" (top 32) f cdv A outer sh H E)) ((dictVals (retOf (stm 32 1))).getD 0 (.Constant .none 0 ⟨0, 0, 0, 0⟩))), (tC (.str "left"), wE (un (dCx P w K mg base n32 "_law_begun" (top 32) f cdv A outer sh H E)) ((dictVals (retOf (stm 32 1))).getD 1 (.Constant .none 0 ⟨0, 0, 0, 0⟩))), (tC (.str "spot"), tC (.int 0))], fun _ => pe_disp (pps_cons pe_str (wE_ok ()) (pps_cons pe_str (wE_ok ()) (pps_cons pe_str pe_int pps_nil))) rfl rfl (by simp) (by decide), ?_⟩)
    intro p np
    have t2 : Stp NoM Hd1 H1 Hd1 (upd H1 p (.dK [])) := Stp.newM t1.sub np
    refine cells σ1 Hd1 _ t2.sub en1 ((Scr K a ns).mono t2 hsc1) _ fun v Hd2 H2 t3 i2 => ?_
    refine hld σ1 Hd2 _ t3.sub (en1.mono t3.ud) ((Scr K a ns).mono (t2.trans t3) hsc1) _ fun u Hd3 H3 t4 i3 => ?_
    have hp3 : H3 p = some (.dK []) := t4.ex _ _ (t3.ex _ _ upd_same)
    obtain ⟨c, us, rfl, hc, ic⟩ := i2.lst_inv
    have i2' : Im K Hd3 (.ref c) (.lst ((ns ++ [(ns.length : Int)]).map Dt.int)) := (Im.lst hc ic).mono t4.ud
    have hd3 : Hd3 p = none := (t3.trans t4).sep p (by rw [upd_same]; intro z; cases z) (sub_none t1.sub np)
    have n0 : H p = none := by
      cases z : H p with
      | none => rfl
      | some u => exact absurd np (t1.al p (by rw [z]; intro q; cases q))
    rw [i3.int_inv]
    refine ⟨hp3, [(kCells, .ref c), (kLeft, .int l), (kSpot, .int 0)], rfl, show 3 ≤ 15 by decide, ?_⟩
    have em : mergeK [] [(kCells, V.ref c), (kLeft, .int l), (kSpot, .int 0)] = drawD c l 0 := by
      unfold mergeK drawD putK kCells kLeft kSpot
      rfl
    rw [em]
    have s5 : Stp NoM Hd H Hd3 (upd H3 p (.dK (drawD c l 0))) := (t1.trans (t2.trans (t3.trans t4))).mutNew n0 hd3
    refine q p Hd3 _ s5 n0 ⟨c, ns ++ [(ns.length : Int)], l, 0, ⟨hd3, upd_same, i2'⟩, by simp, by rw [List.length_append]; show ns.length + 1 ≤ 100000; omega, hl0, Int.le_refl _, Int.le_refl _⟩
end
end SP
/-! Q20 -/
namespace SP
open PySem PySem.Spec PyProof.Rows L2
/-! ### the window of sixty coins -/
theorem head_hit {k : Nat} : ∀ (l : List Nat) (s : Nat) {c j : Nat} {r : List (Nat × Nat)}, (l.zipIdx s).filter (fun p => p.1 == k) = (c, j) :: r → ∃ j0, j = s + j0 ∧ l[j0]? = some k ∧ c = k ∧ ∀ j' x, j' < j0 → l[j']? = some x → x ≠ k
  | [], s, c, j, r, h => by simp at h
  | a :: l, s, c, j, r, h => by
    rw [List.zipIdx_cons, List.filter_cons] at h
    by_cases e : a = k
    · subst e
      rw [if_pos (by simp)] at h
      injection h with h1 h2
      injection h1 with h3 h4
      exact ⟨0, by omega, rfl, h3.symm, fun j' x h => absurd h (Nat.not_lt_zero j')⟩
    · rw [if_neg (by simpa using e)] at h
      obtain ⟨j0, h1, h2, h3, h4⟩ := head_hit l (s + 1) h
      refine ⟨j0 + 1, by omega, by simpa using h2, h3, fun j' x hj hx => ?_⟩
      cases j' with
      | zero =>
        have : a = x := by simpa using hx
        rw [← this]
        exact e
      | succ j' => exact h4 j' x (by omega) (by simpa using hx)
theorem no_hit {k : Nat} {l : List Nat} (h : (l.zipIdx 0).filter (fun p => p.1 == k) = []) : ∀ (j x : Nat), l[j]? = some x → x ≠ k := by
  intro j x hx e
  have : (x, j) ∈ (l.zipIdx 0).filter (fun p => p.1 == k) := by
    rw [List.mem_filter]
    refine ⟨?_, by simp [e]⟩
    rw [List.mem_iff_getElem?]
    exact ⟨j, by rw [List.getElem?_zipIdx, hx]; simp⟩
  rw [h] at this
  simp at this
theorem row_at (rs : List Run) (n m j : Nat) (h : j < m) : ((rowOf rs (n + m)).drop n)[j]? = some (coinAt rs (n + j)) := by
  unfold rowOf
  rw [List.getElem?_drop, List.getElem?_map, List.getElem?_range (by omega)]
  rfl
theorem countBy_same {rs : List Run} (h : Endless rs) {c n : Nat} : ∀ m, (∀ i, i < m → coinAt rs (n + i) ≠ c) → countBy rs c (n + m) = countBy rs c n
  | 0, _ => rfl
  | m + 1, hn => by
    rw [← Nat.add_assoc, countBy_succ h, if_neg (hn m (by omega)), Nat.add_zero]
    exact countBy_same h m fun i hi => hn i (by omega)
def hitsOf (rs : List Run) (n k : Nat) : List (Nat × Nat) := (((rowOf rs (n + 60)).drop n).zipIdx).filter fun p => p.1 == k
theorem owed_hit {s : Stand} (h : Endless s.deal.runs) {k c j : Nat} {r : List (Nat × Nat)} (hh : hitsOf s.deal.runs s.dealt k = (c, j) :: r) : owedD s k = .int ((j : Int) + 1) := by
  obtain ⟨j0, h1, h2, h3, h4⟩ := head_hit _ 0 hh
  have hj : j0 < 60 := by
    have := (List.getElem?_eq_some_iff.mp h2).1
    rw [List.length_drop, row_len] at this
    omega
  rw [row_at _ _ 60 _ hj] at h2
  have h5 := countBy_same (c := k) (n := s.dealt) h j0 fun i hi e => h4 i _ hi (row_at _ _ 60 i (by omega)) e
  have h6 := reach_hit s.deal.runs k (s.dealt + j0) 0 (countBy s.deal.runs k s.dealt + 1) h (Option.some.inj h2) (by rw [h5])
  unfold owedD reachIn
  rw [if_neg (by omega), h6]
  show Dt.int (((0 + (s.dealt + j0) + 1 : Nat) : Int) - (s.dealt : Int)) = _
  rw [show (((0 + (s.dealt + j0) + 1 : Nat) : Int) - (s.dealt : Int)) = (j : Int) + 1 by omega]
theorem owed_none {s : Stand} (h : Endless s.deal.runs) (hl : ∀ r ∈ s.deal.runs, r.2.length ≤ 60) {k : Nat} (hb : beginOf s.deal.runs ≤ s.dealt) (hh : hitsOf s.deal.runs s.dealt k = []) : owedD s k = .non := by
  have hw := window s.deal.runs k s.dealt h hl hb fun i h1 h2 e => by
    have := no_hit hh (i - s.dealt) _ (row_at _ _ 60 (i - s.dealt) (by omega))
    rw [Nat.add_sub_cancel' h1] at this
    exact this e
  have h6 := reach_none s.deal.runs k s.dealt 0 h hw
  unfold owedD reachIn
  rw [if_neg (by omega), h6]
theorem begin_sum : ∀ {rs : List Run}, Endless rs → (rs.dropLast.map fun r => ((r.1.getD 0 : Nat) : Int)).sum = (beginOf rs : Int)
  | [], h => h.elim
  | [(s, f)], h => by
    obtain ⟨rfl, _⟩ := h
    rfl
  | (s, f) :: r :: rs, h => by
    obtain ⟨⟨m, rfl⟩, _, h⟩ := h
    have ih := begin_sum h
    rw [List.dropLast_cons₂, List.map_cons, List.sum_cons, ih]
    show ((m : Nat) : Int) + (beginOf (r :: rs) : Int) = ((m + beginOf (r :: rs) : Nat) : Int)
    omega
theorem drop_some : ∀ {rs : List Run}, Endless rs → ∀ r ∈ rs.dropLast, ∃ m, r.1 = some m
  | [], h, _, _ => h.elim
  | [(s, f)], h, r, hr => by simp at hr
  | (s, f) :: r :: rs, h, x, hx => by
    obtain ⟨⟨m, rfl⟩, _, h⟩ := h
    rw [List.dropLast_cons₂] at hx
    rcases List.mem_cons.mp hx with e | hx
    · exact ⟨m, by rw [e]⟩
    · exact drop_some h x hx
theorem cutD_last {α : Type} (xs : List α) : cutD xs none (some (-1)) = xs.dropLast := by
  unfold cutD
  rw [HT.sIx_none, List.drop_zero, Nat.sub_zero, List.dropLast_eq_take]
  congr 1
  unfold HT.sIx
  simp
  omega
/-! ### sizes -/
theorem words_ok {w : Str} (h : wordOk w) : ∀ c ∈ w.cps.toList, c < 0x110000 := by
  have key : ∀ c ∈ ("abcdefghijklmnopqrstuvwxyz" : Str).cps.toList, c < 0x110000 := by decide +kernel
  exact fun c hc => key c (h.2.2 c hc)
theorem fine_names {ns : List Str} (h : ∀ w ∈ ns, wordOk w) (hl : ns.length ≤ 100) : Fine (encN ns) 700 1 := by
  have := fineA_map (f := Dt.str) (w := 6) (h := 0) (l := ns) fun w hw => (fine_str (words_ok (h w hw))).le (h w hw).2.1 (Nat.le_refl _)
  exact (fine_tp this).le (by omega) (Nat.le_refl _)
theorem fine_figs {f : List Nat} (hl : f.length ≤ 400) (h : ∀ c ∈ f, c < 10) : Fine (.str (figS f)) 400 0 := by
  refine (fine_str ?_).le (by rw [figS_len]; exact hl) (Nat.le_refl _)
  rw [figS_cps]
  intro c hc
  obtain ⟨d, hd, rfl⟩ := List.mem_map.mp hc
  have := h d hd
  omega
theorem fine_run {x : Run} (hl : x.2.length ≤ 400) (h : ∀ c ∈ x.2, c < 10) (hs : ∀ n, x.1 = some n → n ≤ 9) : Fine (encRun x) 500 1 := by
  have h1 : Fine (encO x.1) 41 0 := by
    cases e : x.1 with
    | none => exact fine_non.le (by omega) (Nat.le_refl _)
    | some n =>
      have := hs n e
      exact fine_nat (by omega)
  exact (fine_tp (fineA_cons h1 (fineA_cons (fine_figs hl h) fineA_nil))).le (by omega) (Nat.le_refl _)
theorem fine_deal {d : Deal} (h : DealS d) : Fine (encDeal d) 5000 3 := by
  have h1 := fine_names (ns := d.names) h.ok.names.words (by have := h.n4; omega)
  have h2 : FineA (d.runs.map encRun) (d.runs.length * 501) 1 := fineA_map fun r hr => by
    obtain ⟨i, hi⟩ := List.getElem?_of_mem hr
    have h3 := (runs_at h.ok.runs i r hi).1
    have h4 := h.n4
    exact fine_run h3.2.1 (fun c hc => by have := h3.2.2 c hc; omega) (h.short r hr).2
  have h3 := h.runs
  exact (fine_tp (fineA_cons (h1.le (Nat.le_refl _) (show 1 ≤ 2 by omega)) (fineA_cons (fine_tp h2) fineA_nil))).le (by omega) (Nat.le_refl _)
theorem fine_pr {p : Str × Nat} (h : wordOk p.1) (hn : p.2 < 1000000000000) : Fine (prD p) 60 1 := by
  have h1 := (fine_str (words_ok h)).le h.2.1 (Nat.le_refl _)
  exact (fine_tp (fineA_cons h1 (fineA_cons (fine_nat hn) fineA_nil))).le (by omega) (Nat.le_refl _)
theorem seen_words {film : List Deed} (h : ∀ x ∈ film, DeedOk x) : ∀ w ∈ seenOf film, wordOk w := by
  suffices ∀ (l : List Deed) (acc : List Str), (∀ x ∈ l, DeedOk x) → (∀ w ∈ acc, wordOk w) → ∀ w ∈ l.foldl seenStep acc, wordOk w from this film [] h (fun w hw => by simp at hw)
  intro l
  induction l with
  | nil => intro acc _ h; exact h
  | cons x r ih =>
    intro acc hx ha
    refine ih _ (fun y hy => hx y (List.mem_cons_of_mem _ hy)) ?_
    cases x with
    | pay n => exact ha
    | deal d =>
      have hd : DealS d := hx _ List.mem_cons_self
      intro w hw
      rcases List.mem_append.mp (show w ∈ acc ++ d.names.filter _ from hw) with hw | hw
      · exact ha w hw
      · exact hd.ok.names.words w (List.mem_filter.mp hw).1
theorem had_bound {film : List Deed} (h : FilmOk film) (hl : film.length ≤ 15) {p : Str × Nat} (hp : p ∈ hadOf film) : wordOk p.1 ∧ p.2 ≤ 210 := by
  have g := (getN_mem (had_nodup h)).mp hp
  rw [had_get h] at g
  by_cases hs : p.1 ∈ seenOf film
  · rw [if_pos hs] at g
    have ok := fs_ok h
    refine ⟨seen_words h.all _ hs, ?_⟩
    have h1 : (fsOf film).coins.count p.1 ≤ (fsOf film).coins.length := List.count_le_length
    have h2 := ok.len
    have h3 := ok.paid
    have h4 := Option.some.inj g
    omega
  · rw [if_neg hs] at g
    cases g
theorem fine_had {film : List Deed} (h : FilmOk film) (hl : film.length ≤ 15) : Fine (encHad (hadOf film)) 5000 2 := by
  have := fineA_map (f := prD) (w := 60) (h := 1) (l := hadOf film) fun p hp => by
    obtain ⟨h1, h2⟩ := had_bound h hl hp
    exact fine_pr h1 (by omega)
  have h3 := had_len h
  exact (fine_tp this).le (by omega) (Nat.le_refl _)
theorem fine_bring {film : List Deed} (h : FilmOk film) (hl : film.length ≤ 15) {c : Nat} (hc : DeedOk (.pay c)) : Fine (dueD film (.pay c)) 5000 2 := by
  have ok := fs_ok h
  have n4 := ok.deal.n4
  have h2 : (bring (fsOf film).deal (fsOf film).dealt c).length ≤ 4 := by
    unfold bring
    have := List.length_filter_le (fun p : Str × Nat => decide (0 < p.2)) ((fsOf film).deal.names.zip (moreOf (fsOf film).deal (fsOf film).dealt c))
    rw [List.length_zip] at this
    omega
  have := fineA_map (f := prD) (w := 60) (h := 1) (l := bring (fsOf film).deal (fsOf film).dealt c) fun p hp => by
    have hz := (List.mem_filter.mp hp).1
    obtain ⟨k, h5, h6⟩ := zip_at hz
    refine fine_pr (ok.deal.ok.names.words _ (List.mem_of_getElem? h5)) ?_
    have hk : k < (fsOf film).deal.names.length := (List.getElem?_eq_some_iff.mp h5).1
    unfold moreOf at h6
    rw [List.getElem?_map, List.getElem?_range hk] at h6
    have h7 := Option.some.inj h6
    have h8 := coinsOf_count ok.deal.ok (fsOf film).dealt c h5
    have h9 : (coinsOf (fsOf film).deal (fsOf film).dealt c).count p.1 ≤ (coinsOf (fsOf film).deal (fsOf film).dealt c).length := List.count_le_length
    rw [coinsOf_len] at h9
    obtain ⟨c1, c2⟩ : 1 ≤ c ∧ c ≤ 14 := hc
    have h10 : (fun i => countBy (fsOf film).deal.runs i ((fsOf film).dealt + c) - countBy (fsOf film).deal.runs i (fsOf film).dealt) k = p.2 := h7
    have h11 : countBy (fsOf film).deal.runs k ((fsOf film).dealt + c) - countBy (fsOf film).deal.runs k (fsOf film).dealt = p.2 := h10
    omega
  exact (fine_tp this).le (by omega) (Nat.le_refl _)
theorem eq_ok {film : List Deed} (h : FilmOk film) (hl : film.length ≤ 15) : EqOk (standOf film) := by
  have ok := fs_ok h
  have hd := ok.dealt
  refine ⟨Fine.shaped (d := Dt.tup [encDeal (fsOf film).deal, .int ((fsOf film).dealt : Int)]) (fine_tp (fineA_cons (fine_deal ok.deal) (fineA_cons ((fine_nat (by omega)).le (Nat.le_refl _) (by omega)) fineA_nil))) (by omega), (fine_had h hl).shaped (by omega)⟩
theorem eq_self {s : Stand} (h1 : EqOk s) : eqStand s s = true := by
  unfold eqStand
  rw [SeqAt.eqv_refl _ (SeqAt.canLay_of_shaped h1.d), SeqAt.eqv_refl _ (SeqAt.canLay_of_shaped h1.h)]
  rfl
end SP
/-! Q21 -/
namespace SP
open PySem PySem.Spec PyProof.Rows L2
/-- a def that is called where no guard is held -/
structure CalleeG (P : Program) (w : World) (K : PySem.W.Frag) (mg : Str → Option Value) (base : Heap) (n : Str) (k : Nat) (ps : List Str) (sp : Sp) : Prop where
  ex : ∃ f fd, mg n = some (.ref f) ∧ PySem.W.keepIn K (.ref f) = true ∧ Binds K fd ps [] ∧ FnG P w K mg base CX0 k f fd ps sp
section
variable {P : Program} {w : World} {K : PySem.W.Frag} {mg : Str → Option Value} {base : Heap} {n : Str} {st : Stmt} {N ps : List Str} {k : Nat}
theorem calG_any {sp : Sp} (D : DefAt K mg n st ps) (S : FnScope N ps (defScope st)) (len : ∀ vs H Q E, sp vs H Q E → vs.length = ps.length)
    (hbody : ∀ (f : Addr) (cdv : Value) (A : Around) (outer : List Env) (s : Shared) (H : Hp) (E : XK), (dCx P w K mg base N n st f cdv A outer s H E).A.guards = some [] → Room k (dCx P w K mg base N n st f cdv A outer s H E).A → ∀ vs Q, sp vs H Q E →
      wSs (un (dCx P w K mg base N n st f cdv A outer s H E)) (defBody st) { nx := fun _ H' => Q .non H', rt := Q } (start N vs) H) : CalleeG P w K mg base n (k + 1) ps sp := by
  obtain ⟨f, fd, h1, h2, h3⟩ := D.ex
  refine ⟨f, fd, h1, h2.kp, h3, fnG h2 S len fun cdv A outer s H vs Q E hA hr hsp => ⟨_, wSs_ok (F := un (dCx P w K mg base N n st f cdv A outer s H E)) (), hbody f cdv A outer s H E hA hr vs Q hsp⟩⟩
end
def pastOf (film : List Deed) : List Stand := (List.range (film.length - 1)).map fun i => standOf (film.take (i + 1))
theorem past_len (film : List Deed) : (pastOf film).length = film.length - 1 := by simp [pastOf]
def StandsSp (K : PySem.W.Frag) (C : Addr) : Sp := fun vs H Q _ => ∃ (Hd : Hp) (a : Addr) (film : List Deed) (v : V), vs = [.ref a, v] ∧ Ex Hd H ∧ (InsI K C a (potF (standOf film) (pastOf film))).p Hd H ∧ Im K Hd v (encFilm film) ∧ FilmOk film ∧ film.length ≤ 15 ∧ ∀ Hd' H', Stp NoM Hd H Hd' H' → Q (.bl true) H'
section
variable {ι : Type} {F : ι → Cx} {K : PySem.W.Frag} {Φ : MP} {ρ : Rho} {e : Expr} {x : Dt} {p pos : Pos} {mg : Str → Option Value}
theorem x_reprF (T : TX mg) {w h j : Nat} (f : Fine x w h) (hw : w ≤ 1048576) (hh : h ≤ 50) (hG : ∀ i, (F i).A.guards = some []) (hr : ∀ i, Room j (F i).A) (he : EvD K Φ (wE F e) ρ x) (hg : ∀ i, Gl (F i) "repr" := by intro _; rfl) (hmg : ∀ i, (F i).mg = mg := by intro _; rfl) (hK : ∀ i, (F i).K = K := by intro _; rfl) (hc : ∀ i, (F i).calm = true := by intro _; rfl) (hs : ∀ i, starEach [e] (F i).env = (false, eval e (F i).env) :: starEach [] (F i).env := by intro _; rfl) (hpl : ∀ i, (backTo pos (starEach [] (F i).env)).any (·.1) = false := by intro _; rfl) : EvD K Φ (wE F (.Call (.Name "repr" p) [e] [] pos)) ρ (.str x.py.shown) :=
  x_repr T hG hr he f.pure f.show_ (Nat.le_trans f.depth hh) f.noDict (f.shown (by omega) hw) hg hmg hK hc hs hpl
theorem x_neg {i : Int} (h : EvD K Φ (wE F e) ρ (.int i)) : EvD K Φ (wE F (.UnaryOp .USub e pos)) ρ (.int (-i)) :=
  lE (fun _ => pe_un un_neg (wE_ok (F := F) (e := e) _)) (ed_un h fun Hd H v ex iv Q q => by
    rw [iv.int_inv]
    exact ⟨i, rfl, q _ (.int _)⟩)
end
theorem beq_refl_s (s : Str) : (!decide (s = s)) = false := by simp
theorem inHad_get {l : Cnt} (hn : (keysN l).Nodup) (n : Str) : inHad l n = (match getN l n with | none => false | some k => decide ((0 : Int) < (k : Int))) := by
  have key : ∀ b : Bool, (inHad l n = true ↔ b = true) → inHad l n = b := fun b h => by
    cases b <;> cases e : inHad l n <;> simp_all
  cases g : getN l n with
  | none =>
    refine key _ ⟨fun h => ?_, fun h => nomatch h⟩
    unfold inHad at h
    rw [List.any_eq_true] at h
    obtain ⟨p, hp, hq⟩ := h
    simp only [Bool.and_eq_true, decide_eq_true_eq] at hq
    have := getN_none.mp g
    exact absurd (hq.1 ▸ List.mem_map_of_mem hp) this
  | some k =>
    refine key _ ⟨fun h => ?_, fun h => ?_⟩
    · unfold inHad at h
      rw [List.any_eq_true] at h
      obtain ⟨p, hp, hq⟩ := h
      simp only [Bool.and_eq_true, decide_eq_true_eq] at hq
      have g2 := (getN_mem hn).mp hp
      rw [hq.1, g] at g2
      cases g2
      exact decide_eq_true hq.2
    · unfold inHad
      rw [List.any_eq_true]
      exact ⟨(n, k), (getN_mem (p := (n, k)) hn).mpr g, by simpa using h⟩
theorem idx_at : ∀ {ns : List Str} {k : Nat} {n : Str}, ns.Nodup → ns[k]? = some n → ns.idxOf n = k
  | [], _, _, _, h => by simp at h
  | a :: r, 0, n, _, h => by
    have : a = n := by simpa using h
    subst this
    simp
  | a :: r, k + 1, n, nd, h => by
    obtain ⟨h1, h2⟩ := List.nodup_cons.mp nd
    have h' : r[k]? = some n := by simpa using h
    have hne : ¬ a = n := fun z => h1 (by rw [z]; exact List.mem_of_getElem? h')
    rw [List.idxOf_cons, idx_at h2 h']
    have : (a == n) = false := by simpa using hne
    rw [this]
    rfl
theorem ge_dec (a b : Nat) : decide ((a : Int) ≥ (b : Int)) = decide (b ≤ a) := by
  apply decide_eq_decide.mpr
  omega
section
variable {P : Program} {w : World} {K : PySem.W.Frag} {mg : Str → Option Value} {base : Heap} {C : Addr}
abbrev n42 : List Str := ["_law_pot", "_law_film", "_law_own", "_law_pact", "_law_dealt", "_law_paid_so", "_law_told", "_law_name", "_law_due", "_law_row_here", "_law_begin", "_law_size", "_law_figures_here", "_law_k", "_law_some", "_law_spot", "_law_sign"]
theorem sc42 : FnScope n42 ["_law_pot", "_law_film"] (defScope (top 42)) := ⟨rfl, rfl, rfl, by decide +kernel, rfl, by decide +kernel, by decide +kernel⟩
def toldD (film : List Deed) : Dt := .lst [encDeal (fsOf film).deal, .int ((fsOf film).paid : Int), encHad (hadOf film), .int ((film.length - 1 : Nat) : Int)]
theorem fine_told {film : List Deed} (h : FilmOk film) (hl : film.length ≤ 15) : Fine (toldD film) 20000 4 := by
  have ok := fs_ok h
  have hp := ok.paid
  exact (fine_lst (fineA_cons (fine_deal ok.deal) (fineA_cons ((fine_nat (by omega)).le (Nat.le_refl _) (by omega)) (fineA_cons ((fine_had h hl).le (Nat.le_refl _) (by omega)) (fineA_cons ((fine_nat (by omega)).le (Nat.le_refl _) (by omega)) fineA_nil))))).le (by omega) (Nat.le_refl _)
abbrev rhoS (a : Addr) (film : List Deed) (x9 x10 : Option Dt) : Rho := [some (.raw (.ref a)), some (encFilm film), some (.dic (kvD (hadOf film))), some (encDeal (fsOf film).deal), some (.int ((fsOf film).dealt : Int)), some (.int ((fsOf film).paid : Int)), some (toldD film), none, none, x9, x10, none, none, none, none, none, none]
theorem d_stands (T : TX mg) (c : PotC K C) (D : DefAt K mg "_law_stands" (top 42) ["_law_pot", "_law_film"]) (C1 : Callee P w K mg base "_law_had" 2 ["_law_film"] (spD K RHad)) (C2 : Callee P w K mg base "_law_row" 1 ["_law_runs_here", "_law_size"] (spD K RRow))
    (P0 : PCal P w K mg base C "deal" 1 (RdSp K C (RGet 0))) (P2 : PCal P w K mg base C "paid" 1 (RdSp K C (RGet 2))) (P3 : PCal P w K mg base C "has" 1 (RdSp K C (RGet 3))) (ML : SCal P w K mg base C "__len__" 1 (RdSp K C RLen)) (MI : SCal P w K mg base C "__contains__" 1 (RdSp K C RIn)) (MO : MCal P w K mg base C "owed" 3 ["self", "name"] (RdSp K C ROwed)) :
    CalleeG P w K mg base "_law_stands" 4 ["_law_pot", "_law_film"] (StandsSp K C) :=
  calG_any D sc42 (fun vs H Q E h => by
    obtain ⟨Hd, a, film, v, rfl, _⟩ := h
    rfl) fun f cdv A outer s H E hG hr vs Q h => by
    obtain ⟨Hd, a, film, v, rfl, ex, hi, hv, hok, hl, q⟩ := h
    have en := env_start (K := K) (Hd := Hd) n42 (ts := [.raw (.ref a), encFilm film]) (.cons (.raw (.ref a)) (.cons hv .nil))
    have ok := fs_ok hok
    have hds := ok.deal
    have hen := runs_endless hds.ok.runs
    have nd := had_nodup hok
    have hks := names_sort hok.all
    rw [← had_keys hok] at hks
    have hlen1 : 1 ≤ film.length := by
      obtain ⟨d, r, e⟩ := hok.first
      rw [e]
      simp
    have hhl := had_len hok
    have hdl := ok.dealt
    have hpl := past_len film
    have h0 : SvD K (InsI K C a (potF (standOf film) (pastOf film))) (wS (un (dCx P w K mg base n42 "_law_stands" (top 42) f cdv A outer s H E)) (stm 42 0)) (startD n42 [.raw (.ref a), encFilm film]) (.nx [some (.raw (.ref a)), some (encFilm film), some (.dic (kvD (hadOf film))), some (encDeal (fsOf film).deal), some (.int ((fsOf film).dealt : Int)), some (.int ((fsOf film).paid : Int)), none, none, none, none, none, none, none, none, none, none, none]) :=
      s_asg (x_call (fun _ => C1) (fun _ => hr) (a_one (x_var 1)) ⟨film, rfl, hok, hl, rfl⟩) (g_tup (m := 4) (g_cons (g_name 2 (fun _ => sc42.nd)) (g_cons (g_name 3 (fun _ => sc42.nd)) (g_cons (g_name 4 (fun _ => sc42.nd)) (g_cons (g_name 5 (fun _ => sc42.nd)) g_nil)))))
    have h1 : SvD K (InsI K C a (potF (standOf film) (pastOf film))) (wS (un (dCx P w K mg base n42 "_law_stands" (top 42) f cdv A outer s H E)) (stm 42 1)) [some (.raw (.ref a)), some (encFilm film), some (.dic (kvD (hadOf film))), some (encDeal (fsOf film).deal), some (.int ((fsOf film).dealt : Int)), some (.int ((fsOf film).paid : Int)), none, none, none, none, none, none, none, none, none, none, none] (.nx (rhoS a film none none)) :=
      s_set 6 (fun _ => sc42.nd) (ed_is (x_lst (a_cons (x_prop (j := 2) P0 hr (by decide) rfl c.cls (fun _ _ z => z) (x_var 0) ⟨standOf film, pastOf film, rfl, rfl, rfl⟩) (a_cons (x_prop (j := 2) P2 hr (by decide) rfl c.cls (fun _ _ z => z) (x_var 0) ⟨standOf film, pastOf film, rfl, rfl, rfl⟩) (a_two (x_prop (j := 2) P3 hr (by decide) rfl c.cls (fun _ _ z => z) (x_var 0) ⟨standOf film, pastOf film, rfl, rfl, rfl⟩) (x_lenO (j := 2) T ML hr (by decide) (fun _ _ z => z) (by rw [hpl]; omega) (x_var 0)))))) (by
        rw [hpl]
        rfl))
    have h2 : SvD K (InsI K C a (potF (standOf film) (pastOf film))) (wS (un (dCx P w K mg base n42 "_law_stands" (top 42) f cdv A outer s H E)) (stm 42 2)) (rhoS a film none none) (.nx (rhoS a film none none)) :=
      s_ifN (et_is (t_cmp (fun _ => op_ne) (x_reprF T (fine_told hok hl) (by decide) (by decide) (fun _ => hG) (fun _ => hr) (x_var 6)) (x_reprF T (fine_told hok hl) (by decide) (by decide) (fun _ => hG) (fun _ => hr) (ed_is (x_lst (a_cons (x_var 3) (a_cons (x_var 5) (a_two (x_tupleX T (x_lcA sc42 [("_law_name", 7)] (hadOf film) (fun p => .str p.1) prD (it_is (i_lst (x_dsort T (x_var 2) hks (by omega))) (by unfold keysN; rw [List.map_map]; rfl)) (by omega) (fun p hp => ⟨_, _, g_name 7 (fun _ => sc42.nd), by simp, x_tup (a_two (x_var 7) (x_dget (fun _ => hr) (x_var 2) (x_var 7) ((getN_mem nd).mp hp)))⟩))) (x_sub (x_lenL T (x_var 1)) x_int))))) (by
        show Dt.lst [encDeal (fsOf film).deal, .int ((fsOf film).paid : Int), encHad (hadOf film), .int ((((film.map encDeed).length : Nat) : Int) - 1)] = toldD film
        rw [List.length_map, show ((film.length : Nat) : Int) - 1 = ((film.length - 1 : Nat) : Int) by omega]
        rfl))) rd_nes (nomark _)) (beq_refl_s _))
    have strCase : ∀ n : Str, ∃ ρ1 js ρ2, GvD K (wG (un (dCx P w K mg base n42 "_law_stands" (top 42) f cdv A outer s H E)) (forTg (stm 42 3))) (.str n) (rhoS a film none none) ρ1 js ∧ SvD K (InsI K C a (potF (standOf film) (pastOf film))) (wSs (un (dCx P w K mg base n42 "_law_stands" (top 42) f cdv A outer s H E)) (forBody (stm 42 3))) ρ1 (.nx ρ2) ∧ Wk ρ2 (rhoS a film none none) := by
      intro n
      refine ⟨_, _, _, g_name 7 (fun _ => sc42.nd), ss_cons (s_set 8 (fun _ => sc42.nd) (d := .bl (inHad (hadOf film) n)) ?_) (ss_one (s_ifN (et_is (t_cmp (fun _ => op_ne) (x_reprF T (fine_bl _) (by decide) (by decide) (fun _ => hG) (fun _ => hr) (x_inO (j := 3) rfl MI hr (by decide) (fun _ _ z => z) (x_var 7) (x_var 0) ⟨standOf film, pastOf film, .str n, "str", rfl, by show (hadOf film).length ≤ 1000; omega, rfl, rfl, .inl ⟨n, rfl, rfl⟩⟩)) (x_reprF T (fine_bl _) (by decide) (by decide) (fun _ => hG) (fun _ => hr) (x_var 8)) rd_nes (nomark _)) (beq_refl_s _)))), .keep (.keep (.keep (.keep (.keep (.keep (.keep (.skip (.skip (Wk.refl _)))))))))⟩
      rw [inHad_get nd]
      cases g : getN (hadOf film) n with
      | none =>
        have hnm : decide (n ∈ keysN (hadOf film)) = false := decide_eq_false (getN_none.mp g)
        exact ed_is (x_and (j := false) (x_isi T (x_var 7) rfl kb_ss boot_str T.str) fun _ => ed_is (x_and (j := false) (x_din (fun _ => hr) (x_var 7) (x_var 2) (by with_unfolding_all rfl)) fun h => by rw [hnm] at h; cases h) (by rw [Bool.and_false])) (by rw [Bool.and_false])
      | some k =>
        have hm : n ∈ keysN (hadOf film) := by
          cases Decidable.em (n ∈ keysN (hadOf film)) with
          | inl h => exact h
          | inr h => rw [getN_none.mpr h] at g; cases g
        exact ed_is (x_and (x_isi T (x_var 7) rfl kb_ss boot_str T.str) fun _ => x_and (x_din (fun _ => hr) (x_var 7) (x_var 2) (by with_unfolding_all rfl)) fun _ => x_bo1 (x_cmp (fun _ => op_gt) (x_dget (fun _ => hr) (x_var 2) (x_var 7) g) x_int rd_ib (nomark _))) (by
          rw [decide_eq_true hm, Bool.true_and, Bool.true_and])
    have othCase : ∀ (d : Dt) (U : String), d.tyOf = some U → kitB U "str" = some false → ∃ ρ1 js ρ2, GvD K (wG (un (dCx P w K mg base n42 "_law_stands" (top 42) f cdv A outer s H E)) (forTg (stm 42 3))) d (rhoS a film none none) ρ1 js ∧ SvD K (InsI K C a (potF (standOf film) (pastOf film))) (wSs (un (dCx P w K mg base n42 "_law_stands" (top 42) f cdv A outer s H E)) (forBody (stm 42 3))) ρ1 (.nx ρ2) ∧ Wk ρ2 (rhoS a film none none) := by
      intro d U hU hk
      refine ⟨_, _, _, g_name 7 (fun _ => sc42.nd), ss_cons (s_set 8 (fun _ => sc42.nd) (d := .bl (false && false)) (x_and (j := false) (x_isi T (x_var 7) hU hk boot_str T.str) fun h => by exact absurd (show false = true from h) (by decide))) (ss_one (s_ifN (et_is (t_cmp (fun _ => op_ne) (x_reprF T (fine_bl _) (by decide) (by decide) (fun _ => hG) (fun _ => hr) (x_inO (j := 3) rfl MI hr (by decide) (fun _ _ z => z) (x_var 7) (x_var 0) ⟨standOf film, pastOf film, d, U, rfl, by show (hadOf film).length ≤ 1000; omega, rfl, hU, .inr ⟨hk, rfl⟩⟩)) (x_reprF T (fine_bl _) (by decide) (by decide) (fun _ => hG) (fun _ => hr) (x_var 8)) rd_nes (nomark _)) (beq_refl_s _)))), .keep (.keep (.keep (.keep (.keep (.keep (.keep (.skip (.skip (Wk.refl _)))))))))⟩
    have h3 : SvD K (InsI K C a (potF (standOf film) (pastOf film))) (wS (un (dCx P w K mg base n42 "_law_stands" (top 42) f cdv A outer s H E)) (stm 42 3)) (rhoS a film none none) (.nx (rhoS a film none none)) :=
      s_forC ((keysN (hadOf film)).map Dt.str ++ [.str "none", .int 5, .non, .lst [.str "a"], .str ""]) (fun d => d) (it_is (i_lst (x_cat (x_dlist T (x_var 2)) (x_lst (a_cons x_str (a_cons x_int (a_cons x_non (a_two (x_lst (a_one x_str)) x_str))))) (by rw [List.length_map]; unfold keysN; rw [List.length_map]; show (hadOf film).length + 5 ≤ 100000; omega))) (by rw [List.map_id'])) (fun i d hd => by
        have hm := List.mem_of_getElem? hd
        rcases List.mem_append.mp hm with hm | hm
        · obtain ⟨n, _, rfl⟩ := List.mem_map.mp hm
          exact strCase n
        · simp only [List.mem_cons, List.not_mem_nil, or_false] at hm
          rcases hm with rfl | rfl | rfl | rfl | rfl
          · exact strCase _
          · exact othCase _ _ rfl kb_is
          · exact othCase _ _ rfl kb_ns
          · exact othCase _ _ rfl kb_ls
          · exact strCase _)
    have ec : (((fsOf film).dealt : Int) + 60) = (((fsOf film).dealt + 60 : Nat) : Int) := by omega
    have h4 : SvD K (InsI K C a (potF (standOf film) (pastOf film))) (wS (un (dCx P w K mg base n42 "_law_stands" (top 42) f cdv A outer s H E)) (stm 42 4)) (rhoS a film none none) (.nx (rhoS a film (some (encRow ((rowOf (fsOf film).deal.runs ((fsOf film).dealt + 60)).drop (fsOf film).dealt))) none)) :=
      s_set 9 (fun _ => sc42.nd) (ed_is (x_slL (x_call (fun _ => C2) (fun _ => hr) (a_two (x_ixT 1 (x_var 3) x_int rfl rfl) (ed_is (x_add (x_var 4) x_int) (congrArg Dt.int ec))) ⟨(fsOf film).deal.runs, (fsOf film).dealt + 60, rfl, hen, fit_of hds, by omega, rfl⟩) (o_some (x_var 4)) o_none) (by
        show Dt.lst (cutD ((rowOf (fsOf film).deal.runs ((fsOf film).dealt + 60)).map fun c => Dt.str (sgF c)) (some ((fsOf film).dealt : Int)) none) = _
        rw [cutD_drop, ← List.map_drop]
        rfl))
    have h5 : SvD K (InsI K C a (potF (standOf film) (pastOf film))) (wS (un (dCx P w K mg base n42 "_law_stands" (top 42) f cdv A outer s H E)) (stm 42 5)) (rhoS a film (some (encRow ((rowOf (fsOf film).deal.runs ((fsOf film).dealt + 60)).drop (fsOf film).dealt))) none) (.nx (rhoS a film (some (encRow ((rowOf (fsOf film).deal.runs ((fsOf film).dealt + 60)).drop (fsOf film).dealt))) (some (.int (beginOf (fsOf film).deal.runs : Int))))) :=
      s_set 10 (fun _ => sc42.nd) (ed_is (x_sumM T (f := fun r : Run => ((r.1.getD 0 : Nat) : Int)) (x_lcA sc42 [("_law_size", 11), ("_law_figures_here", 12)] (fsOf film).deal.runs.dropLast encRun (fun r => .int ((r.1.getD 0 : Nat) : Int)) (it_is (i_tup (x_slT (x_ixT 1 (x_var 3) x_int rfl rfl) o_none (o_some (x_neg x_int)))) (by rw [cutD_last, List.map_dropLast])) (by rw [List.length_dropLast]; have := hds.runs; omega) (fun r hr => by
        obtain ⟨m, e⟩ := drop_some hen r hr
        obtain ⟨z, fg⟩ := r
        replace e : z = some m := e
        subst e
        exact ⟨_, _, g_two (k1 := 11) (k2 := 12) (fun _ => sc42.nd), by simp, x_var 11⟩))) (congrArg Dt.int (begin_sum hen)))
    have h6 : SvD K (InsI K C a (potF (standOf film) (pastOf film))) (wS (un (dCx P w K mg base n42 "_law_stands" (top 42) f cdv A outer s H E)) (stm 42 6)) (rhoS a film (some (encRow ((rowOf (fsOf film).deal.runs ((fsOf film).dealt + 60)).drop (fsOf film).dealt))) (some (.int (beginOf (fsOf film).deal.runs : Int)))) (.nx (rhoS a film (some (encRow ((rowOf (fsOf film).deal.runs ((fsOf film).dealt + 60)).drop (fsOf film).dealt))) (some (.int (beginOf (fsOf film).deal.runs : Int))))) :=
      s_forC (fsOf film).deal.names.zipIdx (fun p => .tup [.int (p.2 : Int), .str p.1]) (it_is (i_en (fun _ => T.enumerate) (a_one (x_ixT 0 (x_var 3) x_int rfl rfl)) (.t _ _)) (idx_lem Dt.str _)) (fun i p hp => by
        obtain ⟨nm, k⟩ := p
        have hk : (fsOf film).deal.names[k]? = some nm := by
          rw [List.getElem?_zipIdx] at hp
          cases z : (fsOf film).deal.names[i]? with
          | none => rw [z] at hp; cases hp
          | some x =>
            rw [z] at hp
            cases hp
            simpa using z
        have hnd := pair_nodup (inc_pairS hds.ok.names.inc)
        have hk4 : k < 6 := by
          have := (List.getElem?_eq_some_iff.mp hk).1
          have := hds.n4
          omega
        have hix := idx_at hnd hk
        let hits := hitsOf (fsOf film).deal.runs (fsOf film).dealt k
        let iv : List Int := hits.map fun p => (p.2 : Int) + 1
        have hitl : hits.length ≤ 60 := by
          have := List.length_filter_le (fun p : Nat × Nat => p.1 == k) (((rowOf (fsOf film).deal.runs ((fsOf film).dealt + 60)).drop (fsOf film).dealt).zipIdx)
          rw [List.length_zipIdx, List.length_drop, row_len] at this
          show (List.filter _ _).length ≤ 60
          omega
        have b1 : SvD K (InsI K C a (potF (standOf film) (pastOf film))) (wS (un (dCx P w K mg base n42 "_law_stands" (top 42) f cdv A outer s H E)) ((forBody (stm 42 6)).getD 0 (.Pass ⟨0, 0, 0, 0⟩))) (((rhoS a film (some (encRow ((rowOf (fsOf film).deal.runs ((fsOf film).dealt + 60)).drop (fsOf film).dealt))) (some (.int (beginOf (fsOf film).deal.runs : Int)))).set 13 (some (.int (k : Int)))).set 7 (some (.str nm))) (.nx ((((rhoS a film (some (encRow ((rowOf (fsOf film).deal.runs ((fsOf film).dealt + 60)).drop (fsOf film).dealt))) (some (.int (beginOf (fsOf film).deal.runs : Int)))).set 13 (some (.int (k : Int)))).set 7 (some (.str nm))).set 14 (some (.lst (iv.map Dt.int))))) :=
          sv_to (s_setLc sc42 14 [("_law_spot", 15), ("_law_sign", 16)] (((rowOf (fsOf film).deal.runs ((fsOf film).dealt + 60)).drop (fsOf film).dealt).zipIdx) (fun p => .tup [.int (p.2 : Int), .str (sgF p.1)]) (fun p => p.1 == k) (fun p => .int ((p.2 : Int) + 1)) (it_is (i_en (fun _ => T.enumerate) (a_one (x_var 9)) (.l _)) (idx_lem (fun c => Dt.str (sgF c)) _)) (by rw [List.length_zipIdx, List.length_drop, row_len]; omega) (fun p _ => ⟨_, _, g_two (k1 := 15) (k2 := 16) (fun _ => sc42.nd), by simp, ts_one (et_is (t_cmp (fun _ => op_eq) (x_var 16) (x_ixS k x_str (x_var 13) rfl (digit6_at k hk4) (by decide)) rd_eqs (nomark _)) (sgF_dec p.1 k)), fun _ => x_add (x_var 15) x_int⟩)) (by
            show _ = ((((rhoS a film (some (encRow ((rowOf (fsOf film).deal.runs ((fsOf film).dealt + 60)).drop (fsOf film).dealt))) (some (.int (beginOf (fsOf film).deal.runs : Int)))).set 13 (some (.int (k : Int)))).set 7 (some (.str nm))).set 14 (some (.lst ((hits.map fun p => (p.2 : Int) + 1).map Dt.int))))
            rw [List.map_map]
            rfl)
        have hRo : ROwed (potF (standOf film) (pastOf film)) [.str nm] (owedD (standOf film) k) := ⟨standOf film, pastOf film, nm, rfl, rfl, List.mem_of_getElem? hk, by show (fsOf film).deal.names.length ≤ 6; have := hds.n4; omega, by show (fsOf film).deal.runs.length ≤ 60; have := hds.runs; omega, fit_of hds, by rw [show (standOf film).deal.names.idxOf nm = k from hix]⟩
        have sk : Wk ((((rhoS a film (some (encRow ((rowOf (fsOf film).deal.runs ((fsOf film).dealt + 60)).drop (fsOf film).dealt))) (some (.int (beginOf (fsOf film).deal.runs : Int)))).set 13 (some (.int (k : Int)))).set 7 (some (.str nm))).set 14 (some (.lst (iv.map Dt.int)))) (rhoS a film (some (encRow ((rowOf (fsOf film).deal.runs ((fsOf film).dealt + 60)).drop (fsOf film).dealt))) (some (.int (beginOf (fsOf film).deal.runs : Int)))) := .keep (.keep (.keep (.keep (.keep (.keep (.keep (.skip (.keep (.keep (.keep (.keep (.keep (.skip (.skip (Wk.refl _)))))))))))))))
        refine ⟨_, _, _, g_two (k1 := 13) (k2 := 7) (fun _ => sc42.nd), ss_cons b1 (ss_cons (ρ1 := (((rhoS a film (some (encRow ((rowOf (fsOf film).deal.runs ((fsOf film).dealt + 60)).drop (fsOf film).dealt))) (some (.int (beginOf (fsOf film).deal.runs : Int)))).set 13 (some (.int (k : Int)))).set 7 (some (.str nm))).set 14 (some (.lst (iv.map Dt.int)))) ?_ (ss_one ?_)), sk⟩
        · cases e : hits with
          | nil =>
            have ei : iv = [] := by show hits.map _ = []; rw [e]; rfl
            have hne : PyData.eqv (Dt.lst (iv.map Dt.int)).py (Dt.lst []).py = true := by rw [eqv_nil, ei]; rfl
            exact s_ifN (et_is (t_w (w_and (j := false) (t_cmp (fun _ => op_neD hr.units) (x_var 14) (x_lst a_nil) (rd_neD (pure_ints iv) (by simp [Dt.pure, Dt.pureA]) (shaped_ints iv) (shaped_ints [])) (nomark _)) fun h => by rw [hne] at h; cases h)) (by rw [Bool.and_false]))
          | cons p r =>
            obtain ⟨c0, j0⟩ := p
            have hown := owed_hit (s := standOf film) hen e
            have ei : (iv.map Dt.int)[0]? = some (owedD (standOf film) k) := by
              show ((hits.map fun p => (p.2 : Int) + 1).map Dt.int)[0]? = _
              rw [e, hown]
              rfl
            have hj0 : j0 < 60 := by
              have hm : (c0, j0) ∈ hits := by rw [e]; exact List.mem_cons_self
              have := (List.mem_filter.mp hm).1
              have := List.snd_lt_of_mem_zipIdx this
              rw [List.length_drop, row_len] at this
              omega
            have fo : Fine (owedD (standOf film) k) 41 0 := by
              rw [hown]
              exact fine_int (by omega)
            exact s_ifN (et_is (t_w (w_and (j := false) (t_cmp (fun _ => op_neD hr.units) (x_var 14) (x_lst a_nil) (rd_neD (pure_ints iv) (by simp [Dt.pure, Dt.pureA]) (shaped_ints iv) (shaped_ints [])) (nomark _)) fun h => w_and1 (et_is (t_cmp (fun _ => op_ne) (x_reprF T fo (by decide) (by decide) (fun _ => hG) (fun _ => hr) (x_rdC MO hr (by decide) rfl c.cls (fun _ _ z => z) rfl (x_var 0) (a_one (x_var 7)) hRo)) (x_reprF T fo (by decide) (by decide) (fun _ => hG) (fun _ => hr) (x_ixL 0 (x_var 14) x_int rfl ei)) rd_nes (nomark _)) (beq_refl_s _)))) (by rw [Bool.and_false]))
        · cases e : hits with
          | cons p r =>
            have hne : PyData.eqv (Dt.lst (iv.map Dt.int)).py (Dt.lst []).py = false := by
              rw [eqv_nil]
              show (hits.map _).isEmpty = false
              rw [e]
              rfl
            exact s_ifN (et_is (t_w (w_and (j := false) (t_cmp (fun _ => op_eqD hr.units) (x_var 14) (x_lst a_nil) (rd_eqD (pure_ints iv) (by simp [Dt.pure, Dt.pureA]) (shaped_ints iv) (shaped_ints [])) (nomark _)) fun h => by rw [hne] at h; cases h)) (by rw [Bool.and_false]))
          | nil =>
            exact s_ifN (et_is (t_w (w_and (j := false) (t_cmp (fun _ => op_eqD hr.units) (x_var 14) (x_lst a_nil) (rd_eqD (pure_ints iv) (by simp [Dt.pure, Dt.pureA]) (shaped_ints iv) (shaped_ints [])) (nomark _)) fun h => et_is (w_and (j := false) (t_cmp (fun _ => op_ge) (x_var 4) (x_var 10) rd_ib (nomark _)) fun h2 => by
              rw [ge_dec] at h2
              have hown := owed_none (s := standOf film) hen (fun r hr => by have := (hds.short r hr).1; omega) (of_decide_eq_true h2) e
              exact w_and1 (et_is (t_cmp (fun _ => op_notN) (x_rdC MO hr (by decide) rfl c.cls (fun _ _ z => z) rfl (x_var 0) (a_one (x_var 7)) hRo) x_non (rd_nisn (by rw [hown]; rfl)) (nomark _)) (by rw [hown]; rfl))) (by rw [Bool.and_false]))) (by rw [Bool.and_false])))
    have all : SvD K (InsI K C a (potF (standOf film) (pastOf film))) (wSs (un (dCx P w K mg base n42 "_law_stands" (top 42) f cdv A outer s H E)) (defBody (top 42))) (startD n42 [.raw (.ref a), encFilm film]) (.rt (.bl true)) :=
      ss_cons h0 (ss_cons h1 (ss_cons h2 (ss_cons h3 (ss_cons h4 (ss_cons h5 (ss_cons h6 (ss_one (s_ret x_bl))))))))
    exact all _ Hd H ex en hi _ fun v Hd' H' s' iv => by
      rw [iv.bl_inv]
      exact q Hd' H' s'
end
end SP
/-! Q22 -/
namespace SP
open PySem PySem.Spec PyProof.Rows L2 LamX NdefX
theorem ins_stp {K : PySem.W.Frag} {C a : Addr} {fs : List (Str × Dt)} {M : Addr → Prop} {Hd H Hd' H' : Hp} (s : Stp M Hd H Hd' H') (hm : ¬ M a) (h : (InsI K C a fs).p Hd H) : (InsI K C a fs).p Hd' H' := by
  obtain ⟨h1, dx, fl, e1, e2⟩ := h
  exact ⟨s.sep a (by rw [e1]; intro z; cases z) h1, dx, fl, s.up _ _ e1 hm, e2.mono s.ud⟩
theorem stand_pay {film : List Deed} {c : Nat} : (⟨(standOf film).deal, (standOf film).dealt + c, (standOf film).paid + c, hadOf (film ++ [.pay c])⟩ : Stand) = standOf (film ++ [.pay c]) := by
  unfold standOf
  rw [fs_snoc]
  rfl
theorem stand_deal {film : List Deed} {d : Deal} : (⟨d, 0, (standOf film).paid, hadOf (film ++ [.deal d])⟩ : Stand) = standOf (film ++ [.deal d]) := by
  unfold standOf
  rw [fs_snoc]
  rfl
def DoneSp (K : PySem.W.Frag) (C : Addr) : Sp := fun vs H Q _ => ∃ (Hd : Hp) (a : Addr) (film : List Deed) (past : List Stand) (x : Deed) (v : V), vs = [.ref a, v] ∧ Ex Hd H ∧ (InsI K C a (potF (standOf film) past)).p Hd H ∧ Im K Hd v (encDeed x) ∧ FilmOk film ∧ film.length ≤ 14 ∧ past.length ≤ 1000 ∧ DeedOk x ∧
  ∀ u Hd' H', Stp (· = a) Hd H Hd' H' → (InsI K C a (potF (standOf (film ++ [x])) (past ++ [standOf film]))).p Hd' H' → Im K Hd' u (dueD film x) → Q u H'
section
variable {P : Program} {w : World} {K : PySem.W.Frag} {mg : Str → Option Value} {base : Heap} {C CT : Addr}
abbrev n44 : List Str := ["_law_pot", "_law_deed"]
theorem sc44 : FnScope n44 ["_law_pot", "_law_deed"] (defScope (top 44)) := ⟨rfl, rfl, rfl, by decide +kernel, rfl, by decide +kernel, by decide +kernel⟩
def ifeA : Expr → Expr
  | .IfExp _ a _ _ => a
  | e => e
def ifeB : Expr → Expr
  | .IfExp _ _ b _ => b
  | e => e
theorem c_ifE {ι : Type} {F : ι → Cx} {σ : L2.St} {H : Hp} {c a b : Expr} {pos : Pos} {Q : VK} (h : wT F c σ H fun k H' => if k = true then wE F a σ H' Q else wE F b σ H' Q) : wE F (.IfExp c a b pos) σ H Q := ⟨_, fun i => pe_ifExp (wT_ok i) (wE_ok i) (wE_ok i), h⟩
theorem d_done (T : TX mg) (c : PotC K C) (D : DefAt K mg "_law_done" (top 44) ["_law_pot", "_law_deed"]) (MC : CCal P w K mg base C 4 (MutSp K C RPay)) (MH : MCal P w K mg base C "change" 4 ["self", "deal"] (MutSp K C RChange)) : Callee P w K mg base "_law_done" 5 ["_law_pot", "_law_deed"] (DoneSp K C) :=
  cal_any D sc44 (fun vs H Q E h => by
    obtain ⟨Hd, a, film, past, x, v, rfl, _⟩ := h
    rfl) fun f cdv A outer s H E hr vs Q h => by
    obtain ⟨Hd, a, film, past, x, v, rfl, ex, hi, hv, hok, hl, hpl, hx, q⟩ := h
    have en := env_start (K := K) (Hd := Hd) n44 (ts := [.raw (.ref a), encDeed x]) (.cons (.raw (.ref a)) (.cons hv .nil))
    have hhl := had_len hok
    cases x with
    | pay k =>
      have hperm : (addAll (standOf film).had ((standOf film).deal.names.zip (moreOf (standOf film).deal (standOf film).dealt k))).Perm (hadOf (film ++ [Deed.pay k])) := pay_perm hok hx
      have tst : EvT K (InsI K C a (potF (standOf film) past)) (wT (un (dCx P w K mg base n44 "_law_done" (top 44) f cdv A outer s H E)) (ifeTest (retOf (stm 44 0)))) (startD n44 [.raw (.ref a), encDeed (.pay k)]) true :=
        et_is (t_cmp (fun _ => op_eq) (x_ixT 0 (x_var 1) x_int rfl rfl) x_str rd_eqs (nomark _)) rfl
      refine c_one (c_ret (c_ifE (tst _ Hd H ex en hi _ fun Hd1 H1 s1 => ?_)))
      have hi1 := (InsI K C a (potF (standOf film) past)).mono s1 hi
      have arg : EvD K (InsI K C a (potF (standOf film) past)) (wE (un (dCx P w K mg base n44 "_law_done" (top 44) f cdv A outer s H E)) (argOf (ifeA (retOf (stm 44 0))))) (startD n44 [.raw (.ref a), encDeed (.pay k)]) (.int (k : Int)) := x_ixT 1 (x_var 1) x_int rfl rfl
      obtain ⟨_, dx, fl, e1, e2⟩ := id hi1
      refine ⟨tCallO 0 C (MutSp K C RPay) (wE (un (dCx P w K mg base n44 "_law_done" (top 44) f cdv A outer s H E)) (argOf (ifeA (retOf (stm 44 0))))), fun _ => pe_callO MC hr (by decide) rfl (.inl rfl) (wE_ok (F := un (dCx P w K mg base n44 "_law_done" (top 44) f cdv A outer s H E)) ()), a, dx, fl, rfl, e1, ?_⟩
      refine arg _ Hd1 H1 s1.sub (en.mono s1.ud) hi1 _ fun v Hd2 H2 s2 i2 => ?_
      have hi2 := (InsI K C a (potF (standOf film) past)).mono s2 hi1
      obtain ⟨_, dx2, fl2, e3, _⟩ := id hi2
      refine ⟨⟨dx2, fl2, e3⟩, Hd2, a, potF (standOf film) past, [v], [.int (k : Int)], dueD film (.pay k), potF (standOf (film ++ [.pay k])) (past ++ [standOf film]), rfl, s2.sub, hi2, .cons i2 .nil, ⟨standOf film, past, k, hadOf (film ++ [Deed.pay k]), rfl, hpl, rfl, pay_ok hok hx (by omega), hperm, had_sort (hok.snoc hx), rfl, by rw [stand_pay]⟩, fun u Hd3 H3 s3 p3 i3 => q u Hd3 H3 ((s1.trans s2).nom.trans s3) p3 i3⟩
    | deal d =>
      have hd : DealS d := hx
      have hperm : (addAll (standOf film).had (d.names.zip (List.replicate d.names.length 0))).Perm (hadOf (film ++ [Deed.deal d])) := deal_perm hok hx
      have tst : EvT K (InsI K C a (potF (standOf film) past)) (wT (un (dCx P w K mg base n44 "_law_done" (top 44) f cdv A outer s H E)) (ifeTest (retOf (stm 44 0)))) (startD n44 [.raw (.ref a), encDeed (.deal d)]) false :=
        et_is (t_cmp (fun _ => op_eq) (x_ixT 0 (x_var 1) x_int rfl rfl) x_str rd_eqs (nomark _)) (by decide)
      refine c_one (c_ret (c_ifE (tst _ Hd H ex en hi _ fun Hd1 H1 s1 => ?_)))
      have hi1 := (InsI K C a (potF (standOf film) past)).mono s1 hi
      have arg : EvA K (InsI K C a (potF (standOf film) past)) (wA (un (dCx P w K mg base n44 "_law_done" (top 44) f cdv A outer s H E)) [argOf (ifeB (retOf (stm 44 0)))]) (startD n44 [.raw (.ref a), encDeed (.deal d)]) [encDeal d] := a_one (x_ixT 1 (x_var 1) x_int rfl rfl)
      obtain ⟨_, dx, fl, e1, e2⟩ := id hi1
      refine ⟨_, fun _ => pe_mcal MH c.cls hr (by decide) (wE_ok (F := un (dCx P w K mg base n44 "_law_done" (top 44) f cdv A outer s H E)) ()) (wA_ok (F := un (dCx P w K mg base n44 "_law_done" (top 44) f cdv A outer s H E)) ()), ?_⟩
      refine (x_var (K := K) (Φ := MP.tt) (d := .raw (.ref a)) (F := un (dCx P w K mg base n44 "_law_done" (top 44) f cdv A outer s H E)) (ρ := startD n44 [.raw (.ref a), encDeed (.deal d)]) 0) _ Hd1 H1 s1.sub (en.mono s1.ud) True.intro _ fun z Hd2 H2 s2 i2 => ?_
      have hi2 := (InsI K C a (potF (standOf film) past)).mono s2 hi1
      obtain ⟨_, dx2, fl2, e3, e4⟩ := id hi2
      rw [i2.raw_inv]
      refine ⟨a, dx2, fl2, rfl, e3, e4.none rfl, ?_⟩
      refine arg _ Hd2 H2 s2.sub (en.mono (s1.ud.trans s2.ud)) hi2 _ fun us Hd3 H3 s3 i3 => ?_
      have hi3 := (InsI K C a (potF (standOf film) past)).mono s3 hi2
      rw [List.append_nil]
      exact ⟨Hd3, a, potF (standOf film) past, us, [encDeal d], .non, potF (standOf (film ++ [.deal d])) (past ++ [standOf film]), rfl, s3.sub, hi3, i3, ⟨standOf film, past, d, hadOf (film ++ [Deed.deal d]), rfl, hpl, rfl, hd.ok, had_nodup hok, by show (hadOf film).length ≤ 900; omega, hperm, had_sort (hok.snoc hx), rfl, by rw [stand_deal]⟩, fun u Hd4 H4 s4 p4 i4 => q u Hd4 H4 ((s1.trans (s2.trans s3)).nom.trans s4) p4 i4⟩
/-! ### under(manager, deed) -/
abbrev n27 : List Str := ["manager", "deed", "one", "told"]
theorem sc27 : FnScope n27 ["manager", "deed"] (defScope (top 27)) := ⟨rfl, rfl, rfl, by decide +kernel, rfl, by decide +kernel, by decide +kernel⟩
def tUnder (K : PySem.W.Frag) (C CT f c' : Addr) (q : Str) (Nl : List Str) (ws : List (Option V)) (tb : TE) : TS := tSeq (tWithO CT (EnterSp K C CT) (ExitSp K C CT) (tVar 0) 2 (tAsg (tDeed f c' q Nl ws tb 1 (tVar 2)) (gName 3))) (tRet (tVar 3))
theorem under_run {q : Str} {tb : TE} {Nl : List Str} {ws : List (Option V)} {f c' t a : Addr} {s : Stand} {past : List Stand} {Q : VK} {Hd H : Hp} {G : Dt → Prop} (ht : (InsI K CT t (triF a (.tup []) (.tup []))).p Hd H) (ha : (InsI K C a (potF s past)).p Hd H) (ne : a ≠ t) (ex : Ex Hd H) (hc : H c' = some (CodeO c' q))
    (hbody : ∀ (Hd1 H1 : Hp) (Q1 : VK), Stp (· = t) Hd H Hd1 H1 → (InsI K C a (potF s past)).p Hd1 H1 → (∀ v d Hd2 H2 s2 past2, G d → Stp (· = a) Hd1 H1 Hd2 H2 → (InsI K C a (potF s2 past2)).p Hd2 H2 → Im K Hd2 v d → Q1 v H2) → tb (startF Nl [.ref a] ws) H1 Q1)
    (q' : ∀ v d Hd' H', G d → Stp (fun x => x = a ∨ x = t) Hd H Hd' H' → (InsI K C a (potF s past)).p Hd' H' → Im K Hd' v d → Q v H') : tUnder K C CT f c' q Nl ws tb { nx := fun _ H' => Q .non H', rt := Q } (L2.start n27 [.ref t, .ref f]) H := by
  obtain ⟨_, dx, fl, e1, e2⟩ := id ht
  refine ⟨.ref t, rfl, t, dx, fl, rfl, e1, ?_⟩
  refine ⟨Hd, t, a, s, past, .tup [], .tup [], rfl, ex, ne, ht, ha, fun Hd1 H1 s1 p1 p2 => ?_⟩
  have hne : c' ≠ t := fun z => by rw [z, e1] at hc; cases hc
  refine ⟨rfl, .ref a, rfl, s1.up _ _ hc hne, ?_⟩
  refine hbody Hd1 H1 _ s1 p2 fun v d Hd2 H2 s2' past2 g s2 p3 iv => ?_
  have p4 := ins_stp s2 (Ne.symm ne) p1
  obtain ⟨_, dx2, fl2, e3, _⟩ := id p4
  refine ⟨dx2, fl2, e3, Hd2, t, a, s2', s, past2, past, .non, .non, .non, rfl, s2.sub, ne, p4, p3, fun z Hd3 H3 s3 p5 => ?_⟩
  refine ⟨v, rfl, ?_⟩
  exact q' v d Hd3 H3 g ((s1.mono fun x e => .inr e).trans ((s2.mono fun x e => .inl e).trans (s3.mono fun x e => .inl e))) p5 (iv.mono s3.ud)
end
end SP
/-! Q23 -/
namespace SP
open PySem PySem.Spec PyProof.Rows L2 LamX NdefX
/-! ### what the law keeps -/
def TbM (T : List (Addr × Str)) : MP := ⟨fun Hd H => Tabs T H ∧ ∀ a ps, Hd a ≠ some (.tbl ps), fun s ⟨t, n⟩ => ⟨t.ext s.ex, fun a ps z => n a ps (s.nt a ps z)⟩⟩
theorem tb_stp {T : List (Addr × Str)} {M : Addr → Prop} {Hd H Hd' H' : Hp} (s : Stp M Hd H Hd' H') (hM : ∀ x o, M x → H x = some o → (∀ ps, o ≠ .tbl ps) ∧ (∀ g, o ≠ .ext g)) (t : (TbM T).p Hd H) : (TbM T).p Hd' H' := by
  refine ⟨fun p hp => ?_, fun a ps z => t.2 a ps (s.nt a ps z)⟩
  obtain ⟨ps, h1, h2, h3⟩ := t.1 p hp
  refine ⟨ps, s.up _ _ h1 fun m => (hM _ _ m h1).1 ps rfl, h2, fun pos cv hc => ?_⟩
  obtain ⟨c, e1, e2⟩ := h3 pos cv hc
  exact ⟨c, e1, s.up _ _ e2 fun m => (hM _ _ m e2).2 _ rfl⟩
theorem md_stp {K : PySem.W.Frag} {am : Addr} {n : Nat} {M : Addr → Prop} {Hd H Hd' H' : Hp} (s : Stp M Hd H Hd' H') (hm : ¬ M am) (h : (MD K am n).p Hd H) : (MD K am n).p Hd' H' := by
  obtain ⟨c, cs, l, z, ⟨h1, h2, h3⟩, h⟩ := h
  exact ⟨c, cs, l, z, ⟨s.sep am (by rw [h2]; intro q; cases q) h1, s.up _ _ h2 hm, h3.mono s.ud⟩, h⟩
theorem md_kind {K : PySem.W.Frag} {am : Addr} {n : Nat} {Hd H : Hp} (h : (MD K am n).p Hd H) : ∀ x o, x = am → H x = some o → (∀ ps, o ≠ .tbl ps) ∧ (∀ g, o ≠ .ext g) := by
  obtain ⟨c, cs, l, z, ⟨h1, h2, h3⟩, h⟩ := h
  rintro x o rfl e
  rw [h2] at e
  cases e
  exact ⟨fun ps z => (by cases z), fun g z => (by cases z)⟩
theorem ins_kind {K : PySem.W.Frag} {C a : Addr} {fs : List (Str × Dt)} {Hd H : Hp} (h : (InsI K C a fs).p Hd H) : ∀ x o, x = a → H x = some o → (∀ ps, o ≠ .tbl ps) ∧ (∀ g, o ≠ .ext g) := by
  obtain ⟨h1, dx, fl, e1, e2⟩ := h
  rintro x o rfl e
  rw [e1] at e
  cases e
  exact ⟨fun ps z => (by cases z), fun g z => (by cases z)⟩
theorem md_ins {K : PySem.W.Frag} {am C a : Addr} {n : Nat} {fs : List (Str × Dt)} {Hd H : Hp} (h : (MD K am n).p Hd H) (i : (InsI K C a fs).p Hd H) : am ≠ a := by
  obtain ⟨c, cs, l, z, ⟨h1, h2, h3⟩, h⟩ := h
  obtain ⟨_, dx, fl, e1, e2⟩ := i
  exact fun z => by rw [z, e1] at h2; cases h2
/-- a lambda was made -/
theorem ext_of {T : List (Addr × Str)} {Hd H H2 : Hp} (t : (TbM T).p Hd H) (ex : Ex Hd H) (e : ExtN H H2) (t2 : Tabs T H2) : Ex Hd H2 ∧ (TbM T).p Hd H2 :=
  ⟨fun a o z => e a o (ex a o z) fun ps q => t.2 a ps (by rw [z, q]), t2, t.2⟩
theorem ins_ext {K : PySem.W.Frag} {C a : Addr} {fs : List (Str × Dt)} {Hd H H2 : Hp} (h : (InsI K C a fs).p Hd H) (e : ExtN H H2) : (InsI K C a fs).p Hd H2 := by
  obtain ⟨h1, dx, fl, e1, e2⟩ := h
  exact ⟨h1, dx, fl, e _ _ e1 (fun ps z => by cases z), e2⟩
theorem md_ext {K : PySem.W.Frag} {am : Addr} {n : Nat} {Hd H H2 : Hp} (h : (MD K am n).p Hd H) (e : ExtN H H2) : (MD K am n).p Hd H2 := by
  obtain ⟨c, cs, l, z, ⟨h1, h2, h3⟩, h⟩ := h
  exact ⟨c, cs, l, z, ⟨h1, e _ _ h2 (fun ps z => by cases z), h3⟩, h⟩
/-! ### under(e, lambda ..) -/
section
variable {X : Cx} {C CT : Addr}
theorem pe_underL {T : List (Addr × Str)} {c P : Addr} {k : Nat} {Nl fr : List Str} {js : List Nat} {pn : Str} {params : Arguments} {body e : Expr} {scope : Scope} {te tb : TE} {p lpos pos : Pos}
    (D : DefAt X.K X.mg "under" (top 27) ["manager", "deed"]) (SE : SCal X.prog X.w X.K X.mg X.base CT "__enter__" 1 (EnterSp X.K C CT)) (SX : SCal X.prog X.w X.K X.mg X.base CT "__exit__" 1 (ExitSp X.K C CT))
    (TB : TabB X.base X.mg c P) (hcode : X.env.code = .ref c) (hmT : (P, X.env.qual ++ "<lambda>") ∈ T) (hu : ∀ p ∈ T, p.1 = P → p.2 = X.env.qual ++ "<lambda>") (hr : Room (k + 2) X.A)
    (hcap : ndefB X.env.scope scope fr = true) (hjs : js.map (fun j => X.N[j]?) = fr.map some) (S : NScope Nl [pn] fr scope) (hdef : defaultsOf params X.env = ([], []))
    (hbind : ∀ (q : Str) (cl : List (Str × Addr)) (pm cv ctv u : Value), bindArgs (PySem.W.kla_fn "<lambda>" q params body scope cl pm cv ctv) ⟨[u], []⟩ = pure [(pn, u)])
    (hbody : ∀ (A : Around) (outer : List Env) (s : Shared) (H : Hp) (f c' : Addr), Room k (A.deeper (envF (lamNF X params scope c') f s.heap.objs.size)) → PE (ncx CX0 X.prog X.w X.K X.mg X.base Nl (lamNF X params scope c') f A outer s H E0) body tb)
    (he : PE X e te) (hs : starEach [e, .Lambda params body scope lpos] X.env = (false, eval e X.env) :: starEach [.Lambda params body scope lpos] X.env := by rfl) (hg : Gl X "under" := by rfl) :
    PE X (.Call (.Name "under" p) [e, .Lambda params body scope lpos] [] pos) (tLam2 T (X.env.qual ++ "<lambda>") n27 js (fun f c' ws => tUnder X.K C CT f c' (X.env.qual ++ "<lambda>") Nl ws tb) te) := by
  obtain ⟨g, fd, h1, h2, h3⟩ := D.ex
  obtain ⟨oc, od, kV, doc, pm, an, cdv, ct, osl, rfl, lk, hcd⟩ := h2.ex
  obtain ⟨fe, e1, e2, e3⟩ := SE.ex
  obtain ⟨fx, x1, x2, x3⟩ := SX.ex
  refine pe_lam2 (k := k) (pn := pn) hg h1 h2.kp lk hcd h3 rfl sc27 TB hcode hmT hu hr hcap hjs S hdef hbind hbody (fun f c' s H ws hr' hdeed => ?_) he hs
  have ru : Room 1 (uCx X n27 "under" (defScope (top 27)) g cdv s H).A := hr'.mono (by omega)
  refine pss_cons (ps_withO (C := CT) rfl (pe_var (i := 0) rfl (.inl rfl)) e3 x3 ru e1 e2 x1 x2 sc27.nd rfl rfl (pss_one (ps_set (i := 3) sc27.nd rfl (.inl rfl) (hdeed (i := 1) (a := "deed") rfl (.inl rfl) (pe_var (i := 2) rfl (.inl rfl)) rfl rfl rfl) rfl))) (pss_one (ps_ret (pe_var (i := 3) rfl (.inl rfl))))
end
end SP
/-! Q24 -/
namespace SP
open PySem PySem.Spec PyProof.Rows L2 LamX NdefX
/-! ### pots, seen from the law -/
section
variable {X : Cx} {C CT : Addr} {Φ : MP} {ρ : Rho} {σ : L2.St} {Hd H : Hp} {Q : VK} {o e b : Expr} {apos pos p : Pos} {a : Addr} {s : Stand} {past : List Stand} {k j : Nat}
theorem c_copy (m : MCal X.prog X.w X.K X.mg X.base C "copy" 6 ["self"] (CopySp X.K C)) (c : Cls X.K C) (hr : Room j X.A) (hkj : 6 ≤ j) (en : EnvD X.K Hd σ ρ) (ex : Ex Hd H) (ho : EvD X.K MP.tt (wE (un X) o) ρ (.raw (.ref a))) (ha : (InsI X.K C a (potF s past)).p Hd H) (hd : DealOk s.deal)
    (q : ∀ x Hd' H', Stp NoM Hd H Hd' H' → H x = none → (InsI X.K C x (potF s past)).p Hd' H' → Q (.ref x) H')
    (ht : ∃ pl : Sem Bool, eval (.Call (.Attribute o "copy" apos) [] [] pos) X.env = (do
      let ov ← eval o X.env
      standAt apos.atName
      let (f, first) ← holding [ov] (getMethod ov "copy" pl)
      callWith pos f first (backTo pos (starEach [] X.env)) (backToKw pos (keywordEach [] X.env))) := by exact ⟨_, rfl⟩) : wE (un X) (.Call (.Attribute o "copy" apos) [] [] pos) σ H Q := by
  obtain ⟨pl, ht⟩ := ht
  refine ⟨_, fun _ => pe_mcal0 m c hr hkj (wE_ok (F := un X) (e := o) ()) ht, ?_⟩
  refine ho σ Hd H ex en True.intro _ fun v Hd1 H1 s1 i1 => ?_
  rw [i1.raw_inv]
  have ha1 := (InsI X.K C a (potF s past)).mono s1 ha
  obtain ⟨_, dx, fl, e1, e2⟩ := id ha1
  refine ⟨a, dx, fl, rfl, e1, e2.none rfl, ?_⟩
  exact ⟨Hd1, a, s, past, rfl, s1.sub, ha1, hd, fun x Hd2 H2 s2 nx p2 => q x Hd2 H2 (s1.trans s2) (by
    cases z : H x with
    | none => rfl
    | some u => exact absurd nx (s1.al x (by rw [z]; intro q; cases q))) p2⟩
theorem c_trial (m : MCal X.prog X.w X.K X.mg X.base C "trial" 3 ["self"] (TrialSp X.K CT)) (c : Cls X.K C) (hr : Room j X.A) (hkj : 3 ≤ j) (en : EnvD X.K Hd σ ρ) (ex : Ex Hd H) (ho : EvD X.K MP.tt (wE (un X) o) ρ (.raw (.ref a))) (ha : (InsI X.K C a (potF s past)).p Hd H)
    (q : ∀ t Hd' H', Stp NoM Hd H Hd' H' → H t = none → (InsI X.K CT t (triF a (.tup []) (.tup []))).p Hd' H' → Q (.ref t) H')
    (ht : ∃ pl : Sem Bool, eval (.Call (.Attribute o "trial" apos) [] [] pos) X.env = (do
      let ov ← eval o X.env
      standAt apos.atName
      let (f, first) ← holding [ov] (getMethod ov "trial" pl)
      callWith pos f first (backTo pos (starEach [] X.env)) (backToKw pos (keywordEach [] X.env))) := by exact ⟨_, rfl⟩) : wE (un X) (.Call (.Attribute o "trial" apos) [] [] pos) σ H Q := by
  obtain ⟨pl, ht⟩ := ht
  refine ⟨_, fun _ => pe_mcal0 m c hr hkj (wE_ok (F := un X) (e := o) ()) ht, ?_⟩
  refine ho σ Hd H ex en True.intro _ fun v Hd1 H1 s1 i1 => ?_
  rw [i1.raw_inv]
  have ha1 := (InsI X.K C a (potF s past)).mono s1 ha
  obtain ⟨_, dx, fl, e1, e2⟩ := id ha1
  refine ⟨a, dx, fl, rfl, e1, e2.none rfl, ?_⟩
  exact ⟨Hd1, a, rfl, s1.sub, fun x Hd2 H2 s2 nx p2 => q x Hd2 H2 (s1.trans s2) (by
    cases z : H x with
    | none => rfl
    | some u => exact absurd nx (s1.al x (by rw [z]; intro q; cases q))) p2⟩
/-- x == y -/
theorem x_eqO {a2 : Addr} {s2 : Stand} {past2 : List Stand} (m : SCal X.prog X.w X.K X.mg X.base C "__eq__" 1 (EqSp X.K C)) (hr : Room j X.A) (hkj : 1 ≤ j) (hi : PySem.W.notFirst X.K C (.type "int") = true) (h1 : ∀ Hd H, Φ.p Hd H → (InsI X.K C a (potF s past)).p Hd H) (h2 : ∀ Hd H, Φ.p Hd H → (InsI X.K C a2 (potF s2 past2)).p Hd H) (o1 : EqOk s) (o2 : EqOk s2) (ho : EvD X.K Φ (wE (un X) o) ρ (.raw (.ref a))) (he : EvD X.K Φ (wE (un X) e) ρ (.raw (.ref a2))) (hm : behindInMarks .Eq e = false) : EvD X.K Φ (wE (un X) (.Compare o [.Eq] [e] pos)) ρ (.bl (eqStand s s2)) := by
  obtain ⟨f, f1, f2, f3⟩ := m.ex
  refine lE (fun _ => pe_cmpR (op_eqO f3 (hr.mono hkj) f1 f2 hi) (wE_ok (F := un X) (e := o) ()) (wE_ok (F := un X) (e := e) ()) hm) fun σ Hd H ex en pp Q q => ?_
  refine ho σ Hd H ex en pp _ fun v Hd1 H1 s1 i1 => he σ Hd1 H1 s1.sub (en.mono s1.ud) (Φ.mono s1 pp) _ fun u Hd2 H2 t2 i2 => ?_
  rw [i2.raw_inv, (i1.mono t2.ud).raw_inv]
  have p2 := Φ.mono t2 (Φ.mono s1 pp)
  have q1 := h1 _ _ p2
  have q2 := h2 _ _ p2
  obtain ⟨_, dx, fl, e1, e2⟩ := id q1
  obtain ⟨_, dy, gl, g1, g2⟩ := id q2
  exact ⟨a, dx, fl, rfl, e1, .inl ⟨a2, dy, gl, rfl, g1⟩, Hd2, a, s, past, .ref a2, rfl, t2.sub, q1, o1, .inl ⟨a2, s2, past2, rfl, q2, o2, fun Hd3 H3 s3 => ⟨_, rfl, q _ Hd3 H3 (s1.trans (t2.trans s3)) (.bl _)⟩⟩⟩
theorem x_eqOi {i : Int} (m : SCal X.prog X.w X.K X.mg X.base C "__eq__" 1 (EqSp X.K C)) (hr : Room j X.A) (hkj : 1 ≤ j) (hi : PySem.W.notFirst X.K C (.type "int") = true) (h1 : ∀ Hd H, Φ.p Hd H → (InsI X.K C a (potF s past)).p Hd H) (o1 : EqOk s) (ho : EvD X.K Φ (wE (un X) o) ρ (.raw (.ref a))) (he : EvD X.K Φ (wE (un X) e) ρ (.int i)) (hm : behindInMarks .Eq e = false) : EvD X.K Φ (wE (un X) (.Compare o [.Eq] [e] pos)) ρ (.bl false) := by
  obtain ⟨f, f1, f2, f3⟩ := m.ex
  refine lE (fun _ => pe_cmpR (op_eqO f3 (hr.mono hkj) f1 f2 hi) (wE_ok (F := un X) (e := o) ()) (wE_ok (F := un X) (e := e) ()) hm) fun σ Hd H ex en pp Q q => ?_
  refine ho σ Hd H ex en pp _ fun v Hd1 H1 s1 i1 => he σ Hd1 H1 s1.sub (en.mono s1.ud) (Φ.mono s1 pp) _ fun u Hd2 H2 t2 i2 => ?_
  rw [i2.int_inv, (i1.mono t2.ud).raw_inv]
  have q1 := h1 _ _ (Φ.mono t2 (Φ.mono s1 pp))
  obtain ⟨_, dx, fl, e1, e2⟩ := id q1
  exact ⟨a, dx, fl, rfl, e1, .inr ⟨i, rfl⟩, Hd2, a, s, past, .int i, rfl, t2.sub, q1, o1, .inr ⟨⟨i, rfl⟩, fun Hd3 H3 s3 => ⟨_, rfl, q _ Hd3 H3 (s1.trans (t2.trans s3)) (.bl _)⟩⟩⟩
theorem t_eqO {a2 : Addr} {s2 : Stand} {past2 : List Stand} (m : SCal X.prog X.w X.K X.mg X.base C "__eq__" 1 (EqSp X.K C)) (hr : Room j X.A) (hkj : 1 ≤ j) (hi : PySem.W.notFirst X.K C (.type "int") = true) (h1 : ∀ Hd H, Φ.p Hd H → (InsI X.K C a (potF s past)).p Hd H) (h2 : ∀ Hd H, Φ.p Hd H → (InsI X.K C a2 (potF s2 past2)).p Hd H) (o1 : EqOk s) (o2 : EqOk s2) (ho : EvD X.K Φ (wE (un X) o) ρ (.raw (.ref a))) (he : EvD X.K Φ (wE (un X) e) ρ (.raw (.ref a2))) (hm : behindInMarks .Eq e = false) : EvT X.K Φ (wT (un X) (.Compare o [.Eq] [e] pos)) ρ (eqStand s s2) := by
  obtain ⟨f, f1, f2, f3⟩ := m.ex
  refine lT (fun _ => pt_cmpR (op_eqO f3 (hr.mono hkj) f1 f2 hi) (wE_ok (F := un X) (e := o) ()) (wE_ok (F := un X) (e := e) ()) hm) (et_test fun σ Hd H ex en pp Q q => ?_)
  refine ho σ Hd H ex en pp _ fun v Hd1 H1 s1 i1 => he σ Hd1 H1 s1.sub (en.mono s1.ud) (Φ.mono s1 pp) _ fun u Hd2 H2 t2 i2 => ?_
  rw [i2.raw_inv, (i1.mono t2.ud).raw_inv]
  have p2 := Φ.mono t2 (Φ.mono s1 pp)
  have q1 := h1 _ _ p2
  have q2 := h2 _ _ p2
  obtain ⟨_, dx, fl, e1, e2⟩ := id q1
  obtain ⟨_, dy, gl, g1, g2⟩ := id q2
  exact ⟨a, dx, fl, rfl, e1, .inl ⟨a2, dy, gl, rfl, g1⟩, Hd2, a, s, past, .ref a2, rfl, t2.sub, q1, o1, .inl ⟨a2, s2, past2, rfl, q2, o2, fun Hd3 H3 s3 => ⟨_, rfl, q _ Hd3 H3 (s1.trans (t2.trans s3)) (.bl _)⟩⟩⟩
/-- what != asks, of two pots -/
theorem r_neO {a2 : Addr} {s2 : Stand} {past2 : List Stand} (ex : Ex Hd H) (q1 : (InsI X.K C a (potF s past)).p Hd H) (q2 : (InsI X.K C a2 (potF s2 past2)).p Hd H) (o1 : EqOk s) (o2 : EqOk s2) (q : ∀ Hd' H', Stp NoM Hd H Hd' H' → Q (.bl (!eqStand s s2)) H') :
    ∃ a' b dx fs dy gs, V.ref a = .ref a' ∧ V.ref a2 = .ref b ∧ H a' = some (.ins C dx fs) ∧ H b = some (.ins C dy gs) ∧ EqSp X.K C [.ref a', .ref b] H (fun v H' => ∃ b, v = .bl b ∧ Q (.bl (!b)) H') E0 := by
  obtain ⟨_, dx, fl, e1, e2⟩ := id q1
  obtain ⟨_, dy, gl, g1, g2⟩ := id q2
  exact ⟨a, a2, dx, fl, dy, gl, rfl, rfl, e1, g1, Hd, a, s, past, .ref a2, rfl, ex, q1, o1, .inl ⟨a2, s2, past2, rfl, q2, o2, fun Hd3 H3 s3 => ⟨_, rfl, q Hd3 H3 s3⟩⟩⟩
theorem c_neO {QT : Bool → Hp → Prop} (m : SCal X.prog X.w X.K X.mg X.base C "__eq__" 1 (EqSp X.K C)) (pi : PotI X.K C) (hr : Room j X.A) (hkj : 2 ≤ j) (h : wE (un X) o σ H fun v H1 => wE (un X) e σ H1 fun u H2 => ∃ a b dx fs dy gs, v = .ref a ∧ u = .ref b ∧ H2 a = some (.ins C dx fs) ∧ H2 b = some (.ins C dy gs) ∧ EqSp X.K C [.ref a, .ref b] H2 (fun v H' => ∃ b, v = .bl b ∧ ∃ k, V.bl (!b) = .bl k ∧ QT k H') E0) (hm : behindInMarks .NotEq e = false) : wT (un X) (.Compare o [.NotEq] [e] pos) σ H QT := by
  obtain ⟨f, f1, f2, f3⟩ := m.ex
  exact c_cmpT (F := un X) (fun _ => op_neO f3 (hr.mono (by omega)) f1 f2 pi.ne pi.sub) h hm
theorem r_neT {a2 : Addr} {s2 : Stand} {past2 : List Stand} {QT : Bool → Hp → Prop} (ex : Ex Hd H) (q1 : (InsI X.K C a (potF s past)).p Hd H) (q2 : (InsI X.K C a2 (potF s2 past2)).p Hd H) (o1 : EqOk s) (o2 : EqOk s2) (q : ∀ Hd' H', Stp NoM Hd H Hd' H' → QT (!eqStand s s2) H') :
    ∃ a' b dx fs dy gs, V.ref a = .ref a' ∧ V.ref a2 = .ref b ∧ H a' = some (.ins C dx fs) ∧ H b = some (.ins C dy gs) ∧ EqSp X.K C [.ref a', .ref b] H (fun v H' => ∃ b, v = .bl b ∧ ∃ k, V.bl (!b) = .bl k ∧ QT k H') E0 :=
  r_neO (Q := fun x H' => ∃ k, x = .bl k ∧ QT k H') ex q1 q2 o1 o2 fun Hd' H' s' => ⟨_, rfl, q Hd' H' s'⟩
/-- o.back(many = e) -/
structure BCal (P : Program) (w : World) (K : PySem.W.Frag) (mg : Str → Option Value) (base : Heap) (C : Addr) : Prop where
  ex : ∃ f fd, Meth K C "back" f ∧ FnOk P w K mg base CX0 2 f fd ["self", "many"] (MutSp K C RBack) ∧ ∀ (s : Shared) (u v : Value), BindsTo s fd ⟨[u], [("many", v)]⟩ [("self", u), ("many", v)]
theorem c_back {kpos : Pos} {m : Nat} {s' : Stand} (B : BCal X.prog X.w X.K X.mg X.base C) (c : Cls X.K C) (hr : Room j X.A) (hkj : 2 ≤ j) (en : EnvD X.K Hd σ ρ) (ex : Ex Hd H) (ho : EvD X.K MP.tt (wE (un X) o) ρ (.raw (.ref a))) (he : EvD X.K MP.tt (wE (un X) e) ρ (.int (m : Int))) (ha : (InsI X.K C a (potF s past)).p Hd H) (hl : past.length ≤ 1000) (h1 : 1 ≤ m) (h2 : m ≤ past.length) (hs' : past[past.length - m]? = some s')
    (q : ∀ Hd' H', Stp (· = a) Hd H Hd' H' → (InsI X.K C a (potF s' (past.take (past.length - m)))).p Hd' H' → Q .non H')
    (hall : (backToKw pos (keywordEach [⟨some "many", e, kpos⟩] X.env)).all (·.1.isSome) = true := by rfl) (hks : (backToKw pos (keywordEach [⟨some "many", e, kpos⟩] X.env)).filterMap (·.1) = [("many" : Str)] := by rfl)
    (hpl : ((backTo pos (starEach [] X.env)).any (·.1) || (backToKw pos (keywordEach [⟨some "many", e, kpos⟩] X.env)).any (·.1.isNone)) = false := by rfl)
    (ht : ∃ pl : Sem Bool, eval (.Call (.Attribute o "back" apos) [] [⟨some "many", e, kpos⟩] pos) X.env = (do
      let ov ← eval o X.env
      standAt apos.atName
      let (f, first) ← holding [ov] (getMethod ov "back" pl)
      callWith pos f first (backTo pos (starEach [] X.env)) (backToKw pos (keywordEach [⟨some "many", e, kpos⟩] X.env))) := by exact ⟨_, rfl⟩) : wE (un X) (.Call (.Attribute o "back" apos) [] [⟨some "many", e, kpos⟩] pos) σ H Q := by
  obtain ⟨pl, ht⟩ := ht
  obtain ⟨f, fd, b1, b2, b3⟩ := B.ex
  refine ⟨_, fun _ => pe_methK1 (wE_ok (F := un X) (e := o) ()) c b1 b2 (hr.mono hkj) b3 (wE_ok (F := un X) (e := e) ()) hall hks hpl ht, ?_⟩
  refine ho σ Hd H ex en True.intro _ fun v Hd1 H1 s1 i1 => ?_
  rw [i1.raw_inv]
  have ha1 := (InsI X.K C a (potF s past)).mono s1 ha
  obtain ⟨_, dx, fl, e1, e2⟩ := id ha1
  refine ⟨a, dx, fl, rfl, e1, e2.none rfl, ?_⟩
  refine he σ Hd1 H1 s1.sub (en.mono s1.ud) True.intro _ fun u Hd2 H2 s2 i2 => ?_
  have ha2 := (InsI X.K C a (potF s past)).mono s2 ha1
  exact ⟨Hd2, a, potF s past, [u], [.int (m : Int)], .non, potF s' (past.take (past.length - m)), rfl, s2.sub, ha2, .cons i2 .nil, ⟨s, past, m, s', rfl, hl, rfl, h1, h2, hs', rfl, rfl⟩, fun w Hd3 H3 s3 p3 i3 => by
    rw [i3.non_inv]
    exact q Hd3 H3 ((s1.trans s2).nom.trans s3) p3⟩
/-- _law_stands(pot, film) -/
theorem x_stands {film : List Deed} (G : CalleeG X.prog X.w X.K X.mg X.base "_law_stands" 4 ["_law_pot", "_law_film"] (StandsSp X.K C)) (hG : X.A.guards = some []) (hr : Room j X.A) (hkj : 4 ≤ j) (hΦ : ∀ Hd H, Φ.p Hd H → (InsI X.K C a (potF (standOf film) (pastOf film))).p Hd H) (ho : EvD X.K Φ (wE (un X) o) ρ (.raw (.ref a))) (he : EvD X.K Φ (wE (un X) e) ρ (encFilm film)) (hok : FilmOk film) (hl : film.length ≤ 15)
    (hg : Gl X "_law_stands" := by rfl) (hs : starEach [o, e] X.env = (false, eval o X.env) :: starEach [e] X.env := by rfl) (hs2 : starEach [e] X.env = (false, eval e X.env) :: starEach [] X.env := by rfl) (hpl : (backTo pos (starEach [e] X.env)).any (·.1) = false := by rfl) : EvD X.K Φ (wE (un X) (.Call (.Name "_law_stands" p) [o, e] [] pos)) ρ (.bl true) := by
  obtain ⟨f, fd, f1, f2, f3, f4⟩ := G.ex
  refine lE (fun _ => pe_callG f4 hG (hr.mono hkj) hg f1 f2 f3 pass0 (wA_ok (F := un X) (e := [o, e]) ()) (by decide) hs hpl) fun σ Hd H ex en pp Q q => ?_
  refine (a_two (F := un X) ho he (fun _ => hs) (fun _ => hs2)) σ Hd H ex en pp _ fun vs Hd1 H1 s1 i1 => ?_
  obtain ⟨v, us, rfl, iv, it⟩ := i1.cons_inv
  obtain ⟨v2, us2, rfl, iv2, it2⟩ := it.cons_inv
  rw [it2.nil_inv, iv.raw_inv]
  exact ⟨Hd1, a, film, v2, rfl, s1.sub, hΦ _ _ (Φ.mono s1 pp), iv2, hok, hl, fun Hd2 H2 s2 => q _ Hd2 H2 (s1.trans s2) (.bl _)⟩
/-- _law_done(pot, deed) -/
theorem c_done {film : List Deed} {x : Deed} (G : Callee X.prog X.w X.K X.mg X.base "_law_done" 5 ["_law_pot", "_law_deed"] (DoneSp X.K C)) (hr : Room j X.A) (hkj : 5 ≤ j) (en : EnvD X.K Hd σ ρ) (ex : Ex Hd H) (ha : (InsI X.K C a (potF (standOf film) past)).p Hd H) (ho : EvD X.K MP.tt (wE (un X) o) ρ (.raw (.ref a))) (he : EvD X.K MP.tt (wE (un X) e) ρ (encDeed x)) (hok : FilmOk film) (hl : film.length ≤ 14) (hpl : past.length ≤ 1000) (hx : DeedOk x)
    (q : ∀ u Hd' H', Stp (· = a) Hd H Hd' H' → (InsI X.K C a (potF (standOf (film ++ [x])) (past ++ [standOf film]))).p Hd' H' → Im X.K Hd' u (dueD film x) → Q u H')
    (hg : Gl X "_law_done" := by rfl) (hs : starEach [o, e] X.env = (false, eval o X.env) :: starEach [e] X.env := by rfl) (hs2 : starEach [e] X.env = (false, eval e X.env) :: starEach [] X.env := by rfl) (hpl2 : (backTo pos (starEach [e] X.env)).any (·.1) = false := by rfl) : wE (un X) (.Call (.Name "_law_done" p) [o, e] [] pos) σ H Q := by
  refine c_call (F := un X) (fun _ => G) (fun _ => hr) ((a_two (F := un X) ho he (fun _ => hs) (fun _ => hs2)) σ Hd H ex en True.intro _ fun vs Hd1 H1 s1 i1 => ?_) hkj (fun _ => hg) (by decide) (fun _ => hs) (fun _ => hpl2)
  obtain ⟨v, us, rfl, iv, it⟩ := i1.cons_inv
  obtain ⟨v2, us2, rfl, iv2, it2⟩ := it.cons_inv
  rw [it2.nil_inv, iv.raw_inv]
  exact ⟨Hd1, a, film, past, x, v2, rfl, s1.sub, (InsI X.K C a (potF (standOf film) past)).mono s1 ha, iv2, hok, hl, hpl, hx, fun u Hd2 H2 s2 p2 i2 => q u Hd2 H2 (s1.nom.trans s2) p2 i2⟩
end
end SP
/-! Q25 -/
namespace SP
open PySem PySem.Spec PyProof.Rows L2 LamX NdefX
section
variable {ι : Type} {F : ι → Cx} {σ : L2.St} {H : Hp} {a b e : Expr} {rest : List Expr} {pos : Pos} {Q : Bool → Hp → Prop}
theorem c_tw (h : wW F e σ H Q) : wT F e σ H Q := ⟨wW F e, fun i => (wW_ok i).pt, h⟩
theorem c_wand (h : wT F a σ H fun k H1 => if k = true then wW F (.BoolOp .And (b :: rest) pos) σ H1 Q else Q false H1) : wW F (.BoolOp .And (a :: b :: rest) pos) σ H Q := ⟨_, fun i => pw_and (wT_ok i) (wW_ok i), h⟩
theorem c_wand1 (h : wT F a σ H Q) : wW F (.BoolOp .And [a] pos) σ H Q := ⟨_, fun i => pw_and1 (wT_ok i), h⟩
theorem c_wor (h : wT F a σ H fun k H1 => if k = true then Q true H1 else wW F (.BoolOp .Or (b :: rest) pos) σ H1 Q) : wW F (.BoolOp .Or (a :: b :: rest) pos) σ H Q := ⟨_, fun i => pw_or (wT_ok i) (wW_ok i), h⟩
theorem c_wor1 (h : wT F a σ H Q) : wW F (.BoolOp .Or [a] pos) σ H Q := ⟨_, fun i => pw_or1 (wT_ok i), h⟩
theorem c_tnot (h : wT F a σ H fun k H1 => Q (!k) H1) : wT F (.UnaryOp .Not a pos) σ H Q := ⟨_, fun i => pt_not (wT_ok i), h⟩
theorem c_tval (h : wE F a σ H fun v H1 => ∃ k, v = .bl k ∧ Q k H1) (he : ∀ i whole, isTrue a (F i).env whole = (do let v ← whole; standAt a.pos; holding [v] (truthy v)) := by intro _ _; rfl) : wT F a σ H Q := ⟨_, fun i => pt_val (wE_ok i) (he i), h⟩
end
/-- all that the law calls -/
structure LawX (P : Program) (w : World) (K : PySem.W.Frag) (mg : Str → Option Value) (base : Heap) (C CT : Addr) : Prop where
  T : TX mg
  pot : mg "Pot" = some (.ref C)
  pc : PotC K C
  pi : PotI K C
  mkC : MkC K C
  draw : Callee P w K mg base "_law_draw" 1 ["_law_m", "_law_limit"] (DrawSp K)
  deal : Callee P w K mg base "_law_deal" 4 ["_law_m", "_law_most", "_law_count", "_law_top", "_law_long"] (DSp K RDeal)
  begun : Callee P w K mg base "_law_begun" 1 ["_law_script"] (BegunSp K)
  behind : Callee P w K mg base "_law_behind" 4 ["_law_film", "_law_deed"] (spD K RBehind)
  done : Callee P w K mg base "_law_done" 5 ["_law_pot", "_law_deed"] (DoneSp K C)
  stands : CalleeG P w K mg base "_law_stands" 4 ["_law_pot", "_law_film"] (StandsSp K C)
  under : DefAt K mg "under" (top 27) ["manager", "deed"]
  init : MCal P w K mg base C "__init__" 4 ["self", "deal"] (MutSp K C RInit)
  pay : CCal P w K mg base C 4 (MutSp K C RPay)
  change : MCal P w K mg base C "change" 4 ["self", "deal"] (MutSp K C RChange)
  copy : MCal P w K mg base C "copy" 6 ["self"] (CopySp K C)
  trial : MCal P w K mg base C "trial" 3 ["self"] (TrialSp K CT)
  back : BCal P w K mg base C
  len : SCal P w K mg base C "__len__" 1 (RdSp K C RLen)
  eq : SCal P w K mg base C "__eq__" 1 (EqSp K C)
  paid : PCal P w K mg base C "paid" 1 (RdSp K C (RGet 2))
  has : PCal P w K mg base C "has" 1 (RdSp K C (RGet 3))
  owed : MCal P w K mg base C "owed" 3 ["self", "name"] (RdSp K C ROwed)
  enter : SCal P w K mg base CT "__enter__" 1 (EnterSp K C CT)
  exit : SCal P w K mg base CT "__exit__" 1 (ExitSp K C CT)
abbrev n46 : List Str := ["_law_script", "_law_m", "_law_lap", "_law_film", "_law_pot", "_law_step", "_law_deed", "_law_due", "_law_later", "_law_other", "_law_ones", "_law_one", "_law_two", "_law_told"]
theorem sc46 : FnScope n46 ["_law_script"] (defScope (top 46)) := ⟨rfl, rfl, rfl, by decide +kernel, rfl, by decide +kernel, by decide +kernel⟩
abbrev rL (a0 am a : Addr) (film : List Deed) (deed due later other : Option Dt) : Rho := [some (.raw (.ref a0)), some (.raw (.ref am)), none, some (encFilm film), some (.raw (.ref a)), none, deed, due, later, other, none, none, none, none]
structure LSt (K : PySem.W.Frag) (T : List (Addr × Str)) (C am : Addr) (n : Nat) (film : List Deed) (a : Addr) (ρ : Rho) (σ : L2.St) (Hd H : Hp) : Prop where
  ex : Ex Hd H
  en : EnvD K Hd σ ρ
  md : (MD K am n).p Hd H
  tb : (TbM T).p Hd H
  po : (InsI K C a (potF (standOf film) (pastOf film))).p Hd H
section
variable {K : PySem.W.Frag} {T : List (Addr × Str)} {C am a : Addr} {n c : Nat} {film : List Deed} {ρ : Rho} {σ : L2.St} {Hd H Hd' H' : Hp}
theorem LSt.nom (h : LSt K T C am n film a ρ σ Hd H) (s : Stp NoM Hd H Hd' H') : LSt K T C am n film a ρ σ Hd' H' := ⟨s.sub, h.en.mono s.ud, (MD K am n).mono s h.md, (TbM T).mono s h.tb, (InsI K C a _).mono s h.po⟩
theorem LSt.draw (h : LSt K T C am n film a ρ σ Hd H) (s : Stp (· = am) Hd H Hd' H') (m : (MD K am (n + c)).p Hd' H') : LSt K T C am (n + c) film a ρ σ Hd' H' := ⟨s.sub, h.en.mono s.ud, m, tb_stp s (fun x o e z => md_kind h.md x o e z) h.tb, ins_stp s (fun z => md_ins h.md h.po z.symm) h.po⟩
theorem LSt.set {i : Nat} {v : V} {d : Dt} (h : LSt K T C am n film a ρ σ Hd H) (iv : Im K Hd v d) : LSt K T C am n film a (ρ.set i (some d)) (σ.set i (some v)) Hd H := ⟨h.ex, h.en.set iv, h.md, h.tb, h.po⟩
theorem LSt.weak {ρ' : Rho} (h : LSt K T C am n film a ρ σ Hd H) (w : Wk ρ ρ') : LSt K T C am n film a ρ' σ Hd H := ⟨h.ex, h.en.weak w.len w.get, h.md, h.tb, h.po⟩
theorem LSt.le {m : Nat} (h : LSt K T C am n film a ρ σ Hd H) (e : n ≤ m) : LSt K T C am m film a ρ σ Hd H := ⟨h.ex, h.en, MD.le h.md e, h.tb, h.po⟩
/-- the pot itself is changed -/
theorem LSt.put {film' : List Deed} (h : LSt K T C am n film a ρ σ Hd H) (s : Stp (· = a) Hd H Hd' H') (po : (InsI K C a (potF (standOf film') (pastOf film'))).p Hd' H') : LSt K T C am n film' a ρ σ Hd' H' := ⟨s.sub, h.en.mono s.ud, md_stp s (md_ins h.md h.po) h.md, tb_stp s (fun x o e z => ins_kind h.po x o e z) h.tb, po⟩
/-- another pot, made since, is changed -/
theorem LSt.other {x : Addr} {fs : List (Str × Dt)} (h : LSt K T C am n film a ρ σ Hd H) (hx : (InsI K C x fs).p Hd H) (ne : a ≠ x) (s : Stp (· = x) Hd H Hd' H') : LSt K T C am n film a ρ σ Hd' H' := ⟨s.sub, h.en.mono s.ud, md_stp s (md_ins h.md hx) h.md, tb_stp s (fun y o e z => ins_kind hx y o e z) h.tb, ins_stp s ne h.po⟩
end
theorem past_snoc (film : List Deed) (x : Deed) (h : 1 ≤ film.length) : pastOf (film ++ [x]) = pastOf film ++ [standOf film] := by
  unfold pastOf
  rw [List.length_append, show film.length + [x].length - 1 = (film.length - 1) + 1 by simp; omega, List.range_succ, List.map_append]
  congr 1
  · refine List.map_congr_left fun i hi => ?_
    have := List.mem_range.mp hi
    rw [List.take_append_of_le_length (by omega)]
  · show [standOf ((film ++ [x]).take (film.length - 1 + 1))] = _
    rw [List.take_append_of_le_length (by omega), List.take_of_length_le (by omega)]
theorem past_take (film : List Deed) (k : Nat) (hk : 1 ≤ k) (h : k ≤ film.length) : pastOf (film.take k) = (pastOf film).take (k - 1) ∧ (k < film.length → (pastOf film)[k - 1]? = some (standOf (film.take k))) := by
  constructor
  · unfold pastOf
    rw [← List.map_take, List.take_range, List.length_take, Nat.min_eq_left h, Nat.min_eq_left (by omega)]
    refine List.map_congr_left fun i hi => ?_
    have := List.mem_range.mp hi
    rw [List.take_take, Nat.min_eq_left (by omega)]
  · intro hlt
    unfold pastOf
    rw [List.getElem?_map, List.getElem?_range (by omega)]
    show some (standOf (film.take (k - 1 + 1))) = _
    rw [show k - 1 + 1 = k by omega]
end SP
/-! Q26 -/
namespace SP
open PySem PySem.Spec PyProof.Rows L2 LamX NdefX
def cmpL : Expr → Expr
  | .Compare l _ _ _ => l
  | e => e
def lapB : List Stmt := forBody (stm 46 1)
def stepB : List Stmt := forBody (lapB.getD 2 (.Pass ⟨0, 0, 0, 0⟩))
def sb (i : Nat) : Stmt := stepB.getD i (.Pass ⟨0, 0, 0, 0⟩)
abbrev LX (P : Program) (w : World) (K : PySem.W.Frag) (mg : Str → Option Value) (base : Heap) (f : Addr) (cdv : Value) (A : Around) (outer : List Env) (s : Shared) (H : Hp) (E : XK) : Cx := dCx P w K mg base n46 "law" (top 46) f cdv A outer s H E
section
variable {K : PySem.W.Frag} {T : List (Addr × Str)} {C am a : Addr} {n c : Nat} {film : List Deed} {ρ ρ' : Rho} {σ : L2.St} {Hd H : Hp} {D : Ends} {Q : VK}
theorem sv_go {t : TS} (h : SvD K MP.tt t ρ (.nx ρ')) (l : LSt K T C am n film a ρ σ Hd H) (q : ∀ σ' Hd' H', Ex Hd Hd' → LSt K T C am n film a ρ' σ' Hd' H' → D.nx σ' H') : t D σ H :=
  h σ Hd H l.ex l.en True.intro D fun σ' Hd' H' s en => q σ' Hd' H' s.ud (by
    have := l.nom s
    exact ⟨this.ex, en, this.md, this.tb, this.po⟩)
theorem er_go {t : TE} {G : Dt → Prop} (h : ER K am c t ρ G) (l : LSt K T C am n film a ρ σ Hd H) (hn : n + c ≤ 1000000000) (q : ∀ v d Hd' H', G d → Ex Hd Hd' → LSt K T C am (n + c) film a ρ σ Hd' H' → Im K Hd' v d → Q v H') : t σ H Q :=
  h n σ Hd H hn l.ex l.en l.md Q fun v d Hd' H' g s m i => q v d Hd' H' g s.ud (l.draw s m) i
/-- what an expression may read -/
def PhiL (K : PySem.W.Frag) (C a : Addr) (film : List Deed) : MP := InsI K C a (potF (standOf film) (pastOf film))
theorem ev_go2 {t : TE} {d : Dt} (h : EvD K (PhiL K C a film) t ρ d) (l : LSt K T C am n film a ρ σ Hd H) (q : ∀ v Hd' H', Stp NoM Hd H Hd' H' → LSt K T C am n film a ρ σ Hd' H' → Im K Hd' v d → Q v H') : t σ H Q := h σ Hd H l.ex l.en l.po Q fun v Hd' H' s i => q v Hd' H' s (l.nom s) i
theorem et_go2 {t : TT} {b : Bool} {QT : Bool → Hp → Prop} (h : EvT K (PhiL K C a film) t ρ b) (l : LSt K T C am n film a ρ σ Hd H) (q : ∀ Hd' H', Stp NoM Hd H Hd' H' → LSt K T C am n film a ρ σ Hd' H' → QT b H') : t σ H QT := h σ Hd H l.ex l.en l.po QT fun Hd' H' s => q Hd' H' s (l.nom s)
end
section
variable {P : Program} {w : World} {K : PySem.W.Frag} {mg : Str → Option Value} {base : Heap} {C CT : Addr} {f : Addr} {cdv : Value} {A : Around} {outer : List Env} {s : Shared} {H0 : Hp} {E : XK} {T : List (Addr × Str)} {am a a0 : Addr} {n : Nat} {film : List Deed} {σ : L2.St} {Hd H : Hp} {D : Ends} {other : Option Dt}
theorem law_b0 (L : LawX P w K mg base C CT) (hr : Room 7 (LX P w K mg base f cdv A outer s H0 E).A) (l : LSt K T C am n film a (rL a0 am a film none none none other) σ Hd H) (hn : n + 1 ≤ 1000000000) (q : ∀ x σ' Hd' H', DeedOk x → Ex Hd Hd' → LSt K T C am (n + 1) film a (rL a0 am a film (some (encDeed x)) none none other) σ' Hd' H' → D.nx σ' H') : wS (un (LX P w K mg base f cdv A outer s H0 E)) (sb 0) D σ H := by
  have e : ER K am 1 (wE (un (LX P w K mg base f cdv A outer s H0 E)) (asgOf (sb 0))) (rL a0 am a film none none none other) (fun d => ∃ k, 1 ≤ k ∧ k ≤ 14 ∧ d = encDeed (.pay k)) :=
    er_is (er_tux (Gs := fun l => ∃ k : Nat, 1 ≤ k ∧ k ≤ 14 ∧ l = [.str "pay", .int (k : Int)]) (G := fun d => ∃ k, 1 ≤ k ∧ k ≤ 14 ∧ d = encDeed (.pay k)) (era_is (era_cons (er_ev x_str) (era_cons (er_op (G := fun d => ∃ k : Nat, 1 ≤ k ∧ k ≤ 14 ∧ d = .int (k : Int)) (fun _ => op_add) (er_ev x_int) (er_draw (lim := 14) (fun _ => L.draw) (fun _ => hr) (a_two (x_var 1) x_int) (by omega) (by omega)) (by
        rintro x y rfl ⟨r, hr, rfl⟩
        exact ⟨_, rd_ii, r + 1, by omega, by omega, congrArg Dt.int (by omega)⟩)) era_nil)) (Nat.le_refl _) (by
      rintro l ⟨d1, l1, rfl, rfl, d2, l2, rfl, ⟨k, k1, k2, rfl⟩, rfl⟩
      exact ⟨k, k1, k2, rfl⟩)) (by
      rintro l ⟨k, _, _, rfl⟩
      exact Nat.le_of_ble_eq_true rfl) (by
      rintro l ⟨k, k1, k2, rfl⟩
      exact ⟨k, k1, k2, rfl⟩)) (by decide) (fun _ h => h)
  exact c_set 6 (fun _ => sc46.nd) (er_go e l hn fun v d Hd1 H1 g u1 l1 i1 => by
    obtain ⟨k, k1, k2, rfl⟩ := g
    exact q (.pay k) _ Hd1 H1 ⟨k1, k2⟩ u1 (l1.set (i := 6) i1))
theorem law_b1 (L : LawX P w K mg base C CT) (hr : Room 7 (LX P w K mg base f cdv A outer s H0 E).A) {x : Deed} (hx : DeedOk x) (l : LSt K T C am n film a (rL a0 am a film (some (encDeed x)) none none other) σ Hd H) (hn : n + 101 ≤ 1000000000) (q : ∀ x σ' Hd' H', DeedOk x → Ex Hd Hd' → LSt K T C am (n + 101) film a (rL a0 am a film (some (encDeed x)) none none other) σ' Hd' H' → D.nx σ' H') : wS (un (LX P w K mg base f cdv A outer s H0 E)) (sb 1) D σ H := by
  have e1 : ER K am 1 (wE (un (LX P w K mg base f cdv A outer s H0 E)) (cmpL (ifTest (sb 1)))) (rL a0 am a film (some (encDeed x)) none none other) (fun d => ∃ r : Nat, r < 5 ∧ d = .int (r : Int)) := er_draw (lim := 5) (fun _ => L.draw) (fun _ => hr) (a_two (x_var 1) x_int) (by omega) (by omega)
  refine c_if (c_cmpT (fun _ => op_eq) (er_go e1 l (by omega) fun v d Hd1 H1 g u1 l1 i1 => c_int ?_) (nomark _))
  obtain ⟨r, _, rfl⟩ := g
  refine rd_eqi (Φ := MP.tt) Hd1 H1 v (.int 0) l1.ex i1 (.int 0) True.intro _ fun z Hd2 H2 s2 i2 => ⟨_, i2.bl_inv, ?_⟩
  have l2 := l1.nom s2
  split
  · have e2 : ER K am 100 (wE (un (LX P w K mg base f cdv A outer s H0 E)) (asgOf ((ifBody (sb 1)).getD 0 (.Pass ⟨0, 0, 0, 0⟩)))) (rL a0 am a film (some (encDeed x)) none none other) (fun d => ∃ dl, DealS dl ∧ d = encDeed (.deal dl)) :=
      er_is (er_tux (Gs := fun l => ∃ dl, DealS dl ∧ l = [.str "deal", encDeal dl]) (G := fun d => ∃ dl, DealS dl ∧ d = encDeed (.deal dl)) (era_is (era_cons (er_ev x_str) (era_cons (er_call (fun _ => L.deal) (fun _ => hr) (a_cons (x_var 1) (a_cons x_int (a_cons x_int (a_two x_int x_int)))) ⟨4, 3, 9, 5, rfl, by decide, by decide, by decide, by decide, by decide, by decide, by decide, by decide, rfl, rfl⟩) era_nil)) (Nat.le_refl _) (by
        rintro l ⟨d1, l1, rfl, rfl, d2, l2, rfl, ⟨dl, rfl, hd⟩, rfl⟩
        exact ⟨dl, hd, rfl⟩)) (by
        rintro l ⟨dl, _, rfl⟩
        exact Nat.le_of_ble_eq_true rfl) (by
        rintro l ⟨dl, hd, rfl⟩
        exact ⟨dl, hd, rfl⟩)) (by decide) (fun _ h => h)
    refine c_one (c_set 6 (fun _ => sc46.nd) (er_go e2 l2 (by omega) fun v d Hd3 H3 g u3 l3 i3 => ?_))
    obtain ⟨dl, hd, rfl⟩ := g
    exact q (.deal dl) _ Hd3 H3 hd (u1.trans (s2.ud.trans u3)) ((l3.set (i := 6) i3).le (by omega))
  · exact c_nil (q x _ Hd2 H2 hx (u1.trans s2.ud) (l2.le (by omega)))
theorem law_b2 (L : LawX P w K mg base C CT) (hr : Room 7 (LX P w K mg base f cdv A outer s H0 E).A) {x : Deed} (hx : DeedOk x) (hok : FilmOk film) (hl : film.length ≤ 14) (l : LSt K T C am n film a (rL a0 am a film (some (encDeed x)) none none other) σ Hd H) (q : ∀ σ' Hd' H', Ex Hd Hd' → LSt K T C am n film a (rL a0 am a film (some (encDeed x)) (some (dueD film x)) (some (encFilm (film ++ [x]))) other) σ' Hd' H' → D.nx σ' H') : wS (un (LX P w K mg base f cdv A outer s H0 E)) (sb 2) D σ H := by
  have e : SvD K MP.tt (wS (un (LX P w K mg base f cdv A outer s H0 E)) (sb 2)) (rL a0 am a film (some (encDeed x)) none none other) (.nx (rL a0 am a film (some (encDeed x)) (some (dueD film x)) (some (encFilm (film ++ [x]))) other)) :=
    s_asg (x_call (fun _ => L.behind) (fun _ => hr) (a_two (x_var 3) (x_var 6)) ⟨film, x, rfl, hok, hl, hx, rfl⟩) (g_two (k1 := 7) (k2 := 8) (fun _ => sc46.nd))
  exact sv_go e l q
end
end SP
/-! Q27 -/
namespace SP
open PySem PySem.Spec PyProof.Rows L2 LamX NdefX
def andB : Expr → Expr
  | .BoolOp _ (_ :: b :: _) _ => b
  | e => e
section
variable {P : Program} {w : World} {K : PySem.W.Frag} {mg : Str → Option Value} {base : Heap} {C CT : Addr} {f : Addr} {cdv : Value} {A : Around} {outer : List Env} {s : Shared} {H0 : Hp} {E : XK} {T : List (Addr × Str)} {am a a0 : Addr} {n : Nat} {film : List Deed} {σ : L2.St} {Hd H : Hp} {D : Ends} {deed due later other : Option Dt}
theorem law_b4 (L : LawX P w K mg base C CT) (hG : (LX P w K mg base f cdv A outer s H0 E).A.guards = some []) (hr : Room 7 (LX P w K mg base f cdv A outer s H0 E).A) (hok : FilmOk film) (hl : film.length ≤ 15) (l : LSt K T C am n film a (rL a0 am a film deed due later other) σ Hd H) (q : ∀ σ' Hd' H', Ex Hd Hd' → LSt K T C am n film a (rL a0 am a film deed due later other) σ' Hd' H' → D.nx σ' H') : wS (un (LX P w K mg base f cdv A outer s H0 E)) (sb 4) D σ H := by
  have eok := eq_ok hok hl
  refine c_if (c_tw (c_wor (c_tnot (c_tval (ev_go2 (x_stands L.stands hG hr (by decide) (fun _ _ z => z) (x_var 4) (x_var 3) hok hl) l fun v Hd1 H1 s1 l1 i1 => ⟨true, i1.bl_inv, ?_⟩)))))
  refine c_wor1 (c_neO L.eq L.pi hr (by decide) (ev_go2 (x_var 4) l1 fun v Hd2 H2 s2 l2 i2 => c_copy L.copy L.pc.cls hr (by decide) l2.en l2.ex (x_var 4) l2.po (fs_ok hok).deal.ok fun x Hd3 H3 s3 nx p3 => ?_) (nomark _))
  rw [i2.raw_inv]
  have l3 := l2.nom s3
  refine r_neT l3.ex l3.po p3 eok eok fun Hd4 H4 s4 => ?_
  rw [eq_self eok]
  exact c_nil (q _ Hd4 H4 (s1.ud.trans (s2.ud.trans (s3.ud.trans s4.ud))) (l3.nom s4))
theorem law_b5 (L : LawX P w K mg base C CT) (hG : (LX P w K mg base f cdv A outer s H0 E).A.guards = some []) (hr : Room 7 (LX P w K mg base f cdv A outer s H0 E).A) (hok : FilmOk film) (hl : film.length ≤ 15) (l : LSt K T C am n film a (rL a0 am a film deed due later other) σ Hd H) (hn : n + 2 ≤ 1000000000) (q : ∀ film' σ' Hd' H', FilmOk film' → film'.length ≤ film.length → Ex Hd Hd' → LSt K T C am (n + 2) film' a (rL a0 am a film' none none none none) σ' Hd' H' → D.nx σ' H') : wS (un (LX P w K mg base f cdv A outer s H0 E)) (sb 5) D σ H := by
  have elen : ((film.map encDeed).length : Int) = (film.length : Int) := by rw [List.length_map]
  have wk : ∀ (o3 : Option Dt) (o10 : Option Dt), Wk [some (.raw (.ref a0)), some (.raw (.ref am)), none, o3, some (.raw (.ref a)), none, deed, due, later, other, o10, none, none, none] [some (.raw (.ref a0)), some (.raw (.ref am)), none, o3, some (.raw (.ref a)), none, none, none, none, none, none, none, none, none] := fun _ _ => .keep (.keep (.keep (.keep (.keep (.keep (.skip (.skip (.skip (.skip (.skip (Wk.refl _)))))))))))
  refine c_if (c_tw (c_wand (et_go2 (t_cmp (fun _ => op_gt) (x_lenL L.T (x_var 3)) x_int rd_ib (nomark _)) l fun Hd1 H1 s1 l1 => ?_)))
  split
  · rename_i hgt
    have h2 : 2 < film.length := by
      have := of_decide_eq_true hgt
      omega
    have e1 : ER K am 1 (wE (un (LX P w K mg base f cdv A outer s H0 E)) (cmpL (andB (ifTest (sb 5))))) (rL a0 am a film deed due later other) (fun d => ∃ r : Nat, r < 4 ∧ d = .int (r : Int)) := er_draw (lim := 4) (fun _ => L.draw) (fun _ => hr) (a_two (x_var 1) x_int) (by omega) (by omega)
    refine c_wand1 (c_cmpT (fun _ => op_eq) (er_go e1 l1 (by omega) fun v d Hd2 H2 g u2 l2 i2 => c_int ?_) (nomark _))
    obtain ⟨r, _, rfl⟩ := g
    refine rd_eqi (Φ := MP.tt) Hd2 H2 v (.int 0) l2.ex i2 (.int 0) True.intro _ fun z Hd3 H3 s3 i3 => ⟨_, i3.bl_inv, ?_⟩
    have l3 := l2.nom s3
    split
    · have e2 : ER K am 1 (wE (un (LX P w K mg base f cdv A outer s H0 E)) (asgOf ((ifBody (sb 5)).getD 0 (.Pass ⟨0, 0, 0, 0⟩)))) (rL a0 am a film deed due later other) (fun d => ∃ m : Nat, 1 ≤ m ∧ m < film.length ∧ d = .int (m : Int)) :=
        er_is (er_op (fun _ => op_add) (er_ev x_int) (er_draw (lim := film.length - 1) (fun _ => L.draw) (fun _ => hr) (a_two (x_var 1) (ed_is (x_sub (x_lenL L.T (x_var 3)) x_int) (congrArg Dt.int (by rw [elen]; omega)))) (by omega) (by omega)) (by
          rintro x y rfl ⟨r, hr, rfl⟩
          exact ⟨_, rd_ii, r + 1, by omega, by omega, congrArg Dt.int (by omega)⟩)) (by decide) (fun _ h => h)
      refine c_cons (c_set 10 (fun _ => sc46.nd) (er_go e2 l3 (by omega) fun v d Hd4 H4 g u4 l4 i4 => ?_))
      obtain ⟨m, m1, m2, rfl⟩ := g
      have l5 := l4.set (i := 10) i4
      have hpl := past_len film
      obtain ⟨pt1, pt2⟩ := past_take film (film.length - m) (by omega) (by omega)
      have hfk : FilmOk (film.take (film.length - m)) := hok.take _ (by omega)
      have hlk : (film.take (film.length - m)).length ≤ film.length := by rw [List.length_take]; omega
      have ecut : cutD (film.map encDeed) none (some (((film.map encDeed).length : Int) - (m : Int))) = (film.take (film.length - m)).map encDeed := by
        rw [elen, show (film.length : Int) - (m : Int) = ((film.length - m : Nat) : Int) by omega, cutD_take, List.map_take]
      have eidx : (pastOf film).length - m = film.length - m - 1 := by rw [hpl]; omega
      refine c_cons (c_if (c_tw (c_wor (c_cmpT (fun _ => op_notN) (c_back L.back L.pc.cls hr (by decide) l5.en l5.ex (x_var 4) (x_var 10) l5.po (by rw [hpl]; omega) m1 (by rw [hpl]; omega) (by rw [eidx]; exact pt2 (by omega)) fun Hd5 H5 s5 p5 => c_non ⟨rfl, _, rfl, ?_⟩) (nomark _)))))
      have l6 := l5.put (film' := film.take (film.length - m)) s5 (by rw [pt1, ← eidx]; exact p5)
      show wW _ _ _ _ _
      refine c_wor1 (c_tnot (c_tval (ev_go2 (x_stands L.stands hG hr (by decide) (fun _ _ z => z) (x_var 4) (ed_is (x_slL (x_var 3) o_none (o_some (x_sub (x_lenL L.T (x_var 3)) (x_var 10)))) (congrArg Dt.lst ecut)) hfk (by omega)) l6 fun v6 Hd6 H6 s6 l7 i6 => ⟨true, i6.bl_inv, ?_⟩)))
      refine c_nil (c_one (c_set 3 (fun _ => sc46.nd) (ev_go2 (ed_is (x_slL (x_var 3) o_none (o_some (x_sub (x_lenL L.T (x_var 3)) (x_var 10)))) (congrArg Dt.lst ecut)) l7 fun v7 Hd7 H7 s7 l8 i7 => ?_)))
      exact q _ _ Hd7 H7 hfk hlk (s1.ud.trans (u2.trans (s3.ud.trans (u4.trans (s5.ud.trans (s6.ud.trans s7.ud)))))) ((l8.set (i := 3) i7).weak (wk _ _))
    · exact c_nil (q film _ Hd3 H3 hok (Nat.le_refl _) (s1.ud.trans (u2.trans s3.ud)) ((l3.weak (wk _ _)).le (by omega)))
  · exact c_nil (q film _ Hd1 H1 hok (Nat.le_refl _) s1.ud ((l1.weak (wk _ _)).le (by omega)))
end
end SP
/-! Q28 -/
namespace SP
open PySem PySem.Spec PyProof.Rows L2 LamX NdefX
theorem fine_due {film : List Deed} (h : FilmOk film) (hl : film.length ≤ 15) {x : Deed} (hx : DeedOk x) : Fine (dueD film x) 5000 2 := by
  cases x with
  | pay c => exact fine_bring h hl hx
  | deal d => exact fine_non.le (by omega) (by omega)
theorem repr_ok {K : PySem.W.Frag} {Hd H : Hp} {v : V} {d : Dt} {w h : Nat} {Q : VK} (ex : Ex Hd H) (iv : Im K Hd v d) (f : Fine d w h) (hw : w ≤ 1048576) (hh : h ≤ 50) (q : Q (.str d.py.shown) H) : rRepr K [v] H Q :=
  ⟨v, d.py, rfl, iv.dp ex f.pure, f.show_, Nat.le_trans f.depth hh, f.noDict, f.shown (by omega) hw, q⟩
theorem c_repr {X : Cx} {σ : L2.St} {H : Hp} {Q : VK} {e : Expr} {p pos : Pos} {mg : Str → Option Value} {j : Nat} (T : TX mg) (hG : X.A.guards = some []) (hr : Room j X.A) (k : wE (un X) e σ H fun v H1 => rRepr X.K [v] H1 Q)
    (hmg : X.mg = mg := by rfl) (hg : Gl X "repr" := by rfl) (hs : starEach [e] X.env = (false, eval e X.env) :: starEach [] X.env := by rfl) (hpl : (backTo pos (starEach [] X.env)).any (·.1) = false := by rfl) : wE (un X) (.Call (.Name "repr" p) [e] [] pos) σ H Q :=
  ⟨tCB (rRepr X.K) (tCons (wE (un X) e) tNil), fun _ => pe_callB (call_repr hG hr.units) hg (by rw [hmg]; exact T.repr) boot_repr (pa_cons (wE_ok (F := un X) (e := e) ()) pa_nil hs) (by decide) (by decide) hs hpl, k⟩
section
variable {P : Program} {w : World} {K : PySem.W.Frag} {mg : Str → Option Value} {base : Heap} {C CT : Addr} {f : Addr} {A : Around} {outer : List Env} {s : Shared} {H0 : Hp} {E : XK} {am a a0 cA Pt : Addr} {n : Nat} {film : List Deed} {σ : L2.St} {Hd H : Hp} {D : Ends} {other : Option Dt}
abbrev lamQ : Str := "law.<locals>.<lambda>"
/-- under(pot.trial(), lambda one: _law_done(one, deed)) -/
theorem law_under {o9 : Option Dt} {Q : VK} {x : Deed} (L : LawX P w K mg base C CT) (TB : TabB base mg cA Pt) (hr : Room 7 (LX P w K mg base f (.ref cA) A outer s H0 E).A) (hok : FilmOk film) (hl : film.length ≤ 14) (hx : DeedOk x) (l : LSt K [(Pt, lamQ)] C am n film a (rL a0 am a film (some (encDeed x)) (some (dueD film x)) (some (encFilm (film ++ [x]))) o9) σ Hd H)
    (q : ∀ v Hd' H', Ex Hd Hd' → (∀ (C2 y : Addr) (fs : List (Str × Dt)), y ≠ a → (InsI K C2 y fs).p Hd H → (InsI K C2 y fs).p Hd' H') → LSt K [(Pt, lamQ)] C am n film a (rL a0 am a film (some (encDeed x)) (some (dueD film x)) (some (encFilm (film ++ [x]))) o9) σ Hd' H' → Im K Hd' v (dueD film x) → Q v H') :
    wE (un (LX P w K mg base f (.ref cA) A outer s H0 E)) (argOf (cmpL (ifTest ((ifBody (sb 3)).getD 1 (.Pass ⟨0, 0, 0, 0⟩))))) σ H fun v H1 => Q v H1 := by
  refine ⟨_, fun _ => pe_underL (k := 5) (T := [(Pt, lamQ)]) (Nl := ["_law_one", "_law_deed"]) (fr := ["_law_deed"]) (js := [6]) (pn := "_law_one") (tb := tCall (DoneSp K C) [] E0 (tCons (tVar 0) (tCons (tVar 1) tNil))) L.under L.enter L.exit TB rfl (List.mem_singleton.mpr rfl) (fun p hp _ => by rw [List.mem_singleton.mp hp]; rfl) hr (show ndefB (defScope (top 46)) _ _ = true by decide +kernel) rfl (nscope_by (by decide +kernel)) rfl (fun _ _ _ _ _ _ => rfl) (fun A outer s H f c' hr2 => ?_) (wE_ok (F := un (LX P w K mg base f (.ref cA) A outer s H0 E)) ()), ?_⟩
  · exact pe_cal L.done hr2 (by decide) (pa_cons (pe_var (i := 0) rfl (.inl rfl)) (pa_cons (pe_var (i := 1) rfl (.inr (.inr rfl))) pa_nil))
  · refine c_trial L.trial L.pc.cls hr (by decide) l.en l.ex (x_var 4) l.po fun t Hd1 H1 s1 nt p1 => ?_
    have l1 := l.nom s1
    refine ⟨l1.tb.1, fun f c' H2 eN T2 hc' => ?_⟩
    obtain ⟨ex2, tb2⟩ := ext_of l1.tb l1.ex eN T2
    have po2 := ins_ext l1.po eN
    have p12 := ins_ext p1 eN
    have md2 := md_ext l1.md eN
    have net : ∀ (C2 y : Addr) (fs : List (Str × Dt)), (InsI K C2 y fs).p Hd H → y ≠ t := fun C2 y fs ⟨_, dx, fl, e, _⟩ z => by rw [z, nt] at e; cases e
    have ne := net C a _ l.po
    have nam : am ≠ t := by
      obtain ⟨_, _, _, _, ⟨_, e, _⟩, _⟩ := l.md
      exact fun z => by rw [z, nt] at e; cases e
    obtain ⟨v6, hv6, iv6⟩ := l1.en.2 6 _ rfl
    have hs6 : NdefX.slotAt σ 6 = some v6 := by
      unfold NdefX.slotAt
      rw [hv6]
    refine under_run (G := (· = dueD film x)) p12 po2 ne ex2 hc' (fun Hd3 H3 Q1 s3 p3 k => ?_) (fun v d Hd3 H3 g s3 p3 iv => ?_)
    · refine ⟨.ref a, rfl, v6, ?_, ?_⟩
      · show some (NdefX.slotAt σ 6) = some (some v6)
        rw [hs6]
      · exact ⟨Hd3, a, film, pastOf film, x, v6, rfl, s3.sub, p3, iv6.mono s3.ud, hok, hl, by rw [past_len]; omega, hx, fun u Hd4 H4 s4 p4 i4 => k u _ Hd4 H4 _ _ rfl s4 p4 i4⟩
    · replace g : d = dueD film x := g
      subst g
      refine q v Hd3 H3 (s1.ud.trans s3.ud) (fun C2 y fs hy h => ?_) ⟨s3.sub, l1.en.mono s3.ud, md_stp s3 (fun z => z.elim (md_ins l.md l.po) nam) md2, tb_stp s3 (fun y o z e => z.elim (fun z => ins_kind po2 y o z e) (fun z => ins_kind p12 y o z e)) tb2, p3⟩ iv
      have h1 := (InsI K C2 y fs).mono s1 h
      exact ins_stp s3 (fun z => z.elim hy (net C2 y fs h)) (ins_ext h1 eN)
end
end SP
/-! Q29 -/
namespace SP
open PySem PySem.Spec PyProof.Rows L2 LamX NdefX
section
variable {P : Program} {w : World} {K : PySem.W.Frag} {mg : Str → Option Value} {base : Heap} {C CT : Addr} {f : Addr} {A : Around} {outer : List Env} {s : Shared} {H0 : Hp} {E : XK} {am a a0 cA Pt : Addr} {n : Nat} {film : List Deed} {σ : L2.St} {Hd H : Hp} {D : Ends} {other : Option Dt}
theorem law_b3 {x : Deed} (L : LawX P w K mg base C CT) (TB : TabB base mg cA Pt) (hG : (LX P w K mg base f (.ref cA) A outer s H0 E).A.guards = some []) (hr : Room 7 (LX P w K mg base f (.ref cA) A outer s H0 E).A) (hok : FilmOk film) (hl : film.length ≤ 14) (hx : DeedOk x) (l : LSt K [(Pt, lamQ)] C am n film a (rL a0 am a film (some (encDeed x)) (some (dueD film x)) (some (encFilm (film ++ [x]))) other) σ Hd H) (hn : n + 1 ≤ 1000000000)
    (q : ∀ film' σ' Hd' H', FilmOk film' → film'.length ≤ film.length + 1 → Ex Hd Hd' → LSt K [(Pt, lamQ)] C am (n + 1) film' a (rL a0 am a film' none none none none) σ' Hd' H' → D.nx σ' H') : wS (un (LX P w K mg base f (.ref cA) A outer s H0 E)) (sb 3) D σ H := by
  have wk : ∀ (o6 o7 o8 o9 o3 : Option Dt), Wk [some (.raw (.ref a0)), some (.raw (.ref am)), none, o3, some (.raw (.ref a)), none, o6, o7, o8, o9, none, none, none, none] [some (.raw (.ref a0)), some (.raw (.ref am)), none, o3, some (.raw (.ref a)), none, none, none, none, none, none, none, none, none] := fun _ _ _ _ _ => .keep (.keep (.keep (.keep (.keep (.keep (.skip (.skip (.skip (.skip (Wk.refl _))))))))))
  have hfx := hok.snoc hx
  have hlx : (film ++ [x]).length = film.length + 1 := by rw [List.length_append]; rfl
  have hf1 : 1 ≤ film.length := by
    obtain ⟨d, r, e⟩ := hok.first
    rw [e]
    simp
  have fd := fine_due hok (by omega) hx
  have eok := eq_ok hok (by omega)
  have hps := past_snoc film x hf1
  have hpl := past_len film
  have e1 : ER K am 1 (wE (un (LX P w K mg base f (.ref cA) A outer s H0 E)) (cmpL (ifTest (sb 3)))) (rL a0 am a film (some (encDeed x)) (some (dueD film x)) (some (encFilm (film ++ [x]))) other) (fun d => ∃ r : Nat, r < 4 ∧ d = .int (r : Int)) := er_draw (lim := 4) (fun _ => L.draw) (fun _ => hr) (a_two (x_var 1) x_int) (by omega) (by omega)
  refine c_if (c_cmpT (fun _ => op_eq) (er_go e1 l hn fun v d Hd2 H2 g u2 l2 i2 => c_int ?_) (nomark _))
  obtain ⟨r, _, rfl⟩ := g
  refine rd_eqi (Φ := MP.tt) Hd2 H2 v (.int 0) l2.ex i2 (.int 0) True.intro _ fun z Hd3 H3 s3 i3 => ⟨_, i3.bl_inv, ?_⟩
  have l3 := l2.nom s3
  split
  · refine c_cons (c_set 9 (fun _ => sc46.nd) (c_copy L.copy L.pc.cls hr (by decide) l3.en l3.ex (x_var 4) l3.po (fs_ok hok).deal.ok fun y Hd4 H4 s4 ny p4 => ?_))
    have l4 := (l3.nom s4).set (i := 9) (Im.raw (.ref y))
    have hay : y ≠ a := by
      obtain ⟨_, dx, fl, e, _⟩ := l3.po
      exact fun z => by rw [← z, ny] at e; cases e
    refine c_cons (c_if (c_cmpT (fun _ => op_ne) (c_repr L.T hG hr (law_under L TB hr hok hl hx l4 fun v Hd5 H5 u5 keep l5 i5 => repr_ok l5.ex i5 fd (by decide) (by decide) ?_)) (nomark _)))
    have p5 := keep C y _ hay p4
    refine ev_go2 (x_reprF L.T fd (by decide) (by decide) (fun _ => hG) (fun _ => hr) (x_var 7)) l5 fun v6 Hd6 H6 s6 l6 i6 => ?_
    rw [i6.str_inv]
    refine rd_nes (K := K) (Φ := MP.tt) (i := (dueD film x).py.shown) (j := (dueD film x).py.shown) Hd6 H6 _ _ l6.ex (.str _) (.str _) True.intro _ fun z7 Hd7 H7 s7 i7 => ⟨_, i7.bl_inv, ?_⟩
    rw [beq_refl_s]
    have l7 := l6.nom s7
    have p7 := (InsI K C y _).mono (s6.trans s7) p5
    refine c_nil (c_one (c_if (c_tw (c_wor (c_tnot ?_)))))
    refine (t_eqO (Φ := (InsI K C y (potF (standOf film) (pastOf film))).and (InsI K C a (potF (standOf film) (pastOf film)))) L.eq hr (by decide) L.pi.notFirst (fun _ _ z => z.1) (fun _ _ z => z.2) eok eok (x_var 9) (x_var 4) (nomark _)) _ Hd7 H7 l7.ex l7.en ⟨p7, l7.po⟩ _ fun Hd8 H8 s8 => ?_
    rw [eq_self eok]
    have l8 := l7.nom s8
    have p8 := (InsI K C y _).mono s8 p7
    show wW _ _ _ _ _
    refine c_wor (c_cmpT (fun _ => op_ne) (c_repr L.T hG hr (c_done L.done hr (by decide) l8.en l8.ex p8 (x_var 9) (x_var 6) hok hl (by rw [hpl]; omega) hx fun v9 Hd9 H9 s9 p9 i9 => repr_ok s9.sub i9 fd (by decide) (by decide) ?_)) (nomark _))
    have l9 := l8.other p8 hay.symm s9
    refine ev_go2 (x_reprF L.T fd (by decide) (by decide) (fun _ => hG) (fun _ => hr) (x_var 7)) l9 fun v10 Hd10 H10 s10 l10 i10 => ?_
    rw [i10.str_inv]
    refine rd_nes (K := K) (Φ := MP.tt) (i := (dueD film x).py.shown) (j := (dueD film x).py.shown) Hd10 H10 _ _ l10.ex (.str _) (.str _) True.intro _ fun z11 Hd11 H11 s11 i11 => ⟨_, i11.bl_inv, ?_⟩
    rw [beq_refl_s]
    have l11 := l10.nom s11
    have p11 := (InsI K C y _).mono (s10.trans s11) p9
    rw [← hps] at p11
    show wW _ _ _ _ _
    refine c_wor1 (c_tnot (c_tval ((x_stands (Φ := InsI K C y (potF (standOf (film ++ [x])) (pastOf (film ++ [x])))) L.stands hG hr (by decide) (fun _ _ z => z) (x_var 9) (x_var 8) hfx (by omega)) _ Hd11 H11 l11.ex l11.en p11 _ fun v12 Hd12 H12 s12 i12 => ⟨true, i12.bl_inv, ?_⟩)))
    exact c_nil (q film _ Hd12 H12 hok (by omega) (u2.trans (s3.ud.trans (s4.ud.trans (u5.trans (s6.ud.trans (s7.ud.trans (s8.ud.trans (s9.ud.trans (s10.ud.trans (s11.ud.trans s12.ud)))))))))) ((l11.nom s12).weak (wk _ _ _ _ _)))
  · refine c_one (c_if (c_cmpT (fun _ => op_ne) (c_repr L.T hG hr (c_done L.done hr (by decide) l3.en l3.ex l3.po (x_var 4) (x_var 6) hok hl (by rw [hpl]; omega) hx fun v9 Hd9 H9 s9 p9 i9 => repr_ok s9.sub i9 fd (by decide) (by decide) ?_)) (nomark _)))
    rw [← hps] at p9
    have l9 := l3.put (film' := film ++ [x]) s9 p9
    refine ev_go2 (x_reprF L.T fd (by decide) (by decide) (fun _ => hG) (fun _ => hr) (x_var 7)) l9 fun v10 Hd10 H10 s10 l10 i10 => ?_
    rw [i10.str_inv]
    refine rd_nes (K := K) (Φ := MP.tt) (i := (dueD film x).py.shown) (j := (dueD film x).py.shown) Hd10 H10 _ _ l10.ex (.str _) (.str _) True.intro _ fun z11 Hd11 H11 s11 i11 => ⟨_, i11.bl_inv, ?_⟩
    rw [beq_refl_s]
    have l11 := l10.nom s11
    refine c_one (c_set 3 (fun _ => sc46.nd) (ev_go2 (x_var 8) l11 fun v12 Hd12 H12 s12 l12 i12 => ?_))
    exact q (film ++ [x]) _ Hd12 H12 hfx (by omega) (u2.trans (s3.ud.trans (s9.ud.trans (s10.ud.trans (s11.ud.trans s12.ud))))) ((l12.set (i := 3) i12).weak (wk _ _ _ _ _))
end
end SP
/-! Q30 -/
namespace SP
open PySem PySem.Spec PyProof.Rows L2 LamX NdefX
section
variable {P : Program} {w : World} {K : PySem.W.Frag} {mg : Str → Option Value} {base : Heap} {C CT : Addr} {f : Addr} {A : Around} {outer : List Env} {s : Shared} {H0 : Hp} {E : XK} {am a a0 cA Pt : Addr} {n : Nat} {film : List Deed} {σ : L2.St} {Hd H : Hp} {D : Ends}
theorem step_is : stepB = [sb 0, sb 1, sb 2, sb 3, sb 4, sb 5] := rfl
theorem law_step (L : LawX P w K mg base C CT) (TB : TabB base mg cA Pt) (hG : (LX P w K mg base f (.ref cA) A outer s H0 E).A.guards = some []) (hr : Room 7 (LX P w K mg base f (.ref cA) A outer s H0 E).A) (hok : FilmOk film) (hl : film.length ≤ 14) (l : LSt K [(Pt, lamQ)] C am n film a (rL a0 am a film none none none none) σ Hd H) (hn : n + 105 ≤ 1000000000)
    (q : ∀ film' σ' Hd' H', FilmOk film' → film'.length ≤ film.length + 1 → Ex Hd Hd' → LSt K [(Pt, lamQ)] C am (n + 105) film' a (rL a0 am a film' none none none none) σ' Hd' H' → D.nx σ' H') : wSs (un (LX P w K mg base f (.ref cA) A outer s H0 E)) stepB D σ H := by
  rw [step_is]
  refine c_cons (law_b0 L hr l (by omega) fun x0 σ1 Hd1 H1 hx0 u1 l1 => ?_)
  refine c_cons (law_b1 L hr hx0 l1 (by omega) fun x σ2 Hd2 H2 hx u2 l2 => ?_)
  refine c_cons (law_b2 L hr hx hok hl l2 fun σ3 Hd3 H3 u3 l3 => ?_)
  refine c_cons (law_b3 L TB hG hr hok hl hx l3 (by omega) fun film' σ4 Hd4 H4 hok' hl' u4 l4 => ?_)
  refine c_cons (law_b4 L hG hr hok' (by omega) l4 fun σ5 Hd5 H5 u5 l5 => ?_)
  refine c_one (law_b5 L hG hr hok' (by omega) l5 (by omega) fun film2 σ6 Hd6 H6 hok2 hl2 u6 l6 => ?_)
  exact q film2 σ6 Hd6 H6 hok2 (by omega) (u1.trans (u2.trans (u3.trans (u4.trans (u5.trans u6))))) (l6.le (by omega))
end
end SP
/-! Q31 -/
namespace SP
open PySem PySem.Spec PyProof.Rows L2 LamX NdefX
structure LS0 (K : PySem.W.Frag) (T : List (Addr × Str)) (am : Addr) (n : Nat) (ρ : Rho) (σ : L2.St) (Hd H : Hp) : Prop where
  ex : Ex Hd H
  en : EnvD K Hd σ ρ
  md : (MD K am n).p Hd H
  tb : (TbM T).p Hd H
abbrev r0 (a0 am : Addr) : Rho := [some (.raw (.ref a0)), some (.raw (.ref am)), none, none, none, none, none, none, none, none, none, none, none, none]
section
variable {P : Program} {w : World} {K : PySem.W.Frag} {mg : Str → Option Value} {base : Heap} {C CT : Addr} {f : Addr} {A : Around} {outer : List Env} {s : Shared} {H0 : Hp} {E : XK} {am a a0 cA Pt : Addr} {n : Nat} {film : List Deed} {σ : L2.St} {Hd H : Hp} {D : Ends}
theorem stand_first {d : Deal} (h : DealS d) : potF ⟨d, 0, 0, zeroHad d.names⟩ [] = potF (standOf [.deal d]) (pastOf [.deal d]) := by
  have e : standOf [.deal d] = ⟨d, 0, 0, zeroHad d.names⟩ := by
    unfold standOf
    rw [had_first h]
    rfl
  rw [e]
  rfl
theorem law_lap (L : LawX P w K mg base C CT) (TB : TabB base mg cA Pt) (hG : (LX P w K mg base f (.ref cA) A outer s H0 E).A.guards = some []) (hr : Room 7 (LX P w K mg base f (.ref cA) A outer s H0 E).A) (l : LS0 K [(Pt, lamQ)] am n (r0 a0 am) σ Hd H) (hn : n + 2000 ≤ 1000000000)
    (q : ∀ σ' Hd' H', Ex Hd Hd' → LS0 K [(Pt, lamQ)] am (n + 2000) (r0 a0 am) σ' Hd' H' → D.nx σ' H') : wSs (un (LX P w K mg base f (.ref cA) A outer s H0 E)) lapB D σ H := by
  have e1 : ER K am 100 (wE (un (LX P w K mg base f (.ref cA) A outer s H0 E)) (asgOf (lapB.getD 0 (.Pass ⟨0, 0, 0, 0⟩)))) (r0 a0 am) (fun d => ∃ dl, DealS dl ∧ d = encFilm [.deal dl]) :=
    er_is (er_lst (Gs := fun l => ∃ dl, DealS dl ∧ l = [encDeed (.deal dl)]) (G := fun d => ∃ dl, DealS dl ∧ d = encFilm [.deal dl]) (era_is (era_cons (er_tux (Gs := fun l => ∃ dl, DealS dl ∧ l = [.str "deal", encDeal dl]) (G := fun d => ∃ dl, DealS dl ∧ d = encDeed (.deal dl)) (era_is (era_cons (er_ev x_str) (era_cons (er_call (fun _ => L.deal) (fun _ => hr) (a_cons (x_var 1) (a_cons x_int (a_cons x_int (a_two x_int x_int)))) ⟨4, 4, 9, 6, rfl, by decide, by decide, by decide, by decide, by decide, by decide, by decide, by decide, rfl, rfl⟩) era_nil)) (Nat.le_refl _) (by
        rintro l ⟨d1, l1, rfl, rfl, d2, l2, rfl, ⟨dl, rfl, hd⟩, rfl⟩
        exact ⟨dl, hd, rfl⟩)) (by
        rintro l ⟨dl, _, rfl⟩
        exact Nat.le_of_ble_eq_true rfl) (by
        rintro l ⟨dl, hd, rfl⟩
        exact ⟨dl, hd, rfl⟩)) era_nil) (Nat.le_refl _) (by
        rintro l ⟨d1, l1, rfl, ⟨dl, hd, rfl⟩, rfl⟩
        exact ⟨dl, hd, rfl⟩)) (by
        rintro l ⟨dl, _, rfl⟩
        exact Nat.le_of_ble_eq_true rfl) (by
        rintro l ⟨dl, hd, rfl⟩
        exact ⟨dl, hd, rfl⟩)) (by decide) (fun _ h => h)
  refine c_cons (c_set 3 (fun _ => sc46.nd) (e1 n σ Hd H (by omega) l.ex l.en l.md _ fun v d Hd1 H1 g s1 m1 i1 => ?_))
  obtain ⟨dl, hd, rfl⟩ := g
  have tb1 := tb_stp s1 (fun x o e z => md_kind l.md x o e z) l.tb
  have en1 := (l.en.mono s1.ud).set (i := 3) i1
  refine c_cons (c_set 4 (fun _ => sc46.nd) (c_new (Φ := MP.tt) L.init L.mkC hr (by decide) L.pot en1 s1.sub True.intro (a_one (x_ixT 1 (x_ixL 0 (x_var 3) x_int rfl rfl) x_int rfl rfl)) ⟨dl, zeroHad dl.names, rfl, rfl, hd.ok, zero_join hd.ok.names.inc, zero_sort hd.ok.names.inc, rfl, rfl⟩ fun a Hd2 H2 s2 na p2 => ?_))
  rw [stand_first hd] at p2
  have l2 : LSt K [(Pt, lamQ)] C am (n + 100) [.deal dl] a (rL a0 am a [.deal dl] none none none none) _ Hd2 H2 := ⟨s2.sub, (en1.mono s2.ud).set (i := 4) (.raw (.ref a)), (MD K am _).mono s2 m1, (TbM _).mono s2 tb1, p2⟩
  refine c_one (c_forX (K := K) fun R cont => ?_)
  refine (i_rng (Φ := MP.tt) (ρ := rL a0 am a [.deal dl] none none none none) (n := 9) (fun _ => L.T.range) (a_one x_int) ⟨by decide, by decide⟩) _ Hd2 H2 l2.ex l2.en True.intro R fun J Hd3 H3 s3 ok => ?_
  have l3 := l2.nom s3
  refine cont J _ Hd3 H3 l3.ex ok ⟨fun i σ' Hd' H' => ∃ film, FilmOk film ∧ film.length ≤ i + 1 ∧ Ex Hd3 Hd' ∧ LSt K [(Pt, lamQ)] C am (n + 100 + 105 * i) film a (rL a0 am a film none none none none) σ' Hd' H', ⟨[.deal dl], FilmOk.one hd, Nat.le_refl _, .refl _, l3⟩, ?_, ?_, ?_⟩
  · rintro i σ' Hd' H' ⟨film, _, _, h1, h2⟩
    exact ⟨h1, h2.ex⟩
  · rintro i d σ1 Hd4 H4 hd4 ⟨film, h1, h2, h3, h4⟩
    have hi9 : i < 9 := by
      have := (List.getElem?_eq_some_iff.mp hd4).1
      simpa using this
    refine ⟨_, _, _, h4.en, g_name 5 (fun _ => sc46.nd), fun σ2 Hd5 H5 s5 en5 D' _ hD' => ?_⟩
    have l5 := h4.nom s5
    refine law_step L TB hG hr h1 (by omega) ⟨l5.ex, en5.weak rfl (Wk.get (.keep (.keep (.keep (.keep (.keep (.skip (Wk.refl _)))))))), l5.md, l5.tb, l5.po⟩ (by omega) fun film' σ6 Hd6 H6 hok' hl' u6 l6 => ?_
    exact hD' σ6 Hd6 H6 (h3.trans (s5.ud.trans u6)) ⟨film', hok', by omega, h3.trans (s5.ud.trans u6), l6.le (by omega)⟩
  · rintro σ1 Hd4 H4 ⟨film, h1, h2, h3, h4⟩
    have e9 : ((List.range (9 : Int).toNat).map fun (k : Nat) => Dt.int (k : Int)).length = 9 := by simp
    rw [e9] at h4
    have l4 := h4.le (show n + 100 + 105 * 9 ≤ n + 2000 by omega)
    exact q σ1 Hd4 H4 (s1.ud.trans (s2.ud.trans (s3.ud.trans h3))) ⟨l4.ex, l4.en.weak rfl (Wk.get (.keep (.keep (.keep (.skip (.skip (Wk.refl _))))))), l4.md, l4.tb⟩
end
end SP
/-! Q32 -/
namespace SP
open PySem PySem.Spec PyProof.Rows L2 LamX NdefX
section
variable {P : Program} {w : World} {K : PySem.W.Frag} {mg : Str → Option Value} {base : Heap} {C CT : Addr} {f : Addr} {A : Around} {outer : List Env} {s : Shared} {H0 : Hp} {E : XK} {am a a0 cA Pt : Addr} {n : Nat} {film : List Deed} {σ : L2.St} {Hd H : Hp} {D : Ends} {ns : List Int}
theorem law_laps (L : LawX P w K mg base C CT) (TB : TabB base mg cA Pt) (hG : (LX P w K mg base f (.ref cA) A outer s H0 E).A.guards = some []) (hr : Room 7 (LX P w K mg base f (.ref cA) A outer s H0 E).A) (hsc : (Scr K a0 ns).p Hd H) (l : LS0 K [(Pt, lamQ)] am 0 (r0 a0 am) σ Hd H)
    (q : ∀ σ' Hd' H', Ex Hd Hd' → LS0 K [(Pt, lamQ)] am 14000 (r0 a0 am) σ' Hd' H' → D.nx σ' H') : wS (un (LX P w K mg base f (.ref cA) A outer s H0 E)) (stm 46 1) D σ H := by
  have em : (2 : Int) + min ((ns.length : Nat) : Int) 5 = ((2 + min ns.length 5 : Nat) : Int) := by omega
  refine c_forX (K := K) fun R cont => ?_
  refine (i_rng (Φ := Scr K a0 ns) (ρ := r0 a0 am) (n := ((2 + min ns.length 5 : Nat) : Int)) (fun _ => L.T.range) (a_one (ed_is (x_add x_int (x_min L.T (x_scrLen L.T (fun _ _ z => z) (x_var 0)) x_int)) (congrArg Dt.int em))) ⟨by omega, by omega⟩) _ Hd H l.ex l.en hsc R fun J Hd3 H3 s3 ok => ?_
  have l3 : LS0 K [(Pt, lamQ)] am 0 (r0 a0 am) σ Hd3 H3 := ⟨s3.sub, l.en.mono s3.ud, (MD K am _).mono s3 l.md, (TbM _).mono s3 l.tb⟩
  have elen : ((List.range ((2 + min ns.length 5 : Nat) : Int).toNat).map fun (k : Nat) => Dt.int (k : Int)).length = 2 + min ns.length 5 := by rw [List.length_map, List.length_range, Int.toNat_natCast]
  refine cont J _ Hd3 H3 l3.ex ok ⟨fun i σ' Hd' H' => Ex Hd3 Hd' ∧ LS0 K [(Pt, lamQ)] am (2000 * i) (r0 a0 am) σ' Hd' H', ⟨.refl _, l3⟩, ?_, ?_, ?_⟩
  · rintro i σ' Hd' H' ⟨h1, h2⟩
    exact ⟨h1, h2.ex⟩
  · rintro i d σ1 Hd4 H4 hd4 ⟨h3, h4⟩
    have hi9 : i < 7 := by
      have := (List.getElem?_eq_some_iff.mp hd4).1
      rw [elen] at this
      omega
    refine ⟨_, _, _, h4.en, g_name 2 (fun _ => sc46.nd), fun σ2 Hd5 H5 s5 en5 D' _ hD' => ?_⟩
    refine law_lap L TB hG hr ⟨s5.sub, en5.weak rfl (Wk.get (.keep (.keep (.skip (Wk.refl _))))), (MD K am _).mono s5 h4.md, (TbM _).mono s5 h4.tb⟩ (by omega) fun σ6 Hd6 H6 u6 l6 => ?_
    exact hD' σ6 Hd6 H6 (h3.trans (s5.ud.trans u6)) ⟨h3.trans (s5.ud.trans u6), ⟨l6.ex, l6.en, MD.le l6.md (by omega), l6.tb⟩⟩
  · rintro σ1 Hd4 H4 ⟨h3, h4⟩
    rw [elen] at h4
    exact q σ1 Hd4 H4 (s3.ud.trans h3) ⟨h4.ex, h4.en, MD.le h4.md (by omega), h4.tb⟩
end
end SP
/-! Q33 -/
namespace SP
open PySem PySem.Spec PyProof.Rows L2 LamX NdefX
/-! ### the fixed deals of the law's end -/
def dA : Deal := ⟨["a", "b"], [(none, [0, 1])]⟩
def dB : Deal := ⟨["b", "c"], [(some 1, [0]), (none, [1])]⟩
theorem dA_ok : DealS dA := ⟨⟨⟨by decide, by decide, by decide +kernel, by decide +kernel⟩, ⟨rfl, by decide, by decide, by decide⟩, by decide⟩, by decide, by decide, fun r hr => by
  have e := List.mem_singleton.mp (show r ∈ [(none, [0, 1])] from hr)
  subst e
  exact ⟨by decide, fun n e => by cases e⟩⟩
theorem dB_ok : DealS dB := ⟨⟨⟨by decide, by decide, by decide +kernel, by decide +kernel⟩, ⟨⟨1, rfl, by decide, by decide⟩, ⟨by decide, by decide, by decide⟩, rfl, by decide, by decide, by decide⟩, by decide⟩, by decide, by decide, fun r hr => by
  rcases List.mem_cons.mp (show r ∈ [(some 1, [0]), (none, [1])] from hr) with e | hr
  · subst e
    exact ⟨by decide, fun n e => by cases e; decide⟩
  · have e := List.mem_singleton.mp hr
    subst e
    exact ⟨by decide, fun n e => by cases e⟩⟩
theorem fA (l : List Nat) (h : ∀ n ∈ l, 1 ≤ n ∧ n ≤ 14) : FilmOk (.deal dA :: l.map Deed.pay) := ⟨fun x hx => by
  rcases List.mem_cons.mp hx with e | hx
  · rw [e]; exact dA_ok
  · obtain ⟨n, hn, rfl⟩ := List.mem_map.mp hx
    exact h n hn, dA, _, rfl⟩
theorem bringA1 : bring dA 0 3 = [(("a" : Str), 2), (("b" : Str), 1)] := by decide +kernel
theorem bringA2 : bring dA 0 1 = [(("a" : Str), 1)] := by decide +kernel
theorem bringA3 : bring dA 1 2 = [(("a" : Str), 1), (("b" : Str), 1)] := by decide +kernel
theorem bringA4 : bring dA 3 1 = [(("b" : Str), 1)] := by decide +kernel
theorem bringA5 : bring dA 4 7 = [(("a" : Str), 4), (("b" : Str), 3)] := by decide +kernel
theorem bringB : bring dB 0 2 = [(("b" : Str), 1), (("c" : Str), 1)] := by decide +kernel
theorem hadEnd : hadOf [.deal dA, .pay 3, .pay 1, .deal dB, .pay 2] = [(("a" : Str), 2), (("b" : Str), 3), (("c" : Str), 1)] := by decide +kernel
theorem owedEnd : owedD (standOf [.deal dA, .pay 3, .pay 1, .deal dB, .pay 2]) 0 = .non := by
  have e : reachIn dB.runs 0 (countBy dB.runs 0 2 + 1) = none := by decide +kernel
  show (match reachIn dB.runs 0 (countBy dB.runs 0 2 + 1) with | none => Dt.non | some p => .int ((p : Int) - 2)) = .non
  rw [e]
end SP
/-! Q34 -/
namespace SP
open PySem PySem.Spec PyProof.Rows L2 LamX NdefX
/-- two pots, as the law's end has them -/
structure LS2 (K : PySem.W.Frag) (T : List (Addr × Str)) (C x y : Addr) (fx fy : List Deed) (px py : List Stand) (ρ : Rho) (σ : L2.St) (Hd H : Hp) : Prop where
  ex : Ex Hd H
  en : EnvD K Hd σ ρ
  tb : (TbM T).p Hd H
  ne : x ≠ y
  px : (InsI K C x (potF (standOf fx) px)).p Hd H
  py : (InsI K C y (potF (standOf fy) py)).p Hd H
section
variable {K : PySem.W.Frag} {T : List (Addr × Str)} {C x y : Addr} {fx fy : List Deed} {px py : List Stand} {ρ : Rho} {σ : L2.St} {Hd H Hd' H' : Hp}
theorem LS2.nom (h : LS2 K T C x y fx fy px py ρ σ Hd H) (s : Stp NoM Hd H Hd' H') : LS2 K T C x y fx fy px py ρ σ Hd' H' := ⟨s.sub, h.en.mono s.ud, (TbM T).mono s h.tb, h.ne, (InsI K C x _).mono s h.px, (InsI K C y _).mono s h.py⟩
theorem LS2.set {i : Nat} {v : V} {d : Dt} (h : LS2 K T C x y fx fy px py ρ σ Hd H) (iv : Im K Hd v d) : LS2 K T C x y fx fy px py (ρ.set i (some d)) (σ.set i (some v)) Hd H := ⟨h.ex, h.en.set iv, h.tb, h.ne, h.px, h.py⟩
theorem LS2.putX {fx' : List Deed} {px' : List Stand} (h : LS2 K T C x y fx fy px py ρ σ Hd H) (s : Stp (· = x) Hd H Hd' H') (p : (InsI K C x (potF (standOf fx') px')).p Hd' H') : LS2 K T C x y fx' fy px' py ρ σ Hd' H' := ⟨s.sub, h.en.mono s.ud, tb_stp s (fun z o e q => ins_kind h.px z o e q) h.tb, h.ne, p, ins_stp s (Ne.symm h.ne) h.py⟩
theorem LS2.putY {fy' : List Deed} {py' : List Stand} (h : LS2 K T C x y fx fy px py ρ σ Hd H) (s : Stp (· = y) Hd H Hd' H') (p : (InsI K C y (potF (standOf fy') py')).p Hd' H') : LS2 K T C x y fx fy' px py' ρ σ Hd' H' := ⟨s.sub, h.en.mono s.ud, tb_stp s (fun z o e q => ins_kind h.py z o e q) h.tb, h.ne, ins_stp s h.ne h.px, p⟩
end
section
variable {X : Cx} {C : Addr} {ρ : Rho} {σ : L2.St} {Hd H : Hp} {Q : VK} {e : Expr} {pos p : Pos} {a : Addr} {film : List Deed} {past : List Stand} {k j c : Nat} {n : Str}
/-- pot(c) -/
theorem c_pay (m : CCal X.prog X.w X.K X.mg X.base C 4 (MutSp X.K C RPay)) (hr : Room j X.A) (hkj : 4 ≤ j) (en : EnvD X.K Hd σ ρ) (ex : Ex Hd H) (hs : σ[k]? = some (some (.ref a))) (ha : (InsI X.K C a (potF (standOf film) past)).p Hd H) (he : EvD X.K MP.tt (wE (un X) e) ρ (.int ((c : Nat) : Int))) (hok : FilmOk film) (hl : film.length ≤ 200) (hpl : past.length ≤ 1000) (hc : DeedOk (.pay c))
    (q : ∀ v Hd' H', Stp (· = a) Hd H Hd' H' → (InsI X.K C a (potF (standOf (film ++ [.pay c])) (past ++ [standOf film]))).p Hd' H' → Im X.K Hd' v (dueD film (.pay c)) → Q v H')
    (hN : X.N[k]? = some n := by rfl) (hv : Vis X.env.scope n := by exact .inl rfl) (hdb : (n == ("__debug__" : Str)) = false := by decide) (hcd : (n == ("__classdict__" : Str)) = false := by decide) (hst : starEach [e] X.env = (false, eval e X.env) :: starEach [] X.env := by rfl) : wE (un X) (.Call (.Name n p) [e] [] pos) σ H Q := by
  obtain ⟨_, dx, fl, e1, e2⟩ := id ha
  refine ⟨tCallO k C (MutSp X.K C RPay) (wE (un X) e), fun _ => pe_callO m hr hkj hN hv (wE_ok (F := un X) (e := e) ()) hdb hcd hst, a, dx, fl, hs, e1, ?_⟩
  refine he _ Hd H ex en True.intro _ fun v Hd2 H2 s2 i2 => ?_
  have hi2 := (InsI X.K C a (potF (standOf film) past)).mono s2 ha
  obtain ⟨_, dx2, fl2, e3, _⟩ := id hi2
  have hperm : (addAll (standOf film).had ((standOf film).deal.names.zip (moreOf (standOf film).deal (standOf film).dealt c))).Perm (hadOf (film ++ [Deed.pay c])) := pay_perm hok hc
  exact ⟨⟨dx2, fl2, e3⟩, Hd2, a, potF (standOf film) past, [v], [.int (c : Int)], dueD film (.pay c), potF (standOf (film ++ [.pay c])) (past ++ [standOf film]), rfl, s2.sub, hi2, .cons i2 .nil, ⟨standOf film, past, c, hadOf (film ++ [Deed.pay c]), rfl, hpl, rfl, pay_ok hok hc hl, hperm, had_sort (hok.snoc hc), rfl, by rw [stand_pay]⟩, fun u Hd3 H3 s3 p3 i3 => q u Hd3 H3 (s2.nom.trans s3) p3 i3⟩
end
end SP
/-! Q35 -/
namespace SP
open PySem PySem.Spec PyProof.Rows L2 LamX NdefX
theorem fig01 : ("01" : Str) = figS [0, 1] := by decide +kernel
theorem fig0 : ("0" : Str) = figS [0] := by decide +kernel
theorem fig1 : ("1" : Str) = figS [1] := by decide +kernel
abbrev rT (a0 am x y : Addr) (told : Option Dt) : Rho := [some (.raw (.ref a0)), some (.raw (.ref am)), none, none, none, none, none, none, none, none, none, some (.raw (.ref x)), some (.raw (.ref y)), told]
section
variable {P : Program} {w : World} {K : PySem.W.Frag} {mg : Str → Option Value} {base : Heap} {C CT : Addr} {f : Addr} {A : Around} {outer : List Env} {s : Shared} {H0 : Hp} {E : XK} {am a0 cA Pt : Addr} {n : Nat} {σ : L2.St} {Hd H : Hp} {D : Ends}
theorem law_two (L : LawX P w K mg base C CT) (hr : Room 7 (LX P w K mg base f (.ref cA) A outer s H0 E).A) (l : LS0 K [(Pt, lamQ)] am n (r0 a0 am) σ Hd H)
    (q : ∀ x y σ' Hd' H', LS2 K [(Pt, lamQ)] C x y [.deal dA] [.deal dA] [] [] (rT a0 am x y none) σ' Hd' H' → D.nx σ' H') : wS (un (LX P w K mg base f (.ref cA) A outer s H0 E)) (stm 46 2) D σ H := by
  have argD : ∀ {q1 q2 q3 q4 q5 q6 q7 q8 q9 q10 : Pos} {j1 j2 j3 j4 k1 k2 k3 k4 : Nat}, True := fun {_ _ _ _ _ _ _ _ _ _ _ _ _ _ _ _ _ _} => True.intro
  refine c_par (k1 := 11) (k2 := 12) (fun _ => sc46.nd) (c_acons (c_new (Φ := MP.tt) L.init L.mkC hr (by decide) L.pot l.en l.ex True.intro (ts := [encDeal dA]) (a_one (ed_is (x_tux (a_two (x_tux (a_two x_str x_str)) (x_tux (a_one (x_tux (a_two x_non x_str)))))) (by rw [fig01]; rfl))) ⟨dA, zeroHad dA.names, rfl, rfl, dA_ok.ok, zero_join dA_ok.ok.names.inc, zero_sort dA_ok.ok.names.inc, rfl, rfl⟩ fun x Hd1 H1 s1 nx p1 => ?_))
  refine c_acons (c_new (Φ := MP.tt) L.init L.mkC hr (by decide) L.pot (l.en.mono s1.ud) s1.sub True.intro (ts := [encDeal dA]) (a_one (ed_is (x_tux (a_two (x_tux (a_two x_str x_str)) (x_tux (a_one (x_tux (a_two x_non x_str)))))) (by rw [fig01]; rfl))) ⟨dA, zeroHad dA.names, rfl, rfl, dA_ok.ok, zero_join dA_ok.ok.names.inc, zero_sort dA_ok.ok.names.inc, rfl, rfl⟩ fun y Hd2 H2 s2 ny p2 => c_anil ⟨_, _, rfl, ?_⟩)
  have ne : x ≠ y := by
    obtain ⟨_, dx, fl, e, _⟩ := p1
    exact fun z => by rw [z, ny] at e; cases e
  rw [stand_first dA_ok] at p1 p2
  exact q x y _ Hd2 H2 ⟨s2.sub, ((l.en.mono (s1.ud.trans s2.ud)).set (i := 11) (.raw (.ref x))).set (i := 12) (.raw (.ref y)), (TbM _).mono (s1.trans s2) l.tb, ne, (InsI K C x _).mono s2 p1, p2⟩
end
end SP
/-! Q36 -/
namespace SP
open PySem PySem.Spec PyProof.Rows L2 LamX NdefX
/-- films of the law's end -/
abbrev f1 : List Deed := [.deal dA]
abbrev f13 : List Deed := [.deal dA, .pay 3]
abbrev f131 : List Deed := [.deal dA, .pay 3, .pay 1]
abbrev f11 : List Deed := [.deal dA, .pay 1]
abbrev f112 : List Deed := [.deal dA, .pay 1, .pay 2]
theorem okf (l : List Deed) (h : ∀ x ∈ l, DeedOk x) : FilmOk (.deal dA :: l) := ⟨fun x hx => by
  rcases List.mem_cons.mp hx with e | hx
  · rw [e]; exact dA_ok
  · exact h x hx, dA, l, rfl⟩
theorem ok1 : FilmOk f1 := okf [] (by simp)
theorem dk (c : Nat) (h : 1 ≤ c ∧ c ≤ 14) : DeedOk (.pay c) := h
theorem ok13 : FilmOk f13 := ok1.snoc (dk 3 (by decide))
theorem ok131 : FilmOk f131 := ok13.snoc (dk 1 (by decide))
theorem ok11 : FilmOk f11 := ok1.snoc (dk 1 (by decide))
theorem ok112 : FilmOk f112 := ok11.snoc (dk 2 (by decide))
theorem eqT : eqStand (standOf f13) (standOf f112) = true := by decide +kernel
theorem eqF : eqStand (standOf f131) (standOf f112) = false := by decide +kernel
end SP
/-! Q37 -/
namespace SP
open PySem PySem.Spec PyProof.Rows L2 LamX NdefX
theorem x_neO {X : Cx} {C : Addr} {Φ : MP} {ρ : Rho} {o e : Expr} {pos : Pos} {a a2 : Addr} {s s2 : Stand} {past past2 : List Stand} {j : Nat} (m : SCal X.prog X.w X.K X.mg X.base C "__eq__" 1 (EqSp X.K C)) (pi : PotI X.K C) (hr : Room j X.A) (hkj : 2 ≤ j) (h1 : ∀ Hd H, Φ.p Hd H → (InsI X.K C a (potF s past)).p Hd H) (h2 : ∀ Hd H, Φ.p Hd H → (InsI X.K C a2 (potF s2 past2)).p Hd H) (o1 : EqOk s) (o2 : EqOk s2) (ho : EvD X.K Φ (wE (un X) o) ρ (.raw (.ref a))) (he : EvD X.K Φ (wE (un X) e) ρ (.raw (.ref a2))) (hm : behindInMarks .NotEq e = false) : EvD X.K Φ (wE (un X) (.Compare o [.NotEq] [e] pos)) ρ (.bl (!eqStand s s2)) := by
  obtain ⟨f, f1, f2, f3⟩ := m.ex
  refine lE (fun _ => pe_cmpR (op_neO f3 (hr.mono (by omega)) f1 f2 pi.ne pi.sub) (wE_ok (F := un X) (e := o) ()) (wE_ok (F := un X) (e := e) ()) hm) fun σ Hd H ex en pp Q q => ?_
  refine ho σ Hd H ex en pp _ fun v Hd1 H1 s1 i1 => he σ Hd1 H1 s1.sub (en.mono s1.ud) (Φ.mono s1 pp) _ fun u Hd2 H2 t2 i2 => ?_
  rw [i2.raw_inv, (i1.mono t2.ud).raw_inv]
  have p2 := Φ.mono t2 (Φ.mono s1 pp)
  exact r_neO t2.sub (h1 _ _ p2) (h2 _ _ p2) o1 o2 fun Hd3 H3 s3 => q _ Hd3 H3 (s1.trans (t2.trans s3)) (.bl _)
def toldEnd : Dt := .lst [dueD f1 (.pay 3), dueD f1 (.pay 1), dueD f11 (.pay 2), .bl true, dueD f13 (.pay 1), .bl false, .bl true, .bl false]
section
variable {P : Program} {w : World} {K : PySem.W.Frag} {mg : Str → Option Value} {base : Heap} {C CT : Addr} {f : Addr} {A : Around} {outer : List Env} {s : Shared} {H0 : Hp} {E : XK} {am a0 cA Pt x y : Addr} {n : Nat} {σ : L2.St} {Hd H : Hp} {D : Ends}
theorem law_told (L : LawX P w K mg base C CT) (hr : Room 7 (LX P w K mg base f (.ref cA) A outer s H0 E).A) (l : LS2 K [(Pt, lamQ)] C x y f1 f1 [] [] (rT a0 am x y none) σ Hd H)
    (q : ∀ σ' Hd' H', LS2 K [(Pt, lamQ)] C x y f131 f112 [standOf f1, standOf f13] [standOf f1, standOf f11] (rT a0 am x y (some toldEnd)) σ' Hd' H' → D.nx σ' H') : wS (un (LX P w K mg base f (.ref cA) A outer s H0 E)) (stm 46 3) D σ H := by
  obtain ⟨vx, hx, ix⟩ := l.en.2 11 _ rfl
  obtain ⟨vy, hy, iy⟩ := l.en.2 12 _ rfl
  rw [ix.raw_inv] at hx
  rw [iy.raw_inv] at hy
  have e13 := eq_ok ok13 (by decide)
  have e131 := eq_ok ok131 (by decide)
  have e112 := eq_ok ok112 (by decide)
  refine c_set 13 (fun _ => sc46.nd) (c_lst (c_acons (c_pay L.pay hr (by decide) l.en l.ex hx l.px x_int ok1 (by decide) (by decide) (dk 3 (by decide)) fun v1 Hd1 H1 s1 p1 i1 => ?_)))
  have l1 := l.putX (fx' := f13) s1 p1
  refine c_acons (c_pay L.pay hr (by decide) l1.en l1.ex hy l1.py x_int ok1 (by decide) (by decide) (dk 1 (by decide)) fun v2 Hd2 H2 s2 p2 i2 => ?_)
  have l2 := l1.putY (fy' := f11) s2 p2
  refine c_acons (c_pay L.pay hr (by decide) l2.en l2.ex hy l2.py x_int ok11 (by decide) (by simp) (dk 2 (by decide)) fun v3 Hd3 H3 s3 p3 i3 => ?_)
  have l3 := l2.putY (fy' := f112) s3 p3
  refine c_acons ((x_eqO (Φ := (InsI K C x (potF (standOf f13) _)).and (InsI K C y (potF (standOf f112) _))) L.eq hr (by decide) L.pi.notFirst (fun _ _ z => z.1) (fun _ _ z => z.2) e13 e112 (x_var 11) (x_var 12) (nomark _)) _ Hd3 H3 l3.ex l3.en ⟨l3.px, l3.py⟩ _ fun v4 Hd4 H4 s4 i4 => ?_)
  have l4 := l3.nom s4
  refine c_acons (c_pay L.pay hr (by decide) l4.en l4.ex hx l4.px x_int ok13 (by decide) (by simp) (dk 1 (by decide)) fun v5 Hd5 H5 s5 p5 i5 => ?_)
  have l5 := l4.putX (fx' := f131) s5 p5
  refine c_acons ((x_eqO (Φ := (InsI K C x (potF (standOf f131) _)).and (InsI K C y (potF (standOf f112) _))) L.eq hr (by decide) L.pi.notFirst (fun _ _ z => z.1) (fun _ _ z => z.2) e131 e112 (x_var 11) (x_var 12) (nomark _)) _ Hd5 H5 l5.ex l5.en ⟨l5.px, l5.py⟩ _ fun v6 Hd6 H6 s6 i6 => ?_)
  have l6 := l5.nom s6
  refine c_acons ((x_neO (Φ := (InsI K C x (potF (standOf f131) _)).and (InsI K C y (potF (standOf f112) _))) L.eq L.pi hr (by decide) (fun _ _ z => z.1) (fun _ _ z => z.2) e131 e112 (x_var 11) (x_var 12) (nomark _)) _ Hd6 H6 l6.ex l6.en ⟨l6.px, l6.py⟩ _ fun v7 Hd7 H7 s7 i7 => ?_)
  have l7 := l6.nom s7
  refine c_acons ((x_eqOi (Φ := InsI K C x (potF (standOf f131) _)) L.eq hr (by decide) L.pi.notFirst (fun _ _ z => z) e131 (x_var 11) (x_int (n := 5)) (nomark _)) _ Hd7 H7 l7.ex l7.en l7.px _ fun v8 Hd8 H8 s8 i8 => ?_)
  have l8 := l7.nom s8
  rw [eqT] at i4
  rw [eqF] at i6 i7
  refine c_anil ⟨show 8 ≤ sizeLine by decide, fun p np => ?_⟩
  have u7 := s8.ud
  have u6 := s7.ud.trans u7
  have u5 := s6.ud.trans u6
  have u4 := s5.ud.trans u5
  have u3 := s4.ud.trans u4
  have u2 := s3.ud.trans u3
  have u1 := s2.ud.trans u2
  have ia : ImA K Hd8 [v1, v2, v3, v4, v5, v6, v7, v8] [dueD f1 (.pay 3), dueD f1 (.pay 1), dueD f11 (.pay 2), .bl true, dueD f13 (.pay 1), .bl false, .bl true, .bl false] :=
    .cons (i1.mono u1) (.cons (i2.mono u2) (.cons (i3.mono u3) (.cons (i4.mono u4) (.cons (i5.mono u5) (.cons (i6.mono u6) (.cons (i7.mono u7) (.cons i8 .nil)))))))
  have s9 : Stp NoM Hd8 H8 (upd Hd8 p (.lst [v1, v2, v3, v4, v5, v6, v7, v8])) _ := Stp.new l8.ex np
  exact q _ _ _ ((l8.nom s9).set (i := 13) (.lst upd_same (ia.mono s9.ud)))
end
end SP
/-! Q38 -/
namespace SP
open PySem PySem.Spec PyProof.Rows L2 LamX NdefX
theorem due1 : dueD f1 (.pay 3) = .tux [prD ("a", 2), prD ("b", 1)] := by
  show Dt.tux ((bring dA 0 3).map prD) = _
  rw [bringA1]; rfl
theorem due2 : dueD f1 (.pay 1) = .tux [prD ("a", 1)] := by
  show Dt.tux ((bring dA 0 1).map prD) = _
  rw [bringA2]; rfl
theorem due3 : dueD f11 (.pay 2) = .tux [prD ("a", 1), prD ("b", 1)] := by
  show Dt.tux ((bring dA 1 2).map prD) = _
  rw [bringA3]; rfl
theorem due4 : dueD f13 (.pay 1) = .tux [prD ("b", 1)] := by
  show Dt.tux ((bring dA 3 1).map prD) = _
  rw [bringA4]; rfl
theorem fine_toldEnd : Fine toldEnd 40000 3 := by
  have a1 := fine_due ok1 (by decide) (dk 3 (by decide))
  have a2 := fine_due ok1 (by decide) (dk 1 (by decide))
  have a3 := fine_due ok11 (by decide) (dk 2 (by decide))
  have a4 := fine_due ok13 (by decide) (dk 1 (by decide))
  have b : ∀ k, Fine (.bl k) 0 2 := fun k => (fine_bl k).le (Nat.le_refl _) (by omega)
  exact (fine_lst (fineA_cons a1 (fineA_cons a2 (fineA_cons a3 (fineA_cons (b true) (fineA_cons a4 (fineA_cons (b false) (fineA_cons (b true) (fineA_cons (b false) fineA_nil))))))))).le (by omega) (Nat.le_refl _)
section
variable {P : Program} {w : World} {K : PySem.W.Frag} {mg : Str → Option Value} {base : Heap} {C CT : Addr} {f : Addr} {A : Around} {outer : List Env} {s : Shared} {H0 : Hp} {E : XK} {am a0 cA Pt x y : Addr} {n : Nat} {σ : L2.St} {Hd H : Hp} {D : Ends}
theorem law_ne (hr : Room 7 (LX P w K mg base f (.ref cA) A outer s H0 E).A) : SvD K MP.tt (wS (un (LX P w K mg base f (.ref cA) A outer s H0 E)) (stm 46 4)) (rT a0 am x y (some toldEnd)) (.nx (rT a0 am x y (some toldEnd))) :=
  s_ifN (et_is (t_cmp (fun _ => op_neD hr.units) (x_var 13) (ed_is (x_lst (a_cons (x_tux (a_two (x_tup (a_two x_str x_int)) (x_tup (a_two x_str x_int)))) (a_cons (x_tux (a_one (x_tup (a_two x_str x_int)))) (a_cons (x_tux (a_two (x_tup (a_two x_str x_int)) (x_tup (a_two x_str x_int)))) (a_cons x_bl (a_cons (x_tux (a_one (x_tup (a_two x_str x_int)))) (a_cons x_bl (a_two x_bl x_bl)))))))) (show _ = toldEnd by unfold toldEnd; rw [due1, due2, due3, due4]; rfl)) (rd_neD fine_toldEnd.pure fine_toldEnd.pure (fine_toldEnd.shaped (by decide)) (fine_toldEnd.shaped (by decide))) (nomark _)) (by rw [fine_toldEnd.eqv]; rfl))
end
end SP
/-! Q39 -/
namespace SP
open PySem PySem.Spec PyProof.Rows L2 LamX NdefX
def orA : Expr → Expr
  | .BoolOp _ (a :: _) _ => a
  | e => e
theorem due5 : dueD f131 (.pay 7) = .tux [prD ("a", 4), prD ("b", 3)] := by
  show Dt.tux ((bring dA 4 7).map prD) = _
  rw [bringA5]; rfl
section
variable {P : Program} {w : World} {K : PySem.W.Frag} {mg : Str → Option Value} {base : Heap} {C CT : Addr} {f : Addr} {A : Around} {outer : List Env} {s : Shared} {H0 : Hp} {E : XK} {am a0 cA Pt x y : Addr} {n : Nat} {σ : L2.St} {Hd H : Hp} {D : Ends} {ρ : Rho} {fy : List Deed} {px py : List Stand}
/-- under(one.trial(), lambda pot: pot(7)) -/
theorem law_under2 {Q : VK} (L : LawX P w K mg base C CT) (TB : TabB base mg cA Pt) (hr : Room 7 (LX P w K mg base f (.ref cA) A outer s H0 E).A) (hpl : px.length ≤ 1000) (l : LS2 K [(Pt, lamQ)] C x y f131 fy px py (rT a0 am x y (some toldEnd)) σ Hd H)
    (q : ∀ v Hd' H', Ex Hd Hd' → LS2 K [(Pt, lamQ)] C x y f131 fy px py (rT a0 am x y (some toldEnd)) σ Hd' H' → Im K Hd' v (dueD f131 (.pay 7)) → Q v H') :
    wE (un (LX P w K mg base f (.ref cA) A outer s H0 E)) (cmpL (orA (ifTest (stm 46 5)))) σ H fun v H1 => Q v H1 := by
  refine ⟨_, fun _ => pe_underL (k := 5) (T := [(Pt, lamQ)]) (Nl := ["_law_pot"]) (fr := []) (js := []) (pn := "_law_pot") (tb := tCallO 0 C (MutSp K C RPay) (tC (.int 7))) L.under L.enter L.exit TB rfl (List.mem_singleton.mpr rfl) (fun p hp _ => by rw [List.mem_singleton.mp hp]; rfl) hr (show ndefB (defScope (top 46)) _ _ = true by decide +kernel) rfl (nscope_by (by decide +kernel)) rfl (fun _ _ _ _ _ _ => rfl) (fun A outer s H f c' hr2 => pe_callO L.pay hr2 (by decide) rfl (.inl rfl) pe_int) (wE_ok (F := un (LX P w K mg base f (.ref cA) A outer s H0 E)) ()), ?_⟩
  refine c_trial L.trial L.pc.cls hr (by decide) l.en l.ex (x_var 11) l.px fun t Hd1 H1 s1 nt p1 => ?_
  have l1 := l.nom s1
  refine ⟨l1.tb.1, fun f c' H2 eN T2 hc' => ?_⟩
  obtain ⟨ex2, tb2⟩ := ext_of l1.tb l1.ex eN T2
  have po2 := ins_ext l1.px eN
  have py2 := ins_ext l1.py eN
  have p12 := ins_ext p1 eN
  have net : ∀ (C2 y : Addr) (fs : List (Str × Dt)), (InsI K C2 y fs).p Hd H → y ≠ t := fun C2 y fs ⟨_, dx, fl, e, _⟩ z => by rw [z, nt] at e; cases e
  have ne := net C x _ l.px
  have ney := net C y _ l.py
  refine under_run (G := (· = dueD f131 (.pay 7))) p12 po2 ne ex2 hc' (fun Hd3 H3 Q1 s3 p3 k => ?_) (fun v d Hd3 H3 g s3 p3 iv => ?_)
  · obtain ⟨_, dx, fl, e1, e2⟩ := id p3
    have hc : DeedOk (.pay 7) := dk 7 (by decide)
    have hperm : (addAll (standOf f131).had ((standOf f131).deal.names.zip (moreOf (standOf f131).deal (standOf f131).dealt 7))).Perm (hadOf (f131 ++ [Deed.pay 7])) := pay_perm ok131 hc
    refine ⟨x, dx, fl, rfl, e1, ⟨dx, fl, e1⟩, ?_⟩
    exact ⟨Hd3, x, potF (standOf f131) px, [.int 7], [.int ((7 : Nat) : Int)], dueD f131 (.pay 7), potF (standOf (f131 ++ [.pay 7])) (px ++ [standOf f131]), rfl, s3.sub, p3, .cons (.int 7) .nil, ⟨standOf f131, px, 7, hadOf (f131 ++ [Deed.pay 7]), rfl, hpl, rfl, pay_ok ok131 hc (by decide), hperm, had_sort (ok131.snoc hc), rfl, by rw [stand_pay]⟩, fun u Hd4 H4 s4 p4 i4 => k u _ Hd4 H4 _ _ rfl s4 p4 i4⟩
  · replace g : d = dueD f131 (.pay 7) := g
    subst g
    exact q v Hd3 H3 (s1.ud.trans s3.ud) ⟨s3.sub, l1.en.mono s3.ud, tb_stp s3 (fun y o z e => z.elim (fun z => ins_kind po2 y o z e) (fun z => ins_kind p12 y o z e)) tb2, l.ne, p3, ins_stp s3 (fun z => z.elim (Ne.symm l.ne) ney) py2⟩ iv
end
end SP
/-! Q40 -/
namespace SP
open PySem PySem.Spec PyProof.Rows L2 LamX NdefX
section
variable {P : Program} {w : World} {K : PySem.W.Frag} {mg : Str → Option Value} {base : Heap} {C CT : Addr} {f : Addr} {cdv : Value} {A : Around} {outer : List Env} {s : Shared} {H0 : Hp} {E : XK} {am a0 cA Pt x y : Addr} {n : Nat} {σ : L2.St} {Hd H : Hp} {D : Ends} {ρ : Rho} {fy : List Deed} {px py : List Stand}
/-- statement 5: under, len, paid -/
theorem law_s5 (L : LawX P w K mg base C CT) (TB : TabB base mg cA Pt) (hr : Room 7 (LX P w K mg base f (.ref cA) A outer s H0 E).A) (hpl : px.length = 2) (l : LS2 K [(Pt, lamQ)] C x y f131 fy px py (rT a0 am x y (some toldEnd)) σ Hd H)
    (q : ∀ Hd' H', Ex Hd Hd' → LS2 K [(Pt, lamQ)] C x y f131 fy px py (rT a0 am x y (some toldEnd)) σ Hd' H' → D.nx σ H') :
    wS (un (LX P w K mg base f (.ref cA) A outer s H0 E)) (stm 46 5) D σ H := by
  have fd := fine_due ok131 (by decide) (dk 7 (by decide))
  refine c_if (c_tw (c_wor (c_cmpT (fun _ => op_neD hr.units) (law_under2 L TB hr (by omega) l fun v Hd1 H1 u1 l1 i1 => ?_) (nomark _))))
  refine (ed_is (K := K) (Φ := MP.tt) (ρ := rT a0 am x y (some toldEnd)) (x_tux (a_two (x_tup (a_two x_str x_int)) (x_tup (a_two x_str x_int)))) (show _ = dueD f131 (.pay 7) by rw [due5]; rfl)) σ Hd1 H1 l1.ex l1.en True.intro _ fun v2 Hd2 H2 s2 i2 => ?_
  refine rd_neD (Φ := MP.tt) fd.pure fd.pure (fd.shaped (by decide)) (fd.shaped (by decide)) Hd2 H2 v v2 s2.sub (i1.mono s2.ud) i2 True.intro _ fun z Hd3 H3 s3 i3 => ⟨_, i3.bl_inv, ?_⟩
  rw [fd.eqv]
  have l3 := (l1.nom s2).nom s3
  show wW _ _ _ _ _
  have el : (px.length : Int) = 2 := by omega
  refine c_wor ((t_cmp (Φ := InsI K C x (potF (standOf f131) px)) (K := K) (ρ := rT a0 am x y (some toldEnd)) (fun _ => op_ne) (x_lenO (j := 6) L.T L.len hr (by decide) (fun _ _ z => z) (by omega) (x_var 11)) x_int rd_nei (nomark _)) σ Hd3 H3 l3.ex l3.en l3.px _ fun Hd4 H4 s4 => ?_)
  have l4 := l3.nom s4
  rw [el]
  show wW _ _ _ _ _
  refine c_wor1 ((t_cmp (Φ := InsI K C x (potF (standOf f131) px)) (K := K) (ρ := rT a0 am x y (some toldEnd)) (fun _ => op_ne) (x_prop (r := .int ((4 : Nat) : Int)) (j := 6) L.paid hr (by decide) rfl L.pc.cls (fun _ _ z => z) (x_var 11) ⟨standOf f131, px, rfl, rfl, rfl⟩) x_int rd_nei (nomark _)) σ Hd4 H4 l4.ex l4.en l4.px _ fun Hd5 H5 s5 => ?_)
  exact c_nil (q Hd5 H5 (u1.trans (s2.ud.trans (s3.ud.trans (s4.ud.trans s5.ud)))) (l4.nom s5))
end
end SP
/-! Q41 -/
namespace SP
open PySem PySem.Spec PyProof.Rows L2 LamX NdefX
theorem c_vand {ι : Type} {F : ι → Cx} {σ : L2.St} {H : Hp} {a b : Expr} {rest : List Expr} {pos : Pos} {Q : VK} (h : wE F a σ H fun v H1 => ∃ k, v = .bl k ∧ if k = true then wE F (.BoolOp .And (b :: rest) pos) σ H1 Q else Q (.bl false) H1) : wE F (.BoolOp .And (a :: b :: rest) pos) σ H Q := ⟨_, fun i => pe_and (wE_ok i) (wE_ok i), h⟩
theorem c_vand1 {ι : Type} {F : ι → Cx} {σ : L2.St} {H : Hp} {a : Expr} {pos : Pos} {Q : VK} (h : wE F a σ H Q) : wE F (.BoolOp .And [a] pos) σ H Q := ⟨_, fun i => pe_one (wE_ok i), h⟩
theorem c_cmpE {ι : Type} {F : ι → Cx} {σ : L2.St} {H : Hp} {a b : Expr} {pos : Pos} {Q : VK} {op : CmpOp} {r : R2} (ho : ∀ i, OpR (F i) (compareOp op) r) (h : wE F a σ H fun v H1 => wE F b σ H1 fun u H2 => r v u H2 Q) (hm : behindInMarks op b = false) : wE F (.Compare a [op] [b] pos) σ H Q := ⟨_, fun i => pe_cmpR (ho i) (wE_ok i) (wE_ok i) hm, h⟩
abbrev f4 : List Deed := [.deal dA, .pay 3, .pay 1, .deal dB]
abbrev f5 : List Deed := [.deal dA, .pay 3, .pay 1, .deal dB, .pay 2]
theorem ok4 : FilmOk f4 := ok131.snoc (x := .deal dB) dB_ok
theorem ok5 : FilmOk f5 := ok4.snoc (dk 2 (by decide))
theorem due6 : dueD f4 (.pay 2) = .tux [prD ("b", 1), prD ("c", 1)] := by
  show Dt.tux ((bring dB 0 2).map prD) = _
  rw [bringB]; rfl
theorem had6 : encHad (standOf f5).had = .tux [prD ("a", 2), prD ("b", 3), prD ("c", 1)] := by
  show encHad (hadOf f5) = _
  rw [hadEnd]; rfl
section
variable {P : Program} {w : World} {K : PySem.W.Frag} {mg : Str → Option Value} {base : Heap} {C CT : Addr} {f : Addr} {cdv : Value} {A : Around} {outer : List Env} {s : Shared} {H0 : Hp} {E : XK} {am a0 cA Pt x y : Addr} {n : Nat} {σ : L2.St} {Hd H : Hp} {D : Ends} {fy : List Deed} {px py : List Stand}
/-- statement 6: change -/
theorem law_s6 (L : LawX P w K mg base C CT) (hr : Room 7 (LX P w K mg base f cdv A outer s H0 E).A) (hpl : px.length ≤ 1000) {T : List (Addr × Str)} (l : LS2 K T C x y f131 fy px py (rT a0 am x y (some toldEnd)) σ Hd H)
    (q : ∀ Hd' H', Ex Hd Hd' → LS2 K T C x y f4 fy (px ++ [standOf f131]) py (rT a0 am x y (some toldEnd)) σ Hd' H' → D.nx σ H') :
    wS (un (LX P w K mg base f cdv A outer s H0 E)) (stm 46 6) D σ H := by
  have hd : DealS dB := dB_ok
  have hperm : (addAll (standOf f131).had (dB.names.zip (List.replicate dB.names.length 0))).Perm (hadOf (f131 ++ [Deed.deal dB])) := deal_perm ok131 hd
  have hhl := had_len ok131
  have hfl : f131.length = 3 := rfl
  have ea : ∀ {e1 : Expr}, True := fun {_} => True.intro
  refine c_expr ⟨_, fun _ => pe_mcal L.change L.pc.cls hr (by decide) (wE_ok (F := un (LX P w K mg base f cdv A outer s H0 E)) ()) (wA_ok (F := un (LX P w K mg base f cdv A outer s H0 E)) ()), ?_⟩
  refine (x_var (K := K) (Φ := MP.tt) (d := .raw (.ref x)) (F := un (LX P w K mg base f cdv A outer s H0 E)) (ρ := rT a0 am x y (some toldEnd)) 11) σ Hd H l.ex l.en True.intro _ fun z Hd1 H1 s1 i1 => ?_
  have l1 := l.nom s1
  obtain ⟨_, dx, fl, e1, e2⟩ := id l1.px
  rw [i1.raw_inv]
  refine ⟨x, dx, fl, rfl, e1, e2.none rfl, ?_⟩
  refine (a_one (K := K) (Φ := MP.tt) (F := un (LX P w K mg base f cdv A outer s H0 E)) (ρ := rT a0 am x y (some toldEnd)) (ed_is (x_tux (a_two (x_tux (a_two x_str x_str)) (x_tux (a_two (x_tux (a_two x_int x_str)) (x_tux (a_two x_non x_str)))))) (show _ = encDeal dB by rw [fig0, fig1]; rfl))) σ Hd1 H1 l1.ex l1.en True.intro _ fun us Hd2 H2 s2 i2 => ?_
  have l2 := l1.nom s2
  rw [List.append_nil]
  exact ⟨Hd2, x, potF (standOf f131) px, us, [encDeal dB], .non, potF (standOf (f131 ++ [.deal dB])) (px ++ [standOf f131]), rfl, l2.ex, l2.px, i2, ⟨standOf f131, px, dB, hadOf (f131 ++ [Deed.deal dB]), rfl, hpl, rfl, hd.ok, had_nodup ok131, by show (hadOf f131).length ≤ 900; omega, hperm, had_sort (ok131.snoc (x := .deal dB) hd), rfl, by rw [stand_deal]⟩, fun u Hd3 H3 s3 p3 i3 => q Hd3 H3 ((s1.trans s2).ud.trans s3.ud) (l2.putX (fx' := f4) s3 p3)⟩
/-- statement 7: the answer -/
theorem law_s7 (L : LawX P w K mg base C CT) (hr : Room 7 (LX P w K mg base f cdv A outer s H0 E).A) (hpl : px.length ≤ 900) {T : List (Addr × Str)} (l : LS2 K T C x y f4 fy px py (rT a0 am x y (some toldEnd)) σ Hd H)
    (q : ∀ H', D.rt (.bl true) H') : wS (un (LX P w K mg base f cdv A outer s H0 E)) (stm 46 7) D σ H := by
  obtain ⟨vx, hx, ix⟩ := l.en.2 11 _ rfl
  rw [ix.raw_inv] at hx
  have fd := fine_due ok4 (by decide) (dk 2 (by decide))
  have fh : Fine (encHad (standOf f5).had) 5000 2 := fine_had ok5 (by decide)
  refine c_ret (c_vand (c_cmpE (fun _ => op_eqD hr.units) (c_pay L.pay hr (by decide) l.en l.ex hx l.px x_int ok4 (by decide) (by omega) (dk 2 (by decide)) fun v1 Hd1 H1 s1 p1 i1 => ?_) (nomark _)))
  have l1 := l.putX (fx' := f5) s1 p1
  refine (ed_is (K := K) (Φ := MP.tt) (ρ := rT a0 am x y (some toldEnd)) (x_tux (a_two (x_tup (a_two x_str x_int)) (x_tup (a_two x_str x_int)))) (show _ = dueD f4 (.pay 2) by rw [due6]; rfl)) σ Hd1 H1 l1.ex l1.en True.intro _ fun v2 Hd2 H2 s2 i2 => ?_
  refine rd_eqD (Φ := MP.tt) fd.pure fd.pure (fd.shaped (by decide)) (fd.shaped (by decide)) Hd2 H2 v1 v2 s2.sub (i1.mono s2.ud) i2 True.intro _ fun z Hd3 H3 s3 i3 => ⟨_, i3.bl_inv, ?_⟩
  rw [fd.eqv]
  have l3 := (l1.nom s2).nom s3
  show wE _ _ _ _ _
  have a1 : EvD K (InsI K C x (potF (standOf f5) (px ++ [standOf f4]))) (wE (un (LX P w K mg base f cdv A outer s H0 E)) (.BoolOp .And ((match retOf (stm 46 7) with | .BoolOp _ (_ :: r) _ => r | _ => [])) (match retOf (stm 46 7) with | .BoolOp _ _ p => p | _ => ⟨0, 0, 0, 0⟩))) (rT a0 am x y (some toldEnd)) (.bl (PyData.eqv (encHad (standOf f5).had).py (encHad (standOf f5).had).py && (owedD (standOf f5) 0).isNon)) :=
    x_and (x_cmp (fun _ => op_eqD hr.units) (x_prop (j := 6) L.has hr (by decide) rfl L.pc.cls (fun _ _ z => z) (x_var 11) ⟨standOf f5, _, rfl, rfl, rfl⟩) (ed_is (x_tux (a_cons (x_tup (a_two x_str x_int)) (a_two (x_tup (a_two x_str x_int)) (x_tup (a_two x_str x_int))))) (show _ = encHad (standOf f5).had by rw [had6]; rfl)) (rd_eqD fh.pure fh.pure (fh.shaped (by decide)) (fh.shaped (by decide))) (nomark _))
      fun _ => x_bo1 (x_cmp (fun _ => op_isN) (x_rdC L.owed hr (by decide) rfl L.pc.cls (fun _ _ z => z) rfl (x_var 11) (a_one x_str) ⟨standOf f5, _, "b", rfl, rfl, by decide +kernel, by decide, by decide, fit_of dB_ok, rfl⟩) x_non (rd_isn (by rw [show (standOf f5).deal.names.idxOf ("b" : Str) = 0 by decide +kernel, owedEnd]; rfl)) (nomark _))
  refine a1 σ Hd3 H3 l3.ex l3.en l3.px _ fun v4 Hd4 H4 s4 i4 => ?_
  rw [i4.bl_inv, fh.eqv, owedEnd]
  exact q H4
end
end SP
/-! Q42 -/
namespace SP
open PySem PySem.Spec PyProof.Rows L2 LamX NdefX
/-! ### the law -/
def LawSp (K : PySem.W.Frag) (Pt : Addr) : Sp := fun vs H Q _ => ∃ (a : Addr) (ns : List Int), vs = [.ref a] ∧ SqL K H a (ns.map V.int) ∧ ns.length ≤ 1000 ∧ H Pt = some (.tbl #[]) ∧ ∀ H', Q (.bl true) H'
/-- all but the tables -/
def noTbl (H : Hp) : Hp := fun b => match H b with
  | some (.tbl _) => none
  | o => o
theorem noTbl_ex (H : Hp) : Ex (noTbl H) H := fun b o e => by
  unfold noTbl at e
  split at e
  · cases e
  · exact e
theorem noTbl_no (H : Hp) (b : Addr) (ps : Array Value) : noTbl H b ≠ some (.tbl ps) := fun e => by
  have h := noTbl_ex H b _ e
  unfold noTbl at e
  rw [h] at e
  cases e
theorem noTbl_rd {H : Hp} {a : Addr} {xs : List V} (h : Rd H a (.lst xs)) : Rd (noTbl H) a (.lst xs) := by
  rcases h with h | ⟨o, h⟩
  · exact .inl (by unfold noTbl; rw [h])
  · exact .inr ⟨o, by unfold noTbl; rw [h]⟩
theorem noTbl_sq {K : PySem.W.Frag} {H : Hp} {a : Addr} {xs : List V} (h : SqL K H a xs) : SqL K (noTbl H) a xs := by
  rcases h with h | h
  · exact .inl (noTbl_rd h)
  · exact .inr h
/-- a def whose code object is known -/
structure FunC (K : PySem.W.Frag) (x qual : Str) (st : Stmt) (f : Addr) (fd : FuncData) (cA : Addr) : Prop where
  ex : ∃ (oc : Value) (od : Option Addr) (kV doc pm : Value) (an : Option Addr) (ct : Value) (osl : Array (Option Value)),
    fd = PySem.W.fnOf x qual (defArgs st) (defBody st) (defScope st) .none kV doc pm an (.ref cA) ct ∧ K.lookup f = some ⟨oc, od, .func fd, osl⟩ ∧ PySem.W.codeIn K (.ref cA) qual = true
section
variable {P : Program} {w : World} {K : PySem.W.Frag} {mg : Str → Option Value} {base : Heap} {C CT fa cA Pt : Addr} {fd : FuncData}
theorem body46 : defBody (top 46) = [stm 46 0, stm 46 1, stm 46 2, stm 46 3, stm 46 4, stm 46 5, stm 46 6, stm 46 7] := rfl
theorem d_law (L : LawX P w K mg base C CT) (TB : TabB base mg cA Pt) (F : FunC K "law" "law" (top 46) fa fd cA) : FnG P w K mg base CX0 8 fa fd ["_law_script"] (LawSp K Pt) := by
  obtain ⟨oc, od, kV, doc, pm, an, ct, osl, rfl, lk, hcd⟩ := F.ex
  have len : ∀ vs H Q E, LawSp K Pt vs H Q E → vs.length = ["_law_script"].length := fun vs H Q E h => by
    obtain ⟨a, ns, rfl, _⟩ := h
    rfl
  refine ⟨len, fun A outer s H args us vs Q E hA hr e0 hb r q => ?_⟩
  refine LamX.run_ofS lk hcd sc46 hr e0 hb r (len _ _ _ _ q) fun hr' => ?_
  obtain ⟨a, ns, rfl, hs, hl, hp, q⟩ := q
  have hG : (LX P w K mg base fa (.ref cA) A outer s H E).A.guards = some [] := hA
  have hr7 : Room 7 (LX P w K mg base fa (.ref cA) A outer s H E).A := hr'
  refine ⟨_, (wSs_ok (F := un (LX P w K mg base fa (.ref cA) A outer s H E)) (e := defBody (top 46)) ()).nox, ?_⟩
  have ex0 := noTbl_ex H
  have en0 : EnvD K (noTbl H) (L2.start n46 [.ref a]) (startD n46 [.raw (.ref a)]) := env_start n46 (.cons (.raw (.ref a)) .nil)
  have sc0 : (Scr K a ns).p (noTbl H) H := noTbl_sq hs
  have tb0 : (TbM [(Pt, lamQ)]).p (noTbl H) H := ⟨fun p hp' => by
    rw [List.mem_singleton.mp hp']
    exact ⟨#[], hp, True.intro, fun pos cv z => by cases z⟩, noTbl_no H⟩
  rw [body46]
  refine c_cons (c_set 1 (fun _ => sc46.nd) (c_call (F := un (LX P w K mg base fa (.ref cA) A outer s H E)) (fun _ => L.begun) (fun _ => hr7) ((a_one (K := K) (Φ := MP.tt) (ρ := startD n46 [.raw (.ref a)]) (x_var (d := .raw (.ref a)) 0)) _ (noTbl H) H ex0 en0 True.intro _ fun vs1 Hd1 H1 s1 i1 => ?_)))
  obtain ⟨v, us1, rfl, iv, it⟩ := i1.cons_inv
  rw [it.nil_inv, iv.raw_inv]
  have sc1 := (Scr K a ns).mono s1 sc0
  refine ⟨Hd1, a, ns, rfl, s1.sub, sc1, hl, fun am Hd2 H2 s2 nm md => ?_⟩
  have s12 := s1.trans s2
  refine c_cons (law_laps (a0 := a) (am := am) (ns := ns) L TB hG hr7 ((Scr K a ns).mono s2 sc1) ⟨s2.sub, (en0.mono s12.ud).set (i := 1) (.raw (.ref am)), md, (TbM _).mono s12 tb0⟩ fun σ3 Hd3 H3 u3 l3 => ?_)
  refine c_cons (law_two L hr7 l3 fun x y σ4 Hd4 H4 l4 => ?_)
  refine c_cons (law_told L hr7 l4 fun σ5 Hd5 H5 l5 => ?_)
  refine c_cons (law_ne hr7 σ5 Hd5 H5 l5.ex l5.en True.intro _ fun σ6 Hd6 H6 s6 en6 => ?_)
  have l6 := l5.nom s6
  have l6' : LS2 K [(Pt, lamQ)] C x y f131 f112 [standOf f1, standOf f13] [standOf f1, standOf f11] (rT a am x y (some toldEnd)) σ6 Hd6 H6 := ⟨l6.ex, en6, l6.tb, l6.ne, l6.px, l6.py⟩
  refine c_cons (law_s5 L TB hr7 rfl l6' fun Hd7 H7 u7 l7 => ?_)
  refine c_cons (law_s6 L hr7 (by decide) l7 fun Hd8 H8 u8 l8 => ?_)
  exact c_one (law_s7 L hr7 (by decide) l8 fun H9 => q H9)
end
end SP
/-! Q43 -/
namespace SP
open PySem PySem.Spec PyProof.Rows L2 LamX NdefX
/-! ### what the top has written -/
theorem noInt_mk {K : PySem.W.Frag} {C : Addr} {cd : ClassData} (h1 : PySem.W.clsIn K C = some cd) (h2 : PySem.W.typeIn K (.ref C) = some (.type "type")) (h3 : PySem.W.subIn K (.type "int") (.ref C) = some false) : PySem.W.kitOne K (.type "int") (.ref C) = some false := by
  unfold PySem.W.kitOne PySem.W.kitCls
  have e : (Value.type "int" == Value.ref C) = false := rfl
  rw [e, if_neg (by decide)]
  show (if _ then _ else _) = _
  rw [h1, h2, h3]
  rfl
section
variable {K : PySem.W.Frag} {h : Heap} {mg : Str → Option Value} {f g pA C : Addr} {oc kV doc pm_ cdv ct : Value} {od an : Option Addr} {osl : Array (Option Value)} {rest : List Value}
theorem df14 (X : K.In h) (G : h.Ns mainGlobals mg) (a : PySem.W.nsIn K mainGlobals "is_whole" = some (some (.ref f))) (l : K.lookup f = some ⟨oc, od, .func (PySem.W.fnOf "is_whole" "is_whole" (defArgs (top 14)) (defBody (top 14)) (defScope (top 14)) .none kV doc pm_ an cdv ct), osl⟩) (c : PySem.W.codeIn K cdv "is_whole" = true) (k : PySem.W.keepIn K (.ref f) = true) : DefAt K mg "is_whole" (top 14) ["thing", "least", "most"] :=
  ⟨⟨f, _, PySem.W.mg_of X G a, fun_mk l c k, (fun_mk (st := top 14) l c k).binds (ps := ["thing", "least", "most"]) fun _ _ _ _ _ _ us hl => match us, hl with | [_, _, _], _ => rfl⟩⟩
theorem df15 (X : K.In h) (G : h.Ns mainGlobals mg) (a : PySem.W.nsIn K mainGlobals "is_word" = some (some (.ref f))) (l : K.lookup f = some ⟨oc, od, .func (PySem.W.fnOf "is_word" "is_word" (defArgs (top 15)) (defBody (top 15)) (defScope (top 15)) .none kV doc pm_ an cdv ct), osl⟩) (c : PySem.W.codeIn K cdv "is_word" = true) (k : PySem.W.keepIn K (.ref f) = true) : DefAt K mg "is_word" (top 15) ["thing"] :=
  ⟨⟨f, _, PySem.W.mg_of X G a, fun_mk l c k, (fun_mk (st := top 15) l c k).binds (ps := ["thing"]) fun _ _ _ _ _ _ us hl => match us, hl with | [_], _ => rfl⟩⟩
theorem df16 (X : K.In h) (G : h.Ns mainGlobals mg) (a : PySem.W.nsIn K mainGlobals "are_names" = some (some (.ref f))) (l : K.lookup f = some ⟨oc, od, .func (PySem.W.fnOf "are_names" "are_names" (defArgs (top 16)) (defBody (top 16)) (defScope (top 16)) .none kV doc pm_ an cdv ct), osl⟩) (c : PySem.W.codeIn K cdv "are_names" = true) (k : PySem.W.keepIn K (.ref f) = true) : DefAt K mg "are_names" (top 16) ["thing"] :=
  ⟨⟨f, _, PySem.W.mg_of X G a, fun_mk l c k, (fun_mk (st := top 16) l c k).binds (ps := ["thing"]) fun _ _ _ _ _ _ us hl => match us, hl with | [_], _ => rfl⟩⟩
theorem df17 (X : K.In h) (G : h.Ns mainGlobals mg) (a : PySem.W.nsIn K mainGlobals "are_figures" = some (some (.ref f))) (l : K.lookup f = some ⟨oc, od, .func (PySem.W.fnOf "are_figures" "are_figures" (defArgs (top 17)) (defBody (top 17)) (defScope (top 17)) .none kV doc pm_ an cdv ct), osl⟩) (c : PySem.W.codeIn K cdv "are_figures" = true) (k : PySem.W.keepIn K (.ref f) = true) : DefAt K mg "are_figures" (top 17) ["many", "thing"] :=
  ⟨⟨f, _, PySem.W.mg_of X G a, fun_mk l c k, (fun_mk (st := top 17) l c k).binds (ps := ["many", "thing"]) fun _ _ _ _ _ _ us hl => match us, hl with | [_, _], _ => rfl⟩⟩
theorem df18 (X : K.In h) (G : h.Ns mainGlobals mg) (a : PySem.W.nsIn K mainGlobals "is_run" = some (some (.ref f))) (l : K.lookup f = some ⟨oc, od, .func (PySem.W.fnOf "is_run" "is_run" (defArgs (top 18)) (defBody (top 18)) (defScope (top 18)) .none kV doc pm_ an cdv ct), osl⟩) (c : PySem.W.codeIn K cdv "is_run" = true) (k : PySem.W.keepIn K (.ref f) = true) : DefAt K mg "is_run" (top 18) ["many", "thing", "is_last"] :=
  ⟨⟨f, _, PySem.W.mg_of X G a, fun_mk l c k, (fun_mk (st := top 18) l c k).binds (ps := ["many", "thing", "is_last"]) fun _ _ _ _ _ _ us hl => match us, hl with | [_, _, _], _ => rfl⟩⟩
theorem df19 (X : K.In h) (G : h.Ns mainGlobals mg) (a : PySem.W.nsIn K mainGlobals "need_deal" = some (some (.ref f))) (l : K.lookup f = some ⟨oc, od, .func (PySem.W.fnOf "need_deal" "need_deal" (defArgs (top 19)) (defBody (top 19)) (defScope (top 19)) .none kV doc pm_ an cdv ct), osl⟩) (c : PySem.W.codeIn K cdv "need_deal" = true) (k : PySem.W.keepIn K (.ref f) = true) : DefAt K mg "need_deal" (top 19) ["thing"] :=
  ⟨⟨f, _, PySem.W.mg_of X G a, fun_mk l c k, (fun_mk (st := top 19) l c k).binds (ps := ["thing"]) fun _ _ _ _ _ _ us hl => match us, hl with | [_], _ => rfl⟩⟩
theorem df20 (X : K.In h) (G : h.Ns mainGlobals mg) (a : PySem.W.nsIn K mainGlobals "figure_of" = some (some (.ref f))) (l : K.lookup f = some ⟨oc, od, .func (PySem.W.fnOf "figure_of" "figure_of" (defArgs (top 20)) (defBody (top 20)) (defScope (top 20)) .none kV doc pm_ an cdv ct), osl⟩) (c : PySem.W.codeIn K cdv "figure_of" = true) (k : PySem.W.keepIn K (.ref f) = true) : DefAt K mg "figure_of" (top 20) ["names", "name"] :=
  ⟨⟨f, _, PySem.W.mg_of X G a, fun_mk l c k, (fun_mk (st := top 20) l c k).binds (ps := ["names", "name"]) fun _ _ _ _ _ _ us hl => match us, hl with | [_, _], _ => rfl⟩⟩
theorem df21 (X : K.In h) (G : h.Ns mainGlobals mg) (a : PySem.W.nsIn K mainGlobals "count_in" = some (some (.ref f))) (l : K.lookup f = some ⟨oc, od, .func (PySem.W.fnOf "count_in" "count_in" (defArgs (top 21)) (defBody (top 21)) (defScope (top 21)) .none kV doc pm_ an cdv ct), osl⟩) (c : PySem.W.codeIn K cdv "count_in" = true) (k : PySem.W.keepIn K (.ref f) = true) : DefAt K mg "count_in" (top 21) ["figures", "figure", "coins"] :=
  ⟨⟨f, _, PySem.W.mg_of X G a, fun_mk l c k, (fun_mk (st := top 21) l c k).binds (ps := ["figures", "figure", "coins"]) fun _ _ _ _ _ _ us hl => match us, hl with | [_, _, _], _ => rfl⟩⟩
theorem df22 (X : K.In h) (G : h.Ns mainGlobals mg) (a : PySem.W.nsIn K mainGlobals "parts_of" = some (some (.ref f))) (l : K.lookup f = some ⟨oc, od, .func (PySem.W.fnOf "parts_of" "parts_of" (defArgs (top 22)) (defBody (top 22)) (defScope (top 22)) .none kV doc pm_ an cdv ct), osl⟩) (c : PySem.W.codeIn K cdv "parts_of" = true) (k : PySem.W.keepIn K (.ref f) = true) : DefAt K mg "parts_of" (top 22) ["runs", "coins"] :=
  ⟨⟨f, _, PySem.W.mg_of X G a, fun_mk l c k, (fun_mk (st := top 22) l c k).binds (ps := ["runs", "coins"]) fun _ _ _ _ _ _ us hl => match us, hl with | [_, _], _ => rfl⟩⟩
theorem df23 (X : K.In h) (G : h.Ns mainGlobals mg) (a : PySem.W.nsIn K mainGlobals "count_by" = some (some (.ref f))) (l : K.lookup f = some ⟨oc, od, .func (PySem.W.fnOf "count_by" "count_by" (defArgs (top 23)) (defBody (top 23)) (defScope (top 23)) .none kV doc pm_ an cdv ct), osl⟩) (c : PySem.W.codeIn K cdv "count_by" = true) (k : PySem.W.keepIn K (.ref f) = true) : DefAt K mg "count_by" (top 23) ["runs", "figure", "coins"] :=
  ⟨⟨f, _, PySem.W.mg_of X G a, fun_mk l c k, (fun_mk (st := top 23) l c k).binds (ps := ["runs", "figure", "coins"]) fun _ _ _ _ _ _ us hl => match us, hl with | [_, _, _], _ => rfl⟩⟩
theorem df24 (X : K.In h) (G : h.Ns mainGlobals mg) (a : PySem.W.nsIn K mainGlobals "has_in" = some (some (.ref f))) (l : K.lookup f = some ⟨oc, od, .func (PySem.W.fnOf "has_in" "has_in" (defArgs (top 24)) (defBody (top 24)) (defScope (top 24)) .none kV doc pm_ an cdv ct), osl⟩) (c : PySem.W.codeIn K cdv "has_in" = true) (k : PySem.W.keepIn K (.ref f) = true) : DefAt K mg "has_in" (top 24) ["deal", "coins"] :=
  ⟨⟨f, _, PySem.W.mg_of X G a, fun_mk l c k, (fun_mk (st := top 24) l c k).binds (ps := ["deal", "coins"]) fun _ _ _ _ _ _ us hl => match us, hl with | [_, _], _ => rfl⟩⟩
theorem df25 (X : K.In h) (G : h.Ns mainGlobals mg) (a : PySem.W.nsIn K mainGlobals "reach_in" = some (some (.ref f))) (l : K.lookup f = some ⟨oc, od, .func (PySem.W.fnOf "reach_in" "reach_in" (defArgs (top 25)) (defBody (top 25)) (defScope (top 25)) .none kV doc pm_ an cdv ct), osl⟩) (c : PySem.W.codeIn K cdv "reach_in" = true) (k : PySem.W.keepIn K (.ref f) = true) : DefAt K mg "reach_in" (top 25) ["runs", "figure", "many"] :=
  ⟨⟨f, _, PySem.W.mg_of X G a, fun_mk l c k, (fun_mk (st := top 25) l c k).binds (ps := ["runs", "figure", "many"]) fun _ _ _ _ _ _ us hl => match us, hl with | [_, _, _], _ => rfl⟩⟩
theorem df27 (X : K.In h) (G : h.Ns mainGlobals mg) (a : PySem.W.nsIn K mainGlobals "under" = some (some (.ref f))) (l : K.lookup f = some ⟨oc, od, .func (PySem.W.fnOf "under" "under" (defArgs (top 27)) (defBody (top 27)) (defScope (top 27)) .none kV doc pm_ an cdv ct), osl⟩) (c : PySem.W.codeIn K cdv "under" = true) (k : PySem.W.keepIn K (.ref f) = true) : DefAt K mg "under" (top 27) ["manager", "deed"] :=
  ⟨⟨f, _, PySem.W.mg_of X G a, fun_mk l c k, (fun_mk (st := top 27) l c k).binds (ps := ["manager", "deed"]) fun _ _ _ _ _ _ us hl => match us, hl with | [_, _], _ => rfl⟩⟩
theorem df28 (X : K.In h) (G : h.Ns mainGlobals mg) (a : PySem.W.nsIn K mainGlobals "joined" = some (some (.ref f))) (l : K.lookup f = some ⟨oc, od, .func (PySem.W.fnOf "joined" "joined" (defArgs (top 28)) (defBody (top 28)) (defScope (top 28)) .none kV doc pm_ an cdv ct), osl⟩) (c : PySem.W.codeIn K cdv "joined" = true) (k : PySem.W.keepIn K (.ref f) = true) : DefAt K mg "joined" (top 28) ["had", "names", "more"] :=
  ⟨⟨f, _, PySem.W.mg_of X G a, fun_mk l c k, (fun_mk (st := top 28) l c k).binds (ps := ["had", "names", "more"]) fun _ _ _ _ _ _ us hl => match us, hl with | [_, _, _], _ => rfl⟩⟩
theorem df32 (X : K.In h) (G : h.Ns mainGlobals mg) (a : PySem.W.nsIn K mainGlobals "_law_begun" = some (some (.ref f))) (l : K.lookup f = some ⟨oc, od, .func (PySem.W.fnOf "_law_begun" "_law_begun" (defArgs (top 32)) (defBody (top 32)) (defScope (top 32)) .none kV doc pm_ an cdv ct), osl⟩) (c : PySem.W.codeIn K cdv "_law_begun" = true) (k : PySem.W.keepIn K (.ref f) = true) : DefAt K mg "_law_begun" (top 32) ["_law_script"] :=
  ⟨⟨f, _, PySem.W.mg_of X G a, fun_mk l c k, (fun_mk (st := top 32) l c k).binds (ps := ["_law_script"]) fun _ _ _ _ _ _ us hl => match us, hl with | [_], _ => rfl⟩⟩
theorem df33 (X : K.In h) (G : h.Ns mainGlobals mg) (a : PySem.W.nsIn K mainGlobals "_law_draw" = some (some (.ref f))) (l : K.lookup f = some ⟨oc, od, .func (PySem.W.fnOf "_law_draw" "_law_draw" (defArgs (top 33)) (defBody (top 33)) (defScope (top 33)) .none kV doc pm_ an cdv ct), osl⟩) (c : PySem.W.codeIn K cdv "_law_draw" = true) (k : PySem.W.keepIn K (.ref f) = true) : DefAt K mg "_law_draw" (top 33) ["_law_m", "_law_limit"] :=
  ⟨⟨f, _, PySem.W.mg_of X G a, fun_mk l c k, (fun_mk (st := top 33) l c k).binds (ps := ["_law_m", "_law_limit"]) fun _ _ _ _ _ _ us hl => match us, hl with | [_, _], _ => rfl⟩⟩
theorem df34 (X : K.In h) (G : h.Ns mainGlobals mg) (a : PySem.W.nsIn K mainGlobals "_law_of" = some (some (.ref f))) (l : K.lookup f = some ⟨oc, od, .func (PySem.W.fnOf "_law_of" "_law_of" (defArgs (top 34)) (defBody (top 34)) (defScope (top 34)) .none kV doc pm_ an cdv ct), osl⟩) (c : PySem.W.codeIn K cdv "_law_of" = true) (k : PySem.W.keepIn K (.ref f) = true) : DefAt K mg "_law_of" (top 34) ["_law_m", "_law_some"] :=
  ⟨⟨f, _, PySem.W.mg_of X G a, fun_mk l c k, (fun_mk (st := top 34) l c k).binds (ps := ["_law_m", "_law_some"]) fun _ _ _ _ _ _ us hl => match us, hl with | [_, _], _ => rfl⟩⟩
theorem df35 (X : K.In h) (G : h.Ns mainGlobals mg) (a : PySem.W.nsIn K mainGlobals "_law_people" = some (some (.ref f))) (l : K.lookup f = some ⟨oc, od, .func (PySem.W.fnOf "_law_people" "_law_people" (defArgs (top 35)) (defBody (top 35)) (defScope (top 35)) .none kV doc pm_ an cdv ct), osl⟩) (c : PySem.W.codeIn K cdv "_law_people" = true) (k : PySem.W.keepIn K (.ref f) = true) : DefAt K mg "_law_people" (top 35) ["_law_m", "_law_most"] :=
  ⟨⟨f, _, PySem.W.mg_of X G a, fun_mk l c k, (fun_mk (st := top 35) l c k).binds (ps := ["_law_m", "_law_most"]) fun _ _ _ _ _ _ us hl => match us, hl with | [_, _], _ => rfl⟩⟩
theorem df36 (X : K.In h) (G : h.Ns mainGlobals mg) (a : PySem.W.nsIn K mainGlobals "_law_figures" = some (some (.ref f))) (l : K.lookup f = some ⟨oc, od, .func (PySem.W.fnOf "_law_figures" "_law_figures" (defArgs (top 36)) (defBody (top 36)) (defScope (top 36)) .none kV doc pm_ an cdv ct), osl⟩) (c : PySem.W.codeIn K cdv "_law_figures" = true) (k : PySem.W.keepIn K (.ref f) = true) : DefAt K mg "_law_figures" (top 36) ["_law_m", "_law_total", "_law_long"] :=
  ⟨⟨f, _, PySem.W.mg_of X G a, fun_mk l c k, (fun_mk (st := top 36) l c k).binds (ps := ["_law_m", "_law_total", "_law_long"]) fun _ _ _ _ _ _ us hl => match us, hl with | [_, _, _], _ => rfl⟩⟩
theorem df37 (X : K.In h) (G : h.Ns mainGlobals mg) (a : PySem.W.nsIn K mainGlobals "_law_runs" = some (some (.ref f))) (l : K.lookup f = some ⟨oc, od, .func (PySem.W.fnOf "_law_runs" "_law_runs" (defArgs (top 37)) (defBody (top 37)) (defScope (top 37)) .none kV doc pm_ an cdv ct), osl⟩) (c : PySem.W.codeIn K cdv "_law_runs" = true) (k : PySem.W.keepIn K (.ref f) = true) : DefAt K mg "_law_runs" (top 37) ["_law_m", "_law_total", "_law_count", "_law_top", "_law_long"] :=
  ⟨⟨f, _, PySem.W.mg_of X G a, fun_mk l c k, (fun_mk (st := top 37) l c k).binds (ps := ["_law_m", "_law_total", "_law_count", "_law_top", "_law_long"]) fun _ _ _ _ _ _ us hl => match us, hl with | [_, _, _, _, _], _ => rfl⟩⟩
theorem df38 (X : K.In h) (G : h.Ns mainGlobals mg) (a : PySem.W.nsIn K mainGlobals "_law_deal" = some (some (.ref f))) (l : K.lookup f = some ⟨oc, od, .func (PySem.W.fnOf "_law_deal" "_law_deal" (defArgs (top 38)) (defBody (top 38)) (defScope (top 38)) .none kV doc pm_ an cdv ct), osl⟩) (c : PySem.W.codeIn K cdv "_law_deal" = true) (k : PySem.W.keepIn K (.ref f) = true) : DefAt K mg "_law_deal" (top 38) ["_law_m", "_law_most", "_law_count", "_law_top", "_law_long"] :=
  ⟨⟨f, _, PySem.W.mg_of X G a, fun_mk l c k, (fun_mk (st := top 38) l c k).binds (ps := ["_law_m", "_law_most", "_law_count", "_law_top", "_law_long"]) fun _ _ _ _ _ _ us hl => match us, hl with | [_, _, _, _, _], _ => rfl⟩⟩
theorem df39 (X : K.In h) (G : h.Ns mainGlobals mg) (a : PySem.W.nsIn K mainGlobals "_law_row" = some (some (.ref f))) (l : K.lookup f = some ⟨oc, od, .func (PySem.W.fnOf "_law_row" "_law_row" (defArgs (top 39)) (defBody (top 39)) (defScope (top 39)) .none kV doc pm_ an cdv ct), osl⟩) (c : PySem.W.codeIn K cdv "_law_row" = true) (k : PySem.W.keepIn K (.ref f) = true) : DefAt K mg "_law_row" (top 39) ["_law_runs_here", "_law_size"] :=
  ⟨⟨f, _, PySem.W.mg_of X G a, fun_mk l c k, (fun_mk (st := top 39) l c k).binds (ps := ["_law_runs_here", "_law_size"]) fun _ _ _ _ _ _ us hl => match us, hl with | [_, _], _ => rfl⟩⟩
theorem df40 (X : K.In h) (G : h.Ns mainGlobals mg) (a : PySem.W.nsIn K mainGlobals "_law_names_in" = some (some (.ref f))) (l : K.lookup f = some ⟨oc, od, .func (PySem.W.fnOf "_law_names_in" "_law_names_in" (defArgs (top 40)) (defBody (top 40)) (defScope (top 40)) .none kV doc pm_ an cdv ct), osl⟩) (c : PySem.W.codeIn K cdv "_law_names_in" = true) (k : PySem.W.keepIn K (.ref f) = true) : DefAt K mg "_law_names_in" (top 40) ["_law_film"] :=
  ⟨⟨f, _, PySem.W.mg_of X G a, fun_mk l c k, (fun_mk (st := top 40) l c k).binds (ps := ["_law_film"]) fun _ _ _ _ _ _ us hl => match us, hl with | [_], _ => rfl⟩⟩
theorem df41 (X : K.In h) (G : h.Ns mainGlobals mg) (a : PySem.W.nsIn K mainGlobals "_law_had" = some (some (.ref f))) (l : K.lookup f = some ⟨oc, od, .func (PySem.W.fnOf "_law_had" "_law_had" (defArgs (top 41)) (defBody (top 41)) (defScope (top 41)) .none kV doc pm_ an cdv ct), osl⟩) (c : PySem.W.codeIn K cdv "_law_had" = true) (k : PySem.W.keepIn K (.ref f) = true) : DefAt K mg "_law_had" (top 41) ["_law_film"] :=
  ⟨⟨f, _, PySem.W.mg_of X G a, fun_mk l c k, (fun_mk (st := top 41) l c k).binds (ps := ["_law_film"]) fun _ _ _ _ _ _ us hl => match us, hl with | [_], _ => rfl⟩⟩
theorem df42 (X : K.In h) (G : h.Ns mainGlobals mg) (a : PySem.W.nsIn K mainGlobals "_law_stands" = some (some (.ref f))) (l : K.lookup f = some ⟨oc, od, .func (PySem.W.fnOf "_law_stands" "_law_stands" (defArgs (top 42)) (defBody (top 42)) (defScope (top 42)) .none kV doc pm_ an cdv ct), osl⟩) (c : PySem.W.codeIn K cdv "_law_stands" = true) (k : PySem.W.keepIn K (.ref f) = true) : DefAt K mg "_law_stands" (top 42) ["_law_pot", "_law_film"] :=
  ⟨⟨f, _, PySem.W.mg_of X G a, fun_mk l c k, (fun_mk (st := top 42) l c k).binds (ps := ["_law_pot", "_law_film"]) fun _ _ _ _ _ _ us hl => match us, hl with | [_, _], _ => rfl⟩⟩
theorem df43 (X : K.In h) (G : h.Ns mainGlobals mg) (a : PySem.W.nsIn K mainGlobals "_law_brought" = some (some (.ref f))) (l : K.lookup f = some ⟨oc, od, .func (PySem.W.fnOf "_law_brought" "_law_brought" (defArgs (top 43)) (defBody (top 43)) (defScope (top 43)) .none kV doc pm_ an cdv ct), osl⟩) (c : PySem.W.codeIn K cdv "_law_brought" = true) (k : PySem.W.keepIn K (.ref f) = true) : DefAt K mg "_law_brought" (top 43) ["_law_film", "_law_coins"] :=
  ⟨⟨f, _, PySem.W.mg_of X G a, fun_mk l c k, (fun_mk (st := top 43) l c k).binds (ps := ["_law_film", "_law_coins"]) fun _ _ _ _ _ _ us hl => match us, hl with | [_, _], _ => rfl⟩⟩
theorem df44 (X : K.In h) (G : h.Ns mainGlobals mg) (a : PySem.W.nsIn K mainGlobals "_law_done" = some (some (.ref f))) (l : K.lookup f = some ⟨oc, od, .func (PySem.W.fnOf "_law_done" "_law_done" (defArgs (top 44)) (defBody (top 44)) (defScope (top 44)) .none kV doc pm_ an cdv ct), osl⟩) (c : PySem.W.codeIn K cdv "_law_done" = true) (k : PySem.W.keepIn K (.ref f) = true) : DefAt K mg "_law_done" (top 44) ["_law_pot", "_law_deed"] :=
  ⟨⟨f, _, PySem.W.mg_of X G a, fun_mk l c k, (fun_mk (st := top 44) l c k).binds (ps := ["_law_pot", "_law_deed"]) fun _ _ _ _ _ _ us hl => match us, hl with | [_, _], _ => rfl⟩⟩
theorem df45 (X : K.In h) (G : h.Ns mainGlobals mg) (a : PySem.W.nsIn K mainGlobals "_law_behind" = some (some (.ref f))) (l : K.lookup f = some ⟨oc, od, .func (PySem.W.fnOf "_law_behind" "_law_behind" (defArgs (top 45)) (defBody (top 45)) (defScope (top 45)) .none kV doc pm_ an cdv ct), osl⟩) (c : PySem.W.codeIn K cdv "_law_behind" = true) (k : PySem.W.keepIn K (.ref f) = true) : DefAt K mg "_law_behind" (top 45) ["_law_film", "_law_deed"] :=
  ⟨⟨f, _, PySem.W.mg_of X G a, fun_mk l c k, (fun_mk (st := top 45) l c k).binds (ps := ["_law_film", "_law_deed"]) fun _ _ _ _ _ _ us hl => match us, hl with | [_, _], _ => rfl⟩⟩
theorem mfM0 (a : PySem.W.findIn K (.ref C) "__init__" = some (some (.ref f))) (i : PySem.W.isFn K (.ref f) = true) (l : K.lookup f = some ⟨oc, od, .func (PySem.W.fnOf "__init__" "Pot.__init__" (defArgs (pm 0)) (defBody (pm 0)) (defScope (pm 0)) .none kV doc pm_ an cdv ct), osl⟩) (c : PySem.W.codeIn K cdv "Pot.__init__" = true) (k : PySem.W.keepIn K (.ref f) = true) : MDef K C "__init__" "Pot.__init__" (pm 0) ["self", "deal"] :=
  ⟨⟨f, _, ⟨a, i, k⟩, fun_mk l c k, (fun_mk (st := pm 0) l c k).binds (ps := ["self", "deal"]) fun _ _ _ _ _ _ us hl => match us, hl with | [_, _], _ => rfl⟩⟩
theorem mfM4 (a : PySem.W.findIn K (.ref C) "go_on" = some (some (.ref f))) (i : PySem.W.isFn K (.ref f) = true) (l : K.lookup f = some ⟨oc, od, .func (PySem.W.fnOf "go_on" "Pot.go_on" (defArgs (pm 4)) (defBody (pm 4)) (defScope (pm 4)) .none kV doc pm_ an cdv ct), osl⟩) (c : PySem.W.codeIn K cdv "Pot.go_on" = true) (k : PySem.W.keepIn K (.ref f) = true) : MDef K C "go_on" "Pot.go_on" (pm 4) ["self", "stand"] :=
  ⟨⟨f, _, ⟨a, i, k⟩, fun_mk l c k, (fun_mk (st := pm 4) l c k).binds (ps := ["self", "stand"]) fun _ _ _ _ _ _ us hl => match us, hl with | [_, _], _ => rfl⟩⟩
theorem mfM5 (a : PySem.W.findIn K (.ref C) "__call__" = some (some (.ref f))) (i : PySem.W.isFn K (.ref f) = true) (l : K.lookup f = some ⟨oc, od, .func (PySem.W.fnOf "__call__" "Pot.__call__" (defArgs (pm 5)) (defBody (pm 5)) (defScope (pm 5)) .none kV doc pm_ an cdv ct), osl⟩) (c : PySem.W.codeIn K cdv "Pot.__call__" = true) (k : PySem.W.keepIn K (.ref f) = true) : MDef K C "__call__" "Pot.__call__" (pm 5) ["self", "coins"] :=
  ⟨⟨f, _, ⟨a, i, k⟩, fun_mk l c k, (fun_mk (st := pm 5) l c k).binds (ps := ["self", "coins"]) fun _ _ _ _ _ _ us hl => match us, hl with | [_, _], _ => rfl⟩⟩
theorem mfM6 (a : PySem.W.findIn K (.ref C) "change" = some (some (.ref f))) (i : PySem.W.isFn K (.ref f) = true) (l : K.lookup f = some ⟨oc, od, .func (PySem.W.fnOf "change" "Pot.change" (defArgs (pm 6)) (defBody (pm 6)) (defScope (pm 6)) .none kV doc pm_ an cdv ct), osl⟩) (c : PySem.W.codeIn K cdv "Pot.change" = true) (k : PySem.W.keepIn K (.ref f) = true) : MDef K C "change" "Pot.change" (pm 6) ["self", "deal"] :=
  ⟨⟨f, _, ⟨a, i, k⟩, fun_mk l c k, (fun_mk (st := pm 6) l c k).binds (ps := ["self", "deal"]) fun _ _ _ _ _ _ us hl => match us, hl with | [_, _], _ => rfl⟩⟩
theorem mfM7 (a : PySem.W.findIn K (.ref C) "owed" = some (some (.ref f))) (i : PySem.W.isFn K (.ref f) = true) (l : K.lookup f = some ⟨oc, od, .func (PySem.W.fnOf "owed" "Pot.owed" (defArgs (pm 7)) (defBody (pm 7)) (defScope (pm 7)) .none kV doc pm_ an cdv ct), osl⟩) (c : PySem.W.codeIn K cdv "Pot.owed" = true) (k : PySem.W.keepIn K (.ref f) = true) : MDef K C "owed" "Pot.owed" (pm 7) ["self", "name"] :=
  ⟨⟨f, _, ⟨a, i, k⟩, fun_mk l c k, (fun_mk (st := pm 7) l c k).binds (ps := ["self", "name"]) fun _ _ _ _ _ _ us hl => match us, hl with | [_, _], _ => rfl⟩⟩
theorem mfM8 (a : PySem.W.findIn K (.ref C) "__len__" = some (some (.ref f))) (i : PySem.W.isFn K (.ref f) = true) (l : K.lookup f = some ⟨oc, od, .func (PySem.W.fnOf "__len__" "Pot.__len__" (defArgs (pm 8)) (defBody (pm 8)) (defScope (pm 8)) .none kV doc pm_ an cdv ct), osl⟩) (c : PySem.W.codeIn K cdv "Pot.__len__" = true) (k : PySem.W.keepIn K (.ref f) = true) : MDef K C "__len__" "Pot.__len__" (pm 8) ["self"] :=
  ⟨⟨f, _, ⟨a, i, k⟩, fun_mk l c k, (fun_mk (st := pm 8) l c k).binds (ps := ["self"]) fun _ _ _ _ _ _ us hl => match us, hl with | [_], _ => rfl⟩⟩
theorem mfM10 (a : PySem.W.findIn K (.ref C) "__contains__" = some (some (.ref f))) (i : PySem.W.isFn K (.ref f) = true) (l : K.lookup f = some ⟨oc, od, .func (PySem.W.fnOf "__contains__" "Pot.__contains__" (defArgs (pm 10)) (defBody (pm 10)) (defScope (pm 10)) .none kV doc pm_ an cdv ct), osl⟩) (c : PySem.W.codeIn K cdv "Pot.__contains__" = true) (k : PySem.W.keepIn K (.ref f) = true) : MDef K C "__contains__" "Pot.__contains__" (pm 10) ["self", "x"] :=
  ⟨⟨f, _, ⟨a, i, k⟩, fun_mk l c k, (fun_mk (st := pm 10) l c k).binds (ps := ["self", "x"]) fun _ _ _ _ _ _ us hl => match us, hl with | [_, _], _ => rfl⟩⟩
theorem mfM11 (a : PySem.W.findIn K (.ref C) "__eq__" = some (some (.ref f))) (i : PySem.W.isFn K (.ref f) = true) (l : K.lookup f = some ⟨oc, od, .func (PySem.W.fnOf "__eq__" "Pot.__eq__" (defArgs (pm 11)) (defBody (pm 11)) (defScope (pm 11)) .none kV doc pm_ an cdv ct), osl⟩) (c : PySem.W.codeIn K cdv "Pot.__eq__" = true) (k : PySem.W.keepIn K (.ref f) = true) : MDef K C "__eq__" "Pot.__eq__" (pm 11) ["self", "other"] :=
  ⟨⟨f, _, ⟨a, i, k⟩, fun_mk l c k, (fun_mk (st := pm 11) l c k).binds (ps := ["self", "other"]) fun _ _ _ _ _ _ us hl => match us, hl with | [_, _], _ => rfl⟩⟩
theorem mfM13 (a : PySem.W.findIn K (.ref C) "copy" = some (some (.ref f))) (i : PySem.W.isFn K (.ref f) = true) (l : K.lookup f = some ⟨oc, od, .func (PySem.W.fnOf "copy" "Pot.copy" (defArgs (pm 13)) (defBody (pm 13)) (defScope (pm 13)) .none kV doc pm_ an cdv ct), osl⟩) (c : PySem.W.codeIn K cdv "Pot.copy" = true) (k : PySem.W.keepIn K (.ref f) = true) : MDef K C "copy" "Pot.copy" (pm 13) ["self"] :=
  ⟨⟨f, _, ⟨a, i, k⟩, fun_mk l c k, (fun_mk (st := pm 13) l c k).binds (ps := ["self"]) fun _ _ _ _ _ _ us hl => match us, hl with | [_], _ => rfl⟩⟩
theorem mfM14 (a : PySem.W.findIn K (.ref C) "trial" = some (some (.ref f))) (i : PySem.W.isFn K (.ref f) = true) (l : K.lookup f = some ⟨oc, od, .func (PySem.W.fnOf "trial" "Pot.trial" (defArgs (pm 14)) (defBody (pm 14)) (defScope (pm 14)) .none kV doc pm_ an cdv ct), osl⟩) (c : PySem.W.codeIn K cdv "Pot.trial" = true) (k : PySem.W.keepIn K (.ref f) = true) : MDef K C "trial" "Pot.trial" (pm 14) ["self"] :=
  ⟨⟨f, _, ⟨a, i, k⟩, fun_mk l c k, (fun_mk (st := pm 14) l c k).binds (ps := ["self"]) fun _ _ _ _ _ _ us hl => match us, hl with | [_], _ => rfl⟩⟩
theorem mfT0 (a : PySem.W.findIn K (.ref C) "__init__" = some (some (.ref f))) (i : PySem.W.isFn K (.ref f) = true) (l : K.lookup f = some ⟨oc, od, .func (PySem.W.fnOf "__init__" "Trial.__init__" (defArgs (tm 0)) (defBody (tm 0)) (defScope (tm 0)) .none kV doc pm_ an cdv ct), osl⟩) (c : PySem.W.codeIn K cdv "Trial.__init__" = true) (k : PySem.W.keepIn K (.ref f) = true) : MDef K C "__init__" "Trial.__init__" (tm 0) ["self", "held_pot"] :=
  ⟨⟨f, _, ⟨a, i, k⟩, fun_mk l c k, (fun_mk (st := tm 0) l c k).binds (ps := ["self", "held_pot"]) fun _ _ _ _ _ _ us hl => match us, hl with | [_, _], _ => rfl⟩⟩
theorem mfT1 (a : PySem.W.findIn K (.ref C) "__enter__" = some (some (.ref f))) (i : PySem.W.isFn K (.ref f) = true) (l : K.lookup f = some ⟨oc, od, .func (PySem.W.fnOf "__enter__" "Trial.__enter__" (defArgs (tm 1)) (defBody (tm 1)) (defScope (tm 1)) .none kV doc pm_ an cdv ct), osl⟩) (c : PySem.W.codeIn K cdv "Trial.__enter__" = true) (k : PySem.W.keepIn K (.ref f) = true) : MDef K C "__enter__" "Trial.__enter__" (tm 1) ["self"] :=
  ⟨⟨f, _, ⟨a, i, k⟩, fun_mk l c k, (fun_mk (st := tm 1) l c k).binds (ps := ["self"]) fun _ _ _ _ _ _ us hl => match us, hl with | [_], _ => rfl⟩⟩
theorem mfT2 (a : PySem.W.findIn K (.ref C) "__exit__" = some (some (.ref f))) (i : PySem.W.isFn K (.ref f) = true) (l : K.lookup f = some ⟨oc, od, .func (PySem.W.fnOf "__exit__" "Trial.__exit__" (defArgs (tm 2)) (defBody (tm 2)) (defScope (tm 2)) .none kV doc pm_ an cdv ct), osl⟩) (c : PySem.W.codeIn K cdv "Trial.__exit__" = true) (k : PySem.W.keepIn K (.ref f) = true) : MDef K C "__exit__" "Trial.__exit__" (tm 2) ["self", "kind", "value", "trace"] :=
  ⟨⟨f, _, ⟨a, i, k⟩, fun_mk l c k, (fun_mk (st := tm 2) l c k).binds (ps := ["self", "kind", "value", "trace"]) fun _ _ _ _ _ _ us hl => match us, hl with | [_, _, _, _], _ => rfl⟩⟩
theorem gf1 (a : PySem.W.findIn K (.ref C) "deal" = some (some (.ref pA))) (b : PySem.W.specialIn K (.ref pA) "__get__" = some (some (.builtin "property.__get__"))) (t : PySem.W.takesIn K (.ref pA) = some true) (r : PySem.W.recIn K pA "property" = some (.ref f :: rest)) (l : K.lookup f = some ⟨oc, od, .func (PySem.W.fnOf "deal" "Pot.deal" (defArgs (pm 1)) (defBody (pm 1)) (defScope (pm 1)) .none kV doc pm_ an cdv ct), osl⟩) (c : PySem.W.codeIn K cdv "Pot.deal" = true) (k : PySem.W.keepIn K (.ref f) = true) : GDef K C "deal" "Pot.deal" (pm 1) :=
  ⟨⟨pA, f, _, ⟨a, b, t, rest, r⟩, fun_mk l c k, (fun_mk (st := pm 1) l c k).binds (ps := ["self"]) fun _ _ _ _ _ _ us hl => match us, hl with | [_], _ => rfl⟩⟩
theorem gf2 (a : PySem.W.findIn K (.ref C) "paid" = some (some (.ref pA))) (b : PySem.W.specialIn K (.ref pA) "__get__" = some (some (.builtin "property.__get__"))) (t : PySem.W.takesIn K (.ref pA) = some true) (r : PySem.W.recIn K pA "property" = some (.ref f :: rest)) (l : K.lookup f = some ⟨oc, od, .func (PySem.W.fnOf "paid" "Pot.paid" (defArgs (pm 2)) (defBody (pm 2)) (defScope (pm 2)) .none kV doc pm_ an cdv ct), osl⟩) (c : PySem.W.codeIn K cdv "Pot.paid" = true) (k : PySem.W.keepIn K (.ref f) = true) : GDef K C "paid" "Pot.paid" (pm 2) :=
  ⟨⟨pA, f, _, ⟨a, b, t, rest, r⟩, fun_mk l c k, (fun_mk (st := pm 2) l c k).binds (ps := ["self"]) fun _ _ _ _ _ _ us hl => match us, hl with | [_], _ => rfl⟩⟩
theorem gf3 (a : PySem.W.findIn K (.ref C) "has" = some (some (.ref pA))) (b : PySem.W.specialIn K (.ref pA) "__get__" = some (some (.builtin "property.__get__"))) (t : PySem.W.takesIn K (.ref pA) = some true) (r : PySem.W.recIn K pA "property" = some (.ref f :: rest)) (l : K.lookup f = some ⟨oc, od, .func (PySem.W.fnOf "has" "Pot.has" (defArgs (pm 3)) (defBody (pm 3)) (defScope (pm 3)) .none kV doc pm_ an cdv ct), osl⟩) (c : PySem.W.codeIn K cdv "Pot.has" = true) (k : PySem.W.keepIn K (.ref f) = true) : GDef K C "has" "Pot.has" (pm 3) :=
  ⟨⟨pA, f, _, ⟨a, b, t, rest, r⟩, fun_mk l c k, (fun_mk (st := pm 3) l c k).binds (ps := ["self"]) fun _ _ _ _ _ _ us hl => match us, hl with | [_], _ => rfl⟩⟩
/-- back(*, many=1) -/
structure BDef (K : PySem.W.Frag) (C : Addr) : Prop where
  ex : ∃ f fd, Meth K C "back" f ∧ Fun K "back" "Pot.back" (pm 12) f fd ∧ ∀ (s : Shared) (u v : Value), BindsTo s fd ⟨[u], [("many", v)]⟩ [("self", u), ("many", v)]
theorem bf (a : PySem.W.findIn K (.ref C) "back" = some (some (.ref f))) (i : PySem.W.isFn K (.ref f) = true) (l : K.lookup f = some ⟨oc, od, .func (PySem.W.fnOf "back" "Pot.back" (defArgs (pm 12)) (defBody (pm 12)) (defScope (pm 12)) .none kV doc pm_ an cdv ct), osl⟩) (c : PySem.W.codeIn K cdv "Pot.back" = true) (k : PySem.W.keepIn K (.ref f) = true) : BDef K C :=
  ⟨⟨f, _, ⟨a, i, k⟩, fun_mk l c k, fun s u v => .of_eq rfl⟩⟩
theorem funC_mk {cA : Addr} (l : K.lookup f = some ⟨oc, od, .func (PySem.W.fnOf "law" "law" (defArgs (top 46)) (defBody (top 46)) (defScope (top 46)) .none kV doc pm_ an (.ref cA) ct), osl⟩) (c : PySem.W.codeIn K (.ref cA) "law" = true) : FunC K "law" "law" (top 46) f (PySem.W.fnOf "law" "law" (defArgs (top 46)) (defBody (top 46)) (defScope (top 46)) .none kV doc pm_ an (.ref cA) ct) cA :=
  ⟨⟨oc, od, kV, doc, pm_, an, ct, osl, rfl, l, c⟩⟩
theorem tx_mk {t0 t1 t2 t3 t4 t5 t6 : Tok} (X : K.In h) (G : h.Ns mainGlobals mg) (z0 : PySem.W.nsIn K mainGlobals "isinstance" = some none) (z1 : PySem.W.nsIn K mainGlobals "int" = some none) (z2 : PySem.W.nsIn K mainGlobals "bool" = some none) (z3 : PySem.W.nsIn K mainGlobals "str" = some none) (z4 : PySem.W.nsIn K mainGlobals "tuple" = some none) (z5 : PySem.W.nsIn K mainGlobals "list" = some none) (z6 : PySem.W.nsIn K mainGlobals "dict" = some none) (z7 : PySem.W.nsIn K mainGlobals "len" = some none) (z8 : PySem.W.nsIn K mainGlobals "all" = some none) (z9 : PySem.W.nsIn K mainGlobals "any" = some none) (z10 : PySem.W.nsIn K mainGlobals "sum" = some none) (z11 : PySem.W.nsIn K mainGlobals "zip" = some none) (z12 : PySem.W.nsIn K mainGlobals "enumerate" = some none) (z13 : PySem.W.nsIn K mainGlobals "divmod" = some none) (z14 : PySem.W.nsIn K mainGlobals "min" = some none) (z15 : PySem.W.nsIn K mainGlobals "range" = some none) (z16 : PySem.W.nsIn K mainGlobals "sorted" = some none) (z17 : PySem.W.nsIn K mainGlobals "repr" = some none) (y0 : PySem.W.nsIn K mainGlobals "MOST_NAMES" = some (some (.int 6 t0))) (y1 : PySem.W.nsIn K mainGlobals "MOST_SIGNS" = some (some (.int 6 t1))) (y2 : PySem.W.nsIn K mainGlobals "MOST_COINS" = some (some (.int 1000000000000 t2))) (y3 : PySem.W.nsIn K mainGlobals "MOST_FIGURES" = some (some (.int 400 t3))) (y4 : PySem.W.nsIn K mainGlobals "MOST_RUNS" = some (some (.int 60 t4))) (y5 : PySem.W.nsIn K mainGlobals "LETTERS" = some (some (.str "abcdefghijklmnopqrstuvwxyz" t5))) (y6 : PySem.W.nsIn K mainGlobals "DIGITS" = some (some (.str "0123456789" t6))) : TX mg :=
  ⟨PySem.W.mg_none_of X G z0, PySem.W.mg_none_of X G z1, PySem.W.mg_none_of X G z2, PySem.W.mg_none_of X G z3, PySem.W.mg_none_of X G z4, PySem.W.mg_none_of X G z5, PySem.W.mg_none_of X G z6, PySem.W.mg_none_of X G z7, PySem.W.mg_none_of X G z8, PySem.W.mg_none_of X G z9, PySem.W.mg_none_of X G z10, PySem.W.mg_none_of X G z11, PySem.W.mg_none_of X G z12, PySem.W.mg_none_of X G z13, PySem.W.mg_none_of X G z14, PySem.W.mg_none_of X G z15, PySem.W.mg_none_of X G z16, PySem.W.mg_none_of X G z17, ⟨_, PySem.W.mg_of X G y0⟩, ⟨_, PySem.W.mg_of X G y1⟩, ⟨_, PySem.W.mg_of X G y2⟩, ⟨_, PySem.W.mg_of X G y3⟩, ⟨_, PySem.W.mg_of X G y4⟩, ⟨_, PySem.W.mg_of X G y5⟩, ⟨_, PySem.W.mg_of X G y6⟩⟩
end
section
variable {P : Program} {w : World} {K : PySem.W.Frag} {mg : Str → Option Value} {base : Heap} {C CT : Addr}
theorem d_backF (T : TX mg) (c : PotC K C) (D : BDef K C) (C1 : Callee P w K mg base "is_whole" 1 ["thing", "least", "most"] (spD K RWhole)) : BCal P w K mg base C := by
  obtain ⟨f, fd, h1, h2, h3⟩ := D.ex
  refine ⟨f, fd, h1, h2.ok (k := 1) sc312 (fun vs H Q E h => ?_) fun cdv A outer sh H vs Q E hr h => ⟨_, wSs_ok (F := un (dCx P w K mg base n312 "Pot.back" (pm 12) f cdv A outer sh H E)) (), ?_⟩, h3⟩
  · obtain ⟨Hd, a, fs, us, ts, r, fs', rfl, _, _, ia, ⟨s, past, m, s', _, _, rfl, _⟩, _⟩ := h
    rw [List.length_cons, ia.length]
    rfl
  · obtain ⟨Hd, a, fs, us, ts, r, fs', rfl, ex, hi, ia, hR, q⟩ := h
    have en := env_start (K := K) (Hd := Hd) n312 (ts := .raw (.ref a) :: ts) (.cons (.raw (.ref a)) ia)
    obtain ⟨s, past, m, s', rfl, hl, rfl, h1, h2, hs', rfl, rfl⟩ := hR
    have el : (((past.map encStand).length : Nat) : Int) - (m : Int) = ((past.length - m : Nat) : Int) := by
      rw [List.length_map]
      omega
    have e1 : (past.map encStand)[past.length - m]? = some (encStand s') := by rw [List.getElem?_map, hs']; rfl
    have e2 : putFD fPa (.tup ((past.map encStand).take (past.length - m))) (putFD fSt (encStand s') (potF s past)) = potF s' (past.take (past.length - m)) := by
      unfold potF
      rw [← List.map_take]
      rfl
    have all : SvI K (wSs (un (dCx P w K mg base n312 "Pot.back" (pm 12) f cdv A outer sh H E)) (defBody (pm 12))) (startD n312 [.raw (.ref a), .int (m : Int)]) (((StI (· = a) Hd H).and MP.tt).and (InsI K C a (potF s past))) [some (.raw (.ref a)), some (.int (m : Int)), some (.int ((past.length - m : Nat) : Int))] (((StI (· = a) Hd H).and MP.tt).and (InsI K C a (potF s' (past.take (past.length - m))))) :=
      si_cons (svi_of (s_ifN (et_is (t_not (t_val (x_call (fun _ => C1) (fun _ => hr) (a_cons (x_var 1) (a_two x_int (x_op (fun _ => op_pow) x_int x_int (rd_iic ⟨by decide, by decide, by decide⟩)))) ⟨m, 1, 10 ^ 40, rfl, rfl⟩))) (by
        rw [decide_eq_true (show (1 : Int) ≤ (m : Int) by omega), decide_eq_true (show (m : Int) ≤ 10 ^ 40 by omega)]
        rfl))))
      (si_cons (svi_of (s_ifN (et_is (t_cmp (fun _ => op_gt) (x_var 1) (x_lenT T (x_pa c (fun _ _ z => z.2) (x_var 0))) rd_ib (nomark _)) (by
        rw [List.length_map]
        exact decide_eq_false (by omega)))))
      (si_cons (svi_of (s_set 2 (fun _ => sc312.nd) (ed_is (x_sub (x_lenT T (x_pa c (fun _ _ z => z.2) (x_var 0))) (x_var 1)) (congrArg Dt.int el))))
      (si_cons (si_fld (.inl rfl) (fun _ _ _ _ => True.intro) (x_var 0) (x_ixT (past.length - m) (x_pa c (fun _ _ z => z.2) (x_var 0)) (x_var 2) rfl e1) c.cls c.st)
      (si_one (svi_to (si_fld (.inl rfl) (fun _ _ _ _ => True.intro) (x_var 0) (ed_is (x_slT (x_fld (fun _ _ z => z.2) (x_var 0) rfl c.cls c.pa) o_none (o_some (x_var 2))) (congrArg (Dt.tp false) (cutD_take (past.map encStand) (past.length - m)))) c.cls c.pa) rfl (by rw [e2]))))))
    exact all _ Hd H ex en ⟨⟨.refl ex, True.intro⟩, hi⟩ _ fun σ1 Hd1 H1 u1 ex1 en1 p1 => q .non Hd1 H1 p1.1.1 p1.2 .non
theorem lawx_mk (T : TX mg) (hP : mg "Pot" = some (.ref C)) (hT : mg "Trial" = some (.ref CT)) (pc : PotC K C) (pi : PotI K C) (mk : MkC K C) (tc : TriC K CT) (mkT : MkC K CT) (D14 : DefAt K mg "is_whole" (top 14) ["thing", "least", "most"]) (D15 : DefAt K mg "is_word" (top 15) ["thing"]) (D16 : DefAt K mg "are_names" (top 16) ["thing"]) (D17 : DefAt K mg "are_figures" (top 17) ["many", "thing"]) (D18 : DefAt K mg "is_run" (top 18) ["many", "thing", "is_last"]) (D19 : DefAt K mg "need_deal" (top 19) ["thing"]) (D20 : DefAt K mg "figure_of" (top 20) ["names", "name"]) (D21 : DefAt K mg "count_in" (top 21) ["figures", "figure", "coins"]) (D22 : DefAt K mg "parts_of" (top 22) ["runs", "coins"]) (D23 : DefAt K mg "count_by" (top 23) ["runs", "figure", "coins"]) (D24 : DefAt K mg "has_in" (top 24) ["deal", "coins"]) (D25 : DefAt K mg "reach_in" (top 25) ["runs", "figure", "many"]) (D27 : DefAt K mg "under" (top 27) ["manager", "deed"]) (D28 : DefAt K mg "joined" (top 28) ["had", "names", "more"]) (D32 : DefAt K mg "_law_begun" (top 32) ["_law_script"]) (D33 : DefAt K mg "_law_draw" (top 33) ["_law_m", "_law_limit"]) (D34 : DefAt K mg "_law_of" (top 34) ["_law_m", "_law_some"]) (D35 : DefAt K mg "_law_people" (top 35) ["_law_m", "_law_most"]) (D36 : DefAt K mg "_law_figures" (top 36) ["_law_m", "_law_total", "_law_long"]) (D37 : DefAt K mg "_law_runs" (top 37) ["_law_m", "_law_total", "_law_count", "_law_top", "_law_long"]) (D38 : DefAt K mg "_law_deal" (top 38) ["_law_m", "_law_most", "_law_count", "_law_top", "_law_long"]) (D39 : DefAt K mg "_law_row" (top 39) ["_law_runs_here", "_law_size"]) (D40 : DefAt K mg "_law_names_in" (top 40) ["_law_film"]) (D41 : DefAt K mg "_law_had" (top 41) ["_law_film"]) (D42 : DefAt K mg "_law_stands" (top 42) ["_law_pot", "_law_film"]) (D43 : DefAt K mg "_law_brought" (top 43) ["_law_film", "_law_coins"]) (D44 : DefAt K mg "_law_done" (top 44) ["_law_pot", "_law_deed"]) (D45 : DefAt K mg "_law_behind" (top 45) ["_law_film", "_law_deed"]) (M0 : MDef K C "__init__" "Pot.__init__" (pm 0) ["self", "deal"]) (M4 : MDef K C "go_on" "Pot.go_on" (pm 4) ["self", "stand"]) (M5 : MDef K C "__call__" "Pot.__call__" (pm 5) ["self", "coins"]) (M6 : MDef K C "change" "Pot.change" (pm 6) ["self", "deal"]) (M7 : MDef K C "owed" "Pot.owed" (pm 7) ["self", "name"]) (M8 : MDef K C "__len__" "Pot.__len__" (pm 8) ["self"]) (M10 : MDef K C "__contains__" "Pot.__contains__" (pm 10) ["self", "x"]) (M11 : MDef K C "__eq__" "Pot.__eq__" (pm 11) ["self", "other"]) (M13 : MDef K C "copy" "Pot.copy" (pm 13) ["self"]) (M14 : MDef K C "trial" "Pot.trial" (pm 14) ["self"]) (T0 : MDef K CT "__init__" "Trial.__init__" (tm 0) ["self", "held_pot"]) (T1 : MDef K CT "__enter__" "Trial.__enter__" (tm 1) ["self"]) (T2 : MDef K CT "__exit__" "Trial.__exit__" (tm 2) ["self", "kind", "value", "trace"]) (G1 : GDef K C "deal" "Pot.deal" (pm 1)) (G2 : GDef K C "paid" "Pot.paid" (pm 2)) (G3 : GDef K C "has" "Pot.has" (pm 3)) (B : BDef K C) (P : Program) (w : World) (base : Heap) : LawX P w K mg base C CT := by
  have c14 := d_is_whole (P := P) (w := w) (base := base) (mg := mg) T D14
  have c15 := d_is_word (P := P) (w := w) (base := base) (mg := mg) T D15
  have c16 := d_are_names (P := P) (w := w) (base := base) (mg := mg) T D16 c15
  have c17 := d_are_figures (P := P) (w := w) (base := base) (mg := mg) T D17
  have c18 := d_is_run (P := P) (w := w) (base := base) (mg := mg) T D18 c17 c14
  have c19 := d_need_deal (P := P) (w := w) (base := base) (mg := mg) T D19 c16 c18
  have c20 := d_figure_of (P := P) (w := w) (base := base) (mg := mg) T D20
  have c21 := d_count_in (P := P) (w := w) (base := base) (mg := mg) T D21
  have c22 := d_parts_of (P := P) (w := w) (base := base) (mg := mg) T D22
  have c23 := d_count_by (P := P) (w := w) (base := base) (mg := mg) T D23 c22 c21
  have c24 := d_has_in (P := P) (w := w) (base := base) (mg := mg) T D24 c23
  have c25 := d_reach_in (P := P) (w := w) (base := base) (mg := mg) T D25 c21
  have c28 := d_joined (P := P) (w := w) (base := base) (mg := mg) T D28
  have c32 := d_begun (P := P) (w := w) (base := base) (mg := mg) T D32
  have c33 := d_draw (P := P) (w := w) (base := base) (mg := mg) T D33
  have c34 := d_of (P := P) (w := w) (base := base) (mg := mg) T D34 c33
  have c35 := d_people (P := P) (w := w) (base := base) (mg := mg) T D35 c33 c34
  have c36 := d_figures (P := P) (w := w) (base := base) (mg := mg) T D36 c33
  have c37 := d_runs (P := P) (w := w) (base := base) (mg := mg) T D37 c33 c36
  have c38 := d_dealt (P := P) (w := w) (base := base) (mg := mg) T D38 c35 c37
  have c39 := d_row (P := P) (w := w) (base := base) (mg := mg) T D39
  have c40 := d_names_in (P := P) (w := w) (base := base) (mg := mg) T D40
  have c41 := d_had (P := P) (w := w) (base := base) (mg := mg) T D41 c40 c39
  have c43 := d_brought (P := P) (w := w) (base := base) (mg := mg) T D43 c41
  have c45 := d_behind (P := P) (w := w) (base := base) (mg := mg) T D45 c43
  have m0 := d_init (P := P) (w := w) (base := base) (mg := mg) T pc M0 c19 c28
  have m4 := d_go_on (P := P) (w := w) (base := base) (mg := mg) pc M4
  have m5 := d_pay (P := P) (w := w) (base := base) (mg := mg) T pc M5 m4 c14 c24 c28
  have m6 := d_change (P := P) (w := w) (base := base) (mg := mg) T pc M6 m4 c19 c28
  have m7 := d_owed (P := P) (w := w) (base := base) (mg := mg) T pc M7 c20 c23 c25
  have m8 := d_len (P := P) (w := w) (base := base) (mg := mg) T pc M8
  have m10 := d_in (P := P) (w := w) (base := base) (mg := mg) T pc M10
  have m11 := d_eq (P := P) (w := w) (base := base) (mg := mg) T hP pc pi M11
  have m13 := d_copy (P := P) (w := w) (base := base) (mg := mg) T hP pc mk M13 m0
  have t0 := d_tinit (P := P) (w := w) (base := base) (mg := mg) tc T0
  have m14 := d_trial (P := P) (w := w) (base := base) (mg := mg) hT mkT M14 t0
  have t1 := d_enter (P := P) (w := w) (base := base) (mg := mg) pc tc T1
  have t2 := d_exit (P := P) (w := w) (base := base) (mg := mg) pc tc T2
  have g1 := d_deal (P := P) (w := w) (base := base) (mg := mg) pc G1
  have g2 := d_paid (P := P) (w := w) (base := base) (mg := mg) pc G2
  have g3 := d_has (P := P) (w := w) (base := base) (mg := mg) pc G3
  have c42 := d_stands (P := P) (w := w) (base := base) (mg := mg) T pc D42 c41 c39 g1 g2 g3 m8.sp m10.sp m7
  have c44 := d_done (P := P) (w := w) (base := base) (mg := mg) T pc D44 (m5.cc M5) m6
  exact ⟨T, hP, pc, pi, mk, c33, c38, c32, c45, c44, c42, D27, m0, m5.cc M5, m6, m13, m14, d_backF T pc B c14, m8.sp, m11.sp, g2, g3, m7, t1.sp, t2.sp⟩
/-- what is asked of the head -/
theorem law_at {l : PySem.W.OpenLaw} {h : Heap} {fa cA Pt : Addr} {fd : FuncData} (X : K.In h) (G : h.Ns mainGlobals mg) (hfa : mg "law" = some (.ref fa)) {f : Addr} (a : PySem.W.nsIn K mainGlobals "law" = some (some (.ref f))) (LX : ∀ (P : Program) (w : World) (base : Heap), LawX P w K mg base C CT) (F : FunC K "law" "law" (top 46) f fd cA)
    (hb : ∀ (s : Shared) (u : Value), BindsTo s fd ⟨[u], []⟩ [("_law_script", u)]) (h1 : h.get? Pt = some { cls := .none, data := .fields #[] }) (h2 : K.lookup Pt = none) (h3 : PySem.W.CodeHd h cA Pt) : LawAtG l w K CX0 8 63 "_law_script" mg fa h := by
  have e := hfa.symm.trans (PySem.W.mg_of X G a)
  cases e
  exact ⟨fd, [(cA, Pt)], LawSp K Pt, ⟨fun p hp => by rw [List.mem_singleton.mp hp]; exact h1, fun p hp => by rw [List.mem_singleton.mp hp]; exact h2, fun p hp => by rw [List.mem_singleton.mp hp]; exact h3⟩, hb,
    fun H a ns hl _ hp hS => ⟨a, ns, rfl, hS, by omega, hp _ (List.mem_singleton.mpr rfl), fun _ => rfl⟩, fun base _ _ TB => d_law (LX _ _ _) (TB _ (List.mem_singleton.mpr rfl)) F⟩
end
end SP
/-! End0 -/
open PySem PySem.W PyProof.Rows
set_option maxRecDepth 100000 in
set_option maxHeartbeats 0 in
theorem PySem.Challenge.cw_stairpay_k20_whole_pots_holds : PySem.Challenge.rw_stairpay_k20_whole_pots.Holds := by
  w_on; o_law; k_head; (case hw => w_witness2)
  k_fill
  refine SP.walk_ofG (l := PySem.Challenge.rw_stairpay_k20_whole_pots) (n := 63) (k := 8) (x := "_law_script") rfl (by decide) rfl ⟨rfl, by decide, by decide⟩ (fun w h Y => PySem.W.km_in_of Y) ?F
  case F =>
    intro w mg fa h Y KX G hmg
    refine' SP.law_at KX G hmg ?a46 ?LX (SP.funC_mk ?l46 ?c46) (fun s u => .of_eq rfl) (PySem.W.km_tabs_of Y _ List.mem_cons_self) ?h2 ?h3
    (case a46 => k_is); (case l46 => k_is); (case c46 => k_is)
    (case h2 => kernel_rfl)
    (case h3 => exact PySem.W.codeHd_of_K KX (by kernel_rfl))
    case LX =>
      intro P2 w2 base
      refine' SP.lawx_mk ?T (PySem.W.mg_of KX G ?aP) (PySem.W.mg_of KX G ?aT) ⟨⟨?pg, ?hd, ?po, ?sa⟩, ?n1, ?n2⟩ ⟨?i1, ?i2, ?i3, ?i4, SP.noInt_mk ?j1 ?j2 ?j3, ?i6, ?i7, ?i8⟩ ⟨?mk1, ?mk2⟩ ⟨⟨?tpg, ?thd, ?tpo, ?tsa⟩, ?tn1, ?tn2, ?tn3⟩ ⟨?tmk1, ?tmk2⟩ ?D14 ?D15 ?D16 ?D17 ?D18 ?D19 ?D20 ?D21 ?D22 ?D23 ?D24 ?D25 ?D27 ?D28 ?D32 ?D33 ?D34 ?D35 ?D36 ?D37 ?D38 ?D39 ?D40 ?D41 ?D42 ?D43 ?D44 ?D45 ?M0 ?M4 ?M5 ?M6 ?M7 ?M8 ?M10 ?M11 ?M13 ?M14 ?T0 ?T1 ?T2 ?G1 ?G2 ?G3 ?B P2 w2 base
      (case aP => k_is)
      (case aT => k_is)
      (case pg => k_is)
      (case hd => k_is)
      (case po => k_is)
      (case sa => k_is)
      (case n1 => unfold L2.NoAttr; k_is)
      (case n2 => unfold L2.NoAttr; k_is)
      (case i1 => k_is)
      (case i2 => k_is)
      (case i3 => k_is)
      (case i4 => k_is)
      (case j1 => k_is)
      (case j2 => k_is)
      (case j3 => k_is)
      (case i6 => k_is)
      (case i7 => k_is)
      (case i8 => k_is)
      (case mk1 => k_is)
      (case mk2 => k_is)
      (case tpg => k_is)
      (case thd => k_is)
      (case tpo => k_is)
      (case tsa => k_is)
      (case tn1 => unfold L2.NoAttr; k_is)
      (case tn2 => unfold L2.NoAttr; k_is)
      (case tn3 => unfold L2.NoAttr; k_is)
      (case tmk1 => k_is)
      (case tmk2 => k_is)
      (case T => refine' SP.tx_mk KX G ?z0 ?z1 ?z2 ?z3 ?z4 ?z5 ?z6 ?z7 ?z8 ?z9 ?z10 ?z11 ?z12 ?z13 ?z14 ?z15 ?z16 ?z17 ?y0 ?y1 ?y2 ?y3 ?y4 ?y5 ?y6; (case z0 => k_is); (case z1 => k_is); (case z2 => k_is); (case z3 => k_is); (case z4 => k_is); (case z5 => k_is); (case z6 => k_is); (case z7 => k_is); (case z8 => k_is); (case z9 => k_is); (case z10 => k_is); (case z11 => k_is); (case z12 => k_is); (case z13 => k_is); (case z14 => k_is); (case z15 => k_is); (case z16 => k_is); (case z17 => k_is); (case y0 => k_is); (case y1 => k_is); (case y2 => k_is); (case y3 => k_is); (case y4 => k_is); (case y5 => k_is); (case y6 => k_is))
      (case D14 => refine' SP.df14 KX G ?a ?l ?c ?k; (case a => k_is); (case l => k_is); (case c => k_is); (case k => k_is))
      (case D15 => refine' SP.df15 KX G ?a ?l ?c ?k; (case a => k_is); (case l => k_is); (case c => k_is); (case k => k_is))
      (case D16 => refine' SP.df16 KX G ?a ?l ?c ?k; (case a => k_is); (case l => k_is); (case c => k_is); (case k => k_is))
      (case D17 => refine' SP.df17 KX G ?a ?l ?c ?k; (case a => k_is); (case l => k_is); (case c => k_is); (case k => k_is))
      (case D18 => refine' SP.df18 KX G ?a ?l ?c ?k; (case a => k_is); (case l => k_is); (case c => k_is); (case k => k_is))
      (case D19 => refine' SP.df19 KX G ?a ?l ?c ?k; (case a => k_is); (case l => k_is); (case c => k_is); (case k => k_is))
      (case D20 => refine' SP.df20 KX G ?a ?l ?c ?k; (case a => k_is); (case l => k_is); (case c => k_is); (case k => k_is))
      (case D21 => refine' SP.df21 KX G ?a ?l ?c ?k; (case a => k_is); (case l => k_is); (case c => k_is); (case k => k_is))
      (case D22 => refine' SP.df22 KX G ?a ?l ?c ?k; (case a => k_is); (case l => k_is); (case c => k_is); (case k => k_is))
      (case D23 => refine' SP.df23 KX G ?a ?l ?c ?k; (case a => k_is); (case l => k_is); (case c => k_is); (case k => k_is))
      (case D24 => refine' SP.df24 KX G ?a ?l ?c ?k; (case a => k_is); (case l => k_is); (case c => k_is); (case k => k_is))
      (case D25 => refine' SP.df25 KX G ?a ?l ?c ?k; (case a => k_is); (case l => k_is); (case c => k_is); (case k => k_is))
      (case D27 => refine' SP.df27 KX G ?a ?l ?c ?k; (case a => k_is); (case l => k_is); (case c => k_is); (case k => k_is))
      (case D28 => refine' SP.df28 KX G ?a ?l ?c ?k; (case a => k_is); (case l => k_is); (case c => k_is); (case k => k_is))
      (case D32 => refine' SP.df32 KX G ?a ?l ?c ?k; (case a => k_is); (case l => k_is); (case c => k_is); (case k => k_is))
      (case D33 => refine' SP.df33 KX G ?a ?l ?c ?k; (case a => k_is); (case l => k_is); (case c => k_is); (case k => k_is))
      (case D34 => refine' SP.df34 KX G ?a ?l ?c ?k; (case a => k_is); (case l => k_is); (case c => k_is); (case k => k_is))
      (case D35 => refine' SP.df35 KX G ?a ?l ?c ?k; (case a => k_is); (case l => k_is); (case c => k_is); (case k => k_is))
      (case D36 => refine' SP.df36 KX G ?a ?l ?c ?k; (case a => k_is); (case l => k_is); (case c => k_is); (case k => k_is))
      (case D37 => refine' SP.df37 KX G ?a ?l ?c ?k; (case a => k_is); (case l => k_is); (case c => k_is); (case k => k_is))
      (case D38 => refine' SP.df38 KX G ?a ?l ?c ?k; (case a => k_is); (case l => k_is); (case c => k_is); (case k => k_is))
      (case D39 => refine' SP.df39 KX G ?a ?l ?c ?k; (case a => k_is); (case l => k_is); (case c => k_is); (case k => k_is))
      (case D40 => refine' SP.df40 KX G ?a ?l ?c ?k; (case a => k_is); (case l => k_is); (case c => k_is); (case k => k_is))
      (case D41 => refine' SP.df41 KX G ?a ?l ?c ?k; (case a => k_is); (case l => k_is); (case c => k_is); (case k => k_is))
      (case D42 => refine' SP.df42 KX G ?a ?l ?c ?k; (case a => k_is); (case l => k_is); (case c => k_is); (case k => k_is))
      (case D43 => refine' SP.df43 KX G ?a ?l ?c ?k; (case a => k_is); (case l => k_is); (case c => k_is); (case k => k_is))
      (case D44 => refine' SP.df44 KX G ?a ?l ?c ?k; (case a => k_is); (case l => k_is); (case c => k_is); (case k => k_is))
      (case D45 => refine' SP.df45 KX G ?a ?l ?c ?k; (case a => k_is); (case l => k_is); (case c => k_is); (case k => k_is))
      (case M0 => refine' SP.mfM0 ?a ?i ?l ?c ?k; (case a => k_is); (case i => k_is); (case l => k_is); (case c => k_is); (case k => k_is))
      (case M4 => refine' SP.mfM4 ?a ?i ?l ?c ?k; (case a => k_is); (case i => k_is); (case l => k_is); (case c => k_is); (case k => k_is))
      (case M5 => refine' SP.mfM5 ?a ?i ?l ?c ?k; (case a => k_is); (case i => k_is); (case l => k_is); (case c => k_is); (case k => k_is))
      (case M6 => refine' SP.mfM6 ?a ?i ?l ?c ?k; (case a => k_is); (case i => k_is); (case l => k_is); (case c => k_is); (case k => k_is))
      (case M7 => refine' SP.mfM7 ?a ?i ?l ?c ?k; (case a => k_is); (case i => k_is); (case l => k_is); (case c => k_is); (case k => k_is))
      (case M8 => refine' SP.mfM8 ?a ?i ?l ?c ?k; (case a => k_is); (case i => k_is); (case l => k_is); (case c => k_is); (case k => k_is))
      (case M10 => refine' SP.mfM10 ?a ?i ?l ?c ?k; (case a => k_is); (case i => k_is); (case l => k_is); (case c => k_is); (case k => k_is))
      (case M11 => refine' SP.mfM11 ?a ?i ?l ?c ?k; (case a => k_is); (case i => k_is); (case l => k_is); (case c => k_is); (case k => k_is))
      (case M13 => refine' SP.mfM13 ?a ?i ?l ?c ?k; (case a => k_is); (case i => k_is); (case l => k_is); (case c => k_is); (case k => k_is))
      (case M14 => refine' SP.mfM14 ?a ?i ?l ?c ?k; (case a => k_is); (case i => k_is); (case l => k_is); (case c => k_is); (case k => k_is))
      (case T0 => refine' SP.mfT0 ?a ?i ?l ?c ?k; (case a => k_is); (case i => k_is); (case l => k_is); (case c => k_is); (case k => k_is))
      (case T1 => refine' SP.mfT1 ?a ?i ?l ?c ?k; (case a => k_is); (case i => k_is); (case l => k_is); (case c => k_is); (case k => k_is))
      (case T2 => refine' SP.mfT2 ?a ?i ?l ?c ?k; (case a => k_is); (case i => k_is); (case l => k_is); (case c => k_is); (case k => k_is))
      (case G1 => refine' SP.gf1 ?a ?b ?t ?r ?l ?c ?k; (case a => k_is); (case b => k_is); (case t => k_is); (case r => k_is); (case l => k_is); (case c => k_is); (case k => k_is))
      (case G2 => refine' SP.gf2 ?a ?b ?t ?r ?l ?c ?k; (case a => k_is); (case b => k_is); (case t => k_is); (case r => k_is); (case l => k_is); (case c => k_is); (case k => k_is))
      (case G3 => refine' SP.gf3 ?a ?b ?t ?r ?l ?c ?k; (case a => k_is); (case b => k_is); (case t => k_is); (case r => k_is); (case l => k_is); (case c => k_is); (case k => k_is))
      (case B => refine' SP.bf ?a ?i ?l ?c ?k; (case a => k_is); (case i => k_is); (case l => k_is); (case c => k_is); (case k => k_is))
