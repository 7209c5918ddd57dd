import PyProof.Rows.All
import Wide.All
import OpenK.AllK
import Wide.FinOn
import HandS.ForMost
import HandS.ForExc
import HandS.Wide
import HandS.Zip
import HandS.TupAny
import HandS.Flow
import HandS.IsInst
import HandS.Walk
import HandS.WideBits
import HandS.Style
import KE.DataMinMax
import KE.DataCmp
import HandS.Conv
import HandS.NoneIn
import KE.GoesEnum
import HandS.Sort
import KE.KDictZip
import HandS.ListItems
import KE.SortData
import HandS.Ends
import PySem.Challenge.RW_nevermisread_k10_whole_clocks_and_times
set_option Elab.async false
set_option linter.all false
set_option maxRecDepth 100000
/-! Pv, part A: pure values, ownership, the relation between slots and pure values, steps. -/
namespace Pv
open PySem PySem.Spec L2
abbrev Reg := Addr → Prop
inductive Ow where | fr | ow | lk
  deriving DecidableEq
structure SV where
  d : PyData
  o : Ow
abbrev PEnv := List (Option SV)
inductive R (α : Type) where
  | ok (a : α) (ρ : PEnv)
  | exc (c : Str) (d : PyData)
  | bad
def M (α : Type) := PEnv → R α
def M.pure {α : Type} (a : α) : M α := fun ρ => .ok a ρ
def M.bind {α β : Type} (f : M α) (g : α → M β) : M β := fun ρ =>
  match f ρ with
  | .ok a ρ' => g a ρ'
  | .exc c d => .exc c d
  | .bad => .bad
instance : Monad M where
  pure := M.pure
  bind := M.bind
def M.bad {α : Type} : M α := fun _ => .bad
def M.exc {α : Type} (c : Str) (d : PyData) : M α := fun _ => .exc c d
theorem bind_ok {α β : Type} {f : M α} {g : α → M β} {ρ ρ' : PEnv} {a : α} (h : f ρ = .ok a ρ') : (f >>= g) ρ = g a ρ' := by
  show M.bind f g ρ = _
  unfold M.bind; rw [h]
theorem bind_exc {α β : Type} {f : M α} {g : α → M β} {ρ : PEnv} {c : Str} {d : PyData} (h : f ρ = .exc c d) : (f >>= g) ρ = .exc c d := by
  show M.bind f g ρ = _
  unfold M.bind; rw [h]
theorem bind_bad {α β : Type} {f : M α} {g : α → M β} {ρ : PEnv} (h : f ρ = .bad) : (f >>= g) ρ = .bad := by
  show M.bind f g ρ = _
  unfold M.bind; rw [h]
theorem pure_ok {α : Type} {a : α} {ρ : PEnv} : (Pure.pure a : M α) ρ = .ok a ρ := rfl

def kD : Key → PyData
  | .inl i => .int i
  | .inr x => .str x
/-- a list of the written part -/
def KLs (K : PySem.W.Frag) (a : Addr) (xs : List V) : Prop := ∃ (o : Obj) (its : Array Value) (n : Nat), K.lookup a = some o ∧ o.cls = .type "list" ∧ o.dict = none ∧ o.data = .seq its n ∧ its.size ≤ sizeLine ∧ Vals xs its.toList
/-- a list that never changes -/
def LsK (K : PySem.W.Frag) (F : Reg) (H : Hp) (a : Addr) (xs : List V) : Prop :=
  (F a ∧ H a = some (.lst xs)) ∨ (∃ o, H a = some (.frz o (.lst xs))) ∨ KLs K a xs
theorem LsK.sql {K : PySem.W.Frag} {F : Reg} {H : Hp} {a : Addr} {xs : List V} (h : LsK K F H a xs) : SqL K H a xs := by
  rcases h with ⟨_, h⟩ | h | h
  · exact .inl (.inl h)
  · exact .inl (.inr h)
  · exact .inr h
mutual
/-- v, over H, is the pure value; all that may change lies in the frozen region F -/
inductive Rp (K : PySem.W.Frag) (F : Reg) (H : Hp) : V → PyData → Prop
  | non : Rp K F H .non .none
  | bl (b : Bool) : Rp K F H (.bl b) (.bool b)
  | int (i : Int) : Rp K F H (.int i) (.int i)
  | str (x : Str) : Rp K F H (.str x) (.str x)
  | tup {a : Addr} {xs : List V} {ds : List PyData} : H a = some (.tup xs) → RpL K F H xs ds → Rp K F H (.ref a) (.tuple ds)
  | lst {a : Addr} {xs : List V} {ds : List PyData} : LsK K F H a xs → RpL K F H xs ds → Rp K F H (.ref a) (.list ds)
  | dik {a : Addr} {kvs : List (Key × V)} {ds : List (PyData × PyData)} : F a → Rd H a (.dK kvs) → RpK K F H kvs ds → Rp K F H (.ref a) (.dict ds)
  | dit {a : Addr} {kvs : List (List Key × V)} {ds : List (PyData × PyData)} : F a → Rd H a (.dT kvs) → RpT K F H kvs ds → Rp K F H (.ref a) (.dict ds)
inductive RpL (K : PySem.W.Frag) (F : Reg) (H : Hp) : List V → List PyData → Prop
  | nil : RpL K F H [] []
  | cons {v : V} {vs : List V} {d : PyData} {ds : List PyData} : Rp K F H v d → RpL K F H vs ds → RpL K F H (v :: vs) (d :: ds)
inductive RpK (K : PySem.W.Frag) (F : Reg) (H : Hp) : List (Key × V) → List (PyData × PyData) → Prop
  | nil : RpK K F H [] []
  | cons {k : Key} {v : V} {vs : List (Key × V)} {d : PyData} {ds : List (PyData × PyData)} : Rp K F H v d → RpK K F H vs ds → RpK K F H ((k, v) :: vs) ((kD k, d) :: ds)
inductive RpT (K : PySem.W.Frag) (F : Reg) (H : Hp) : List (List Key × V) → List (PyData × PyData) → Prop
  | nil : RpT K F H [] []
  | cons {k : List Key} {v : V} {vs : List (List Key × V)} {d : PyData} {ds : List (PyData × PyData)} : Rp K F H v d → RpT K F H vs ds → RpT K F H ((k, v) :: vs) ((.tuple (k.map kD), d) :: ds)
end
section
variable {K : PySem.W.Frag} {F F' W : Reg} {H H' : Hp}
/-- what stays where all readable things of the frozen region, all tuples, all frozen lists stay -/
structure Stay (F : Reg) (H : Hp) (F' : Reg) (H' : Hp) : Prop where
  mono : ∀ a, F a → F' a
  rd : ∀ a u, F a → Rd H a u → Rd H' a u
  ls : ∀ a xs, F a → H a = some (.lst xs) → H' a = some (.lst xs)
  tup : ∀ a xs, H a = some (.tup xs) → H' a = some (.tup xs)
  frz : ∀ a o xs, H a = some (.frz o (.lst xs)) → H' a = some (.frz o (.lst xs))
theorem Stay.lsk (s : Stay F H F' H') {a : Addr} {xs : List V} (h : LsK K F H a xs) : LsK K F' H' a xs := by
  rcases h with ⟨f, h⟩ | ⟨o, h⟩ | h
  · exact .inl ⟨s.mono _ f, s.ls _ _ f h⟩
  · exact .inr (.inl ⟨o, s.frz _ _ _ h⟩)
  · exact .inr (.inr h)
mutual
theorem Rp.stay (s : Stay F H F' H') : ∀ {v : V} {d : PyData}, Rp K F H v d → Rp K F' H' v d
  | _, _, .non => .non
  | _, _, .bl b => .bl b
  | _, _, .int i => .int i
  | _, _, .str x => .str x
  | _, _, .tup h r => .tup (s.tup _ _ h) (RpL.stay s r)
  | _, _, .lst h r => .lst (s.lsk h) (RpL.stay s r)
  | _, _, .dik f h r => .dik (s.mono _ f) (s.rd _ _ f h) (RpK.stay s r)
  | _, _, .dit f h r => .dit (s.mono _ f) (s.rd _ _ f h) (RpT.stay s r)
theorem RpL.stay (s : Stay F H F' H') : ∀ {v : List V} {d : List PyData}, RpL K F H v d → RpL K F' H' v d
  | _, _, .nil => .nil
  | _, _, .cons h r => .cons (Rp.stay s h) (RpL.stay s r)
theorem RpK.stay (s : Stay F H F' H') : ∀ {v : List (Key × V)} {d : List (PyData × PyData)}, RpK K F H v d → RpK K F' H' v d
  | _, _, .nil => .nil
  | _, _, .cons h r => .cons (Rp.stay s h) (RpK.stay s r)
theorem RpT.stay (s : Stay F H F' H') : ∀ {v : List (List Key × V)} {d : List (PyData × PyData)}, RpT K F H v d → RpT K F' H' v d
  | _, _, .nil => .nil
  | _, _, .cons h r => .cons (Rp.stay s h) (RpT.stay s r)
end
theorem RpL.length : ∀ {v : List V} {d : List PyData}, RpL K F H v d → v.length = d.length
  | _, _, .nil => rfl
  | _, _, .cons _ r => congrArg (· + 1) (RpL.length r)
theorem RpL.get : ∀ {v : List V} {d : List PyData} {i : Nat} {x : V}, RpL K F H v d → v[i]? = some x → ∃ y, d[i]? = some y ∧ Rp K F H x y
  | _, _, i, _, .nil, e => by simp at e
  | _, _, 0, x, .cons h r, e => by simp at e; subst e; exact ⟨_, rfl, h⟩
  | _, _, i + 1, x, .cons h r, e => RpL.get (i := i) r (by simpa using e)
theorem RpL.getD : ∀ {v : List V} {d : List PyData} {i : Nat} {y : PyData}, RpL K F H v d → d[i]? = some y → ∃ x, v[i]? = some x ∧ Rp K F H x y
  | _, _, i, _, .nil, e => by simp at e
  | _, _, 0, x, .cons h r, e => by simp at e; subst e; exact ⟨_, rfl, h⟩
  | _, _, i + 1, x, .cons h r, e => RpL.getD (i := i) r (by simpa using e)
theorem RpL.append : ∀ {v v' : List V} {d d' : List PyData}, RpL K F H v d → RpL K F H v' d' → RpL K F H (v ++ v') (d ++ d')
  | _, _, _, _, .nil, s => s
  | _, _, _, _, .cons h r, s => .cons h (RpL.append r s)
theorem RpL.take : ∀ {v : List V} {d : List PyData} (n : Nat), RpL K F H v d → RpL K F H (v.take n) (d.take n)
  | _, _, 0, _ => .nil
  | _, _, _ + 1, .nil => .nil
  | _, _, n + 1, .cons h r => .cons h (RpL.take n r)
theorem RpL.drop : ∀ {v : List V} {d : List PyData} (n : Nat), RpL K F H v d → RpL K F H (v.drop n) (d.drop n)
  | _, _, 0, r => r
  | _, _, _ + 1, .nil => .nil
  | _, _, n + 1, .cons h r => RpL.drop n r
theorem RpL.reverse : ∀ {v : List V} {d : List PyData}, RpL K F H v d → RpL K F H v.reverse d.reverse
  | _, _, .nil => .nil
  | _, _, .cons h r => by
    rw [List.reverse_cons, List.reverse_cons]
    exact (RpL.reverse r).append (.cons h .nil)
theorem RpL.set : ∀ {v : List V} {d : List PyData} (n : Nat) {x : V} {y : PyData}, RpL K F H v d → Rp K F H x y → RpL K F H (v.set n x) (d.set n y)
  | _, _, _, _, _, .nil, _ => .nil
  | _, _, 0, _, _, .cons h r, q => .cons q r
  | _, _, n + 1, _, _, .cons h r, q => .cons h (RpL.set n r q)
theorem RpL.eraseIdx : ∀ {v : List V} {d : List PyData} (n : Nat), RpL K F H v d → RpL K F H (v.eraseIdx n) (d.eraseIdx n)
  | _, _, _, .nil => .nil
  | _, _, 0, .cons h r => r
  | _, _, n + 1, .cons h r => .cons h (RpL.eraseIdx n r)
theorem RpL.ints : ∀ {v : List V} {ns : List Int}, RpL K F H v (ns.map PyData.int) → v = ns.map V.int
  | _, [], h => by cases h; rfl
  | _, n :: ns, h => by
    cases h with
    | cons h r =>
      cases h
      rw [RpL.ints r]; rfl
theorem RpL.bools : ∀ {v : List V} {ns : List Bool}, RpL K F H v (ns.map PyData.bool) → v = ns.map V.bl
  | _, [], h => by cases h; rfl
  | _, n :: ns, h => by
    cases h with
    | cons h r =>
      cases h
      rw [RpL.bools r]; rfl
end
end Pv

set_option maxRecDepth 100000
/-! Pv, part B: slots, steps, readings made of pure functions. -/
namespace Pv
open PySem PySem.Spec L2
section
variable {K : PySem.W.Frag} {F F' F1 F2 W : Reg} {H H' H1 H2 : Hp}
/-- an object outside of the frozen region, as it stands; its parts are frozen. x: it is exactly so (not locked) -/
inductive Held (K : PySem.W.Frag) (F : Reg) (H : Hp) (x : Prop) (a : Addr) : PyData → Prop
  | lst {xs : List V} {ds : List PyData} : H a = some (.lst xs) → RpL K F H xs ds → Held K F H x a (.list ds)
  | dik {kvs : List (Key × V)} {ds : List (PyData × PyData)} : Rd H a (.dK kvs) → (x → H a = some (.dK kvs)) → RpK K F H kvs ds → Held K F H x a (.dict ds)
  | dit {kvs : List (List Key × V)} {ds : List (PyData × PyData)} : Rd H a (.dT kvs) → (x → H a = some (.dT kvs)) → RpT K F H kvs ds → Held K F H x a (.dict ds)
def Srep (K : PySem.W.Frag) (F : Reg) (H : Hp) (v : V) (sv : SV) : Prop :=
  match sv.o with
  | .fr => Rp K F H v sv.d
  | .ow => ∃ a, v = .ref a ∧ ¬ F a ∧ Held K F H True a sv.d
  | .lk => ∃ a, v = .ref a ∧ ¬ F a ∧ Held K F H False a sv.d
/-- the kinds of objects that may be owned -/
def Knd (H : Hp) (a : Addr) : Prop := (∃ xs, H a = some (.lst xs)) ∨ (∃ kvs, Rd H a (.dK kvs)) ∨ (∃ kvs, Rd H a (.dT kvs))
theorem Held.knd {x : Prop} {a : Addr} {d : PyData} (h : Held K F H x a d) : Knd H a := by
  cases h with
  | lst h _ => exact .inl ⟨_, h⟩
  | dik h _ _ => exact .inr (.inl ⟨_, h⟩)
  | dit h _ _ => exact .inr (.inr ⟨_, h⟩)
theorem Knd.some {a : Addr} (h : Knd H a) : H a ≠ Option.none := by
  rcases h with ⟨_, h⟩ | ⟨_, h | ⟨_, h⟩⟩ | ⟨_, h | ⟨_, h⟩⟩ <;> (rw [h]; exact fun z => nomatch z)
theorem Held.weak {x : Prop} {a : Addr} {d : PyData} (h : Held K F H x a d) : Held K F H False a d := by
  cases h with
  | lst h r => exact .lst h r
  | dik h _ r => exact .dik h False.elim r
  | dit h _ r => exact .dit h False.elim r
theorem Held.stay {x : Prop} {a : Addr} {d : PyData} (s : Stay F H F' H') (e : ∀ o, H a = some o → H' a = some o) (h : Held K F H x a d) : Held K F' H' x a d := by
  have r : ∀ u, Rd H a u → Rd H' a u := fun u h => h.elim (fun h => .inl (e _ h)) fun ⟨o, h⟩ => .inr ⟨o, e _ h⟩
  cases h with
  | lst h q => exact .lst (e _ h) (q.stay s)
  | dik h z q => exact .dik (r _ h) (fun y => e _ (z y)) (q.stay s)
  | dit h z q => exact .dit (r _ h) (fun y => e _ (z y)) (q.stay s)
/-- a step that changes W alone -/
structure Step (W F : Reg) (H : Hp) (F' : Reg) (H' : Hp) : Prop where
  mono : ∀ a, F a → F' a
  keep : ∀ a o, H a = some o → ¬ W a → H' a = some o
  nf : ∀ a, F' a → F a ∨ W a ∨ H a = none
/-- what may be changed is owned: not frozen, of an owned kind -/
def Wok (W F : Reg) (H : Hp) : Prop := ∀ a, W a → ¬ F a ∧ Knd H a
theorem Step.stay (s : Step W F H F' H') (w : Wok W F H) : Stay F H F' H' where
  mono := s.mono
  rd := fun a u f h => by
    have nw : ¬ W a := fun z => (w a z).1 f
    exact h.elim (fun h => .inl (s.keep _ _ h nw)) fun ⟨o, h⟩ => .inr ⟨o, s.keep _ _ h nw⟩
  ls := fun a xs f h => s.keep _ _ h fun z => (w a z).1 f
  tup := fun a xs h => s.keep _ _ h fun z => by
    have k := (w a z).2
    rcases k with ⟨_, k⟩ | ⟨_, k | ⟨_, k⟩⟩ | ⟨_, k | ⟨_, k⟩⟩ <;> (rw [h] at k; cases k)
  frz := fun a o xs h => s.keep _ _ h fun z => by
    have k := (w a z).2
    rcases k with ⟨_, k⟩ | ⟨_, k | ⟨_, k⟩⟩ | ⟨_, k | ⟨_, k⟩⟩ <;> (rw [h] at k; cases k)
abbrev W0 : Reg := fun _ => False
theorem Wok.nil : Wok W0 F H := fun _ z => z.elim
theorem Step.refl : Step W F H F H := ⟨fun _ f => f, fun _ _ h _ => h, fun _ f => .inl f⟩
theorem Step.weak {W' : Reg} (s : Step W F H F' H') (h : ∀ a, W a → W' a) : Step W' F H F' H' :=
  ⟨s.mono, fun a o e n => s.keep a o e fun z => n (h a z), fun a f => (s.nf a f).elim .inl fun q => q.elim (fun q => .inr (.inl (h a q))) fun q => .inr (.inr q)⟩
theorem Step.of0 {W' : Reg} (s : Step W0 F H F' H') : Step W' F H F' H' := s.weak fun _ z => z.elim
/-- one behind another: the second one changes what the first one might, or what is new -/
theorem Step.trans {W' : Reg} (s : Step W F H F1 H1) (t : Step W' F1 H1 F2 H2) (h : ∀ a, W' a → W a ∨ H a = none) : Step W F H F2 H2 where
  mono := fun a f => t.mono a (s.mono a f)
  keep := fun a o e n => t.keep a o (s.keep a o e n) fun z => (h a z).elim n fun q => by rw [e] at q; cases q
  nf := fun a f => by
    rcases t.nf a f with q | q | q
    · exact s.nf a q
    · exact (h a q).elim (fun q => .inr (.inl q)) fun q => .inr (.inr q)
    · by_cases w : W a
      · exact .inr (.inl w)
      · cases e : H a with
        | none => exact .inr (.inr rfl)
        | some o =>
          rw [s.keep a o e w] at q; cases q
theorem Step.alloc {p : Addr} {o : HO} (n : H p = none) : Step W0 F H F (upd H p o) :=
  ⟨fun _ f => f, fun a u e _ => by rw [upd_ne (ne_of_none e n)]; exact e, fun _ f => .inl f⟩
theorem Step.allocF {p : Addr} {o : HO} (n : H p = none) : Step W0 F H (fun a => F a ∨ a = p) (upd H p o) :=
  ⟨fun _ f => .inl f, fun a u e _ => by rw [upd_ne (ne_of_none e n)]; exact e, fun a f => f.elim .inl fun e => .inr (.inr (e ▸ n))⟩

/-! ### slots -/
/-- a slot's own object (owned, or locked while it is walked) -/
def HoldAt (σ : L2.St) (ρ : PEnv) (i : Nat) (a : Addr) : Prop := σ[i]? = some (some (.ref a)) ∧ ∃ sv : SV, ρ[i]? = some (some sv) ∧ sv.o ≠ .fr
def Hold (σ : L2.St) (ρ : PEnv) : Reg := fun a => ∃ i, HoldAt σ ρ i a
/-- .. that may be changed -/
def OwnAt (σ : L2.St) (ρ : PEnv) (i : Nat) (a : Addr) : Prop := σ[i]? = some (some (.ref a)) ∧ ∃ sv : SV, ρ[i]? = some (some sv) ∧ sv.o = .ow
def Own (σ : L2.St) (ρ : PEnv) : Reg := fun a => ∃ i, OwnAt σ ρ i a
theorem OwnAt.hold {σ : L2.St} {ρ : PEnv} {i : Nat} {a : Addr} (h : OwnAt σ ρ i a) : HoldAt σ ρ i a := ⟨h.1, let ⟨sv, e, o⟩ := h.2; ⟨sv, e, by rw [o]; exact fun z => nomatch z⟩⟩
theorem Own.hold {σ : L2.St} {ρ : PEnv} {a : Addr} (h : Own σ ρ a) : Hold σ ρ a := let ⟨i, h⟩ := h; ⟨i, h.hold⟩
/-- ρ' holds no more than ρ -/
structure Sub (σ : L2.St) (ρ ρ' : PEnv) : Prop where
  own : ∀ a, Own σ ρ' a → Own σ ρ a
  hold : ∀ a, Hold σ ρ' a → Hold σ ρ a
theorem Sub.refl {σ : L2.St} {ρ : PEnv} : Sub σ ρ ρ := ⟨fun _ z => z, fun _ z => z⟩
theorem Sub.trans {σ : L2.St} {ρ ρ1 ρ2 : PEnv} (a : Sub σ ρ ρ1) (b : Sub σ ρ1 ρ2) : Sub σ ρ ρ2 := ⟨fun c z => a.own c (b.own c z), fun c z => a.hold c (b.hold c z)⟩
structure Gd (K : PySem.W.Frag) (F : Reg) (H : Hp) (σ : L2.St) (ρ : PEnv) : Prop where
  len : ρ.length = σ.length
  al : ∀ a, F a → H a ≠ none
  sl : ∀ (i : Nat) (sv : SV), ρ[i]? = some (some sv) → ∃ v, σ[i]? = some (some v) ∧ Srep K F H v sv
  dis : ∀ i j a, HoldAt σ ρ i a → HoldAt σ ρ j a → i = j
variable {σ σ' : L2.St} {ρ ρ' ρ1 ρ2 : PEnv}
theorem Gd.hold (g : Gd K F H σ ρ) {a : Addr} (h : Hold σ ρ a) : ¬ F a ∧ Knd H a := by
  obtain ⟨i, e, ⟨d, o⟩, er, ho⟩ := h
  obtain ⟨v, ev, r⟩ := g.sl i _ er
  rw [e] at ev; cases ev
  cases o with
  | fr => exact absurd rfl ho
  | ow => obtain ⟨b, e, nf, h⟩ := r; cases e; exact ⟨nf, h.knd⟩
  | lk => obtain ⟨b, e, nf, h⟩ := r; cases e; exact ⟨nf, h.knd⟩
theorem Gd.own (g : Gd K F H σ ρ) {a : Addr} (h : Own σ ρ a) : ¬ F a ∧ Knd H a := g.hold h.hold
theorem Gd.wok (g : Gd K F H σ ρ) : Wok (Own σ ρ) F H := fun _ h => g.own h
theorem Srep.stay {v : V} {sv : SV} (s : Stay F H F' H') (ho : sv.o ≠ .fr → ∀ a, v = .ref a → (∀ o, H a = some o → H' a = some o) ∧ (¬ F a → ¬ F' a)) (h : Srep K F H v sv) : Srep K F' H' v sv := by
  obtain ⟨d, o⟩ := sv
  cases o with
  | fr => exact Rp.stay s h
  | ow =>
    obtain ⟨a, e, nf, q⟩ := h
    obtain ⟨h1, h2⟩ := ho (fun z => nomatch z) a e
    exact ⟨a, e, h2 nf, q.stay s h1⟩
  | lk =>
    obtain ⟨a, e, nf, q⟩ := h
    obtain ⟨h1, h2⟩ := ho (fun z => nomatch z) a e
    exact ⟨a, e, h2 nf, q.stay s h1⟩
/-- a step that changes nothing of the slots' -/
theorem Gd.step (g : Gd K F H σ ρ) (w : Wok W F H) (hW : ∀ a, Hold σ ρ a → ¬ W a) (s : Step W F H F' H') (al : ∀ a, F' a → H' a ≠ none) : Gd K F' H' σ ρ where
  len := g.len
  al := al
  sl := fun i sv e => by
    obtain ⟨v, ev, r⟩ := g.sl i sv e
    refine ⟨v, ev, r.stay (s.stay w) fun ho a ea => ?_⟩
    subst ea
    have own : Hold σ ρ a := ⟨i, ev, sv, e, ho⟩
    refine ⟨fun o q => s.keep a o q (hW a own), fun nf f => ?_⟩
    rcases s.nf a f with q | q | q
    · exact nf q
    · exact hW a own q
    · exact (g.hold own).2.some q
  dis := g.dis
theorem Gd.pure (g : Gd K F H σ ρ) (s : Step W0 F H F' H') (al : ∀ a, F' a → H' a ≠ none) : Gd K F' H' σ ρ := g.step .nil (fun _ _ z => z.elim) s al
theorem Gd.alloc {p : Addr} {o : HO} (g : Gd K F H σ ρ) (n : H p = none) : Gd K F (upd H p o) σ ρ := g.pure (.alloc n) fun a f => by
  by_cases e : a = p
  · rw [e, upd_same]; exact fun z => nomatch z
  · rw [upd_ne e]; exact g.al a f
theorem Gd.allocF {p : Addr} {o : HO} (g : Gd K F H σ ρ) (n : H p = none) : Gd K (fun a => F a ∨ a = p) (upd H p o) σ ρ := g.pure (.allocF n) fun a f => by
  by_cases e : a = p
  · rw [e, upd_same]; exact fun z => nomatch z
  · rw [upd_ne e]; exact g.al a (f.resolve_right e)

/-! ### outcomes -/
abbrev EK := Str → PyData → Reg → Hp → Prop
def Go (K : PySem.W.Frag) (E : EK) {α : Type} (f : M α) (σ : L2.St) (F : Reg) (H : Hp) (ρ : PEnv) (C : α → PEnv → Reg → Hp → Prop) : Prop :=
  match f ρ with
  | .ok a ρ' => ∀ F' H', Step (Own σ ρ) F H F' H' → Gd K F' H' σ ρ' → Sub σ ρ ρ' → C a ρ' F' H'
  | .exc c d => ∀ F' H', Step (Own σ ρ) F H F' H' → (∀ a, F' a → H' a ≠ none) → E c d F' H'
  | .bad => False
variable {E : EK} {α β : Type} {C : β → PEnv → Reg → Hp → Prop}
theorem Go.bind {f : M α} {g : α → M β} (h : Go K E (f >>= g) σ F H ρ C) :
    Go K E f σ F H ρ fun a ρ1 F1 H1 => Gd K F1 H1 σ ρ1 ∧ Step (Own σ ρ) F H F1 H1 ∧ Sub σ ρ ρ1 ∧ Go K E (g a) σ F1 H1 ρ1 C := by
  unfold Go at h ⊢
  cases e : f ρ with
  | bad => rw [bind_bad e] at h; exact h
  | exc c d => rw [bind_exc e] at h; exact h
  | ok a ρ1 =>
    rw [bind_ok e] at h
    intro F1 H1 s1 g1 sub1
    refine ⟨g1, s1, sub1, ?_⟩
    cases e2 : g a ρ1 with
    | bad => rw [e2] at h; exact h
    | exc c d =>
      rw [e2] at h
      exact fun F2 H2 s2 => h F2 H2 (s1.trans s2 fun a z => .inl (sub1.own a z))
    | ok b ρ2 =>
      rw [e2] at h
      exact fun F2 H2 s2 g2 sub2 => h F2 H2 (s1.trans s2 fun a z => .inl (sub1.own a z)) g2 (sub1.trans sub2)
theorem Go.mono {f : M β} {C' : β → PEnv → Reg → Hp → Prop} (h : Go K E f σ F H ρ C) (hC : ∀ a ρ' F' H', C a ρ' F' H' → C' a ρ' F' H') : Go K E f σ F H ρ C' := by
  unfold Go at h ⊢
  split at h
  · exact fun F' H' s g sub => hC _ _ _ _ (h F' H' s g sub)
  · exact h
  · exact h
/-- the end of a pure step -/
theorem Go.pure {b : β} (h : Go K E (Pure.pure b : M β) σ F H ρ C) : ∀ F' H', Step (Own σ ρ) F H F' H' → Gd K F' H' σ ρ → C b ρ F' H' := fun F' H' s g => h F' H' s g .refl

/-! ### results -/
/-- v is the result sv of a piece that began at σ, ρ, H -/
structure VR (K : PySem.W.Frag) (σ : L2.St) (ρ : PEnv) (H : Hp) (ρ' : PEnv) (F' : Reg) (H' : Hp) (v : V) (sv : SV) : Prop where
  rep : Srep K F' H' v sv
  nl : sv.o ≠ .lk
  new : sv.o = .ow → ∀ a, v = .ref a → ¬ Hold σ ρ' a ∧ (H a = none ∨ Own σ ρ a)
inductive Opd where | slot (i : Nat) | val (sv : SV)
def OR (K : PySem.W.Frag) (σ : L2.St) (ρ : PEnv) (H : Hp) (ρ' : PEnv) (F' : Reg) (H' : Hp) (v : V) : Opd → Prop
  | .slot i => σ[i]? = some (some v)
  | .val sv => VR K σ ρ H ρ' F' H' v sv
def TV (K : PySem.W.Frag) (E : EK) (f : M SV) : TE := fun σ H Q => ∃ F ρ, Gd K F H σ ρ ∧ Go K E f σ F H ρ fun sv ρ' F' H' => ∀ v, VR K σ ρ H ρ' F' H' v sv → Q v H'
def TO (K : PySem.W.Frag) (E : EK) (f : M Opd) : TE := fun σ H Q => ∃ F ρ, Gd K F H σ ρ ∧ Go K E f σ F H ρ fun o ρ' F' H' => ∀ v, OR K σ ρ H ρ' F' H' v o → Q v H'
/-- a test -/
def TB (K : PySem.W.Frag) (E : EK) (f : M Bool) : TT := fun σ H Q => ∃ F ρ, Gd K F H σ ρ ∧ Go K E f σ F H ρ fun b _ _ H' => Q b H'
/-- a result stays one behind later steps -/
theorem VR.step {v : V} {sv : SV} (r : VR K σ ρ H ρ1 F1 H1 v sv) (g1 : Gd K F1 H1 σ ρ1) (s : Step (Own σ ρ1) F1 H1 F2 H2) (sub : Sub σ ρ1 ρ2) : VR K σ ρ H ρ2 F2 H2 v sv := by
  have no : sv.o ≠ .fr → sv.o = .ow := fun h => by
    have := r.nl
    cases e : sv.o
    · exact absurd e h
    · rfl
    · exact absurd e this
  refine ⟨r.rep.stay (s.stay g1.wok) fun ho a e => ?_, r.nl, fun ho a e => ⟨fun z => (r.new ho a e).1 (sub.hold a z), (r.new ho a e).2⟩⟩
  have nw := (r.new (no ho) a e).1
  refine ⟨fun o q => s.keep a o q fun z => nw z.hold, fun nf f => ?_⟩
  rcases s.nf a f with q | q | q
  · exact nf q
  · exact nw q.hold
  · have hr := r.rep
    obtain ⟨d, o⟩ := sv
    have no' := no ho
    dsimp only at no'
    subst no'
    obtain ⟨b, eb, _, hh⟩ := hr
    rw [e] at eb; cases eb
    exact hh.knd.some q
theorem OR.step {v : V} {o : Opd} (r : OR K σ ρ H ρ1 F1 H1 v o) (g1 : Gd K F1 H1 σ ρ1) (s : Step (Own σ ρ1) F1 H1 F2 H2) (sub : Sub σ ρ1 ρ2) : OR K σ ρ H ρ2 F2 H2 v o := by
  cases o with
  | slot i => exact r
  | val sv => exact VR.step r g1 s sub
/-- .. from an earlier beginning -/
theorem VR.from {v : V} {sv : SV} {ρ0 : PEnv} {H0 : Hp} {F0 : Reg} (r : VR K σ ρ H ρ' F' H' v sv) (s : Step (Own σ ρ0) F0 H0 F H) (sub : Sub σ ρ0 ρ) : VR K σ ρ0 H0 ρ' F' H' v sv :=
  ⟨r.rep, r.nl, fun ho a e => ⟨(r.new ho a e).1, by
    rcases (r.new ho a e).2 with q | q
    · cases e0 : H0 a with
      | none => exact .inl rfl
      | some o =>
        by_cases w : Own σ ρ0 a
        · exact .inr w
        · rw [s.keep a o e0 w] at q; cases q
    · exact .inr (sub.own a q)⟩⟩
/-- the pure value that an operand is -/
def rslv (o : Opd) : M SV := fun ρ => match o with
  | .slot i => (match ρ[i]? with | some (some sv) => .ok sv ρ | _ => .bad)
  | .val sv => .ok sv ρ
/-- readable -/
def Ro (K : PySem.W.Frag) (F : Reg) (H : Hp) (v : V) (d : PyData) : Prop := ∃ o, Srep K F H v ⟨d, o⟩
theorem OR.ro {v : V} {o : Opd} {sv : SV} (g : Gd K F1 H1 σ ρ1) (r : OR K σ ρ H ρ1 F1 H1 v o) (e : rslv o ρ1 = .ok sv ρ2) : ρ2 = ρ1 ∧ Ro K F1 H1 v sv.d := by
  cases o with
  | slot i =>
    unfold rslv at e
    dsimp only at e
    split at e
    · rename_i sv' h
      cases e
      obtain ⟨v', ev, q⟩ := g.sl i _ h
      have r : σ[i]? = some (some v) := r
      rw [r] at ev; cases ev
      exact ⟨rfl, _, q⟩
    · cases e
  | val sv' =>
    cases e
    exact ⟨rfl, _, VR.rep r⟩
end
end Pv

set_option maxRecDepth 100000
/-! Pv, part C: readings of names, constants, operators. -/
namespace Pv
open PySem PySem.Spec L2
theorem PE.imp {X : Cx} {e : Expr} {t t' : TE} (h : PE X e t) (i : ∀ σ H Q, t' σ H Q → t σ H Q) : PE X e t' := ⟨fun pins s σ H Q I q => h.run pins s σ H Q I (i _ _ _ q)⟩
theorem PT.imp {X : Cx} {e : Expr} {t t' : TT} (h : PT X e t) (i : ∀ σ H Q, t' σ H Q → t σ H Q) : PT X e t' := ⟨fun pins s σ H Q I q => h.run pins s σ H Q I (i _ _ _ q)⟩
theorem PW.imp {X : Cx} {e : Expr} {t t' : TT} (h : PW X e t) (i : ∀ σ H Q, t' σ H Q → t σ H Q) : PW X e t' := ⟨fun wh pins s σ H Q I q => h.run wh pins s σ H Q I (i _ _ _ q)⟩
theorem PA.imp {X : Cx} {e : List Expr} {t t' : TA} (h : PA X e t) (i : ∀ σ H Q, t' σ H Q → t σ H Q) : PA X e t' := ⟨fun pos pins s σ H Q I q => h.run pos pins s σ H Q I (i _ _ _ q)⟩
theorem PS.imp {X : Cx} {e : Stmt} {t t' : TS} (h : PS X e t) (i : ∀ D σ H, t' D σ H → t D σ H) : PS X e t' := ⟨fun pins s σ H D I q => h.run pins s σ H D I (i _ _ _ q)⟩
theorem PSs.imp {X : Cx} {e : List Stmt} {t t' : TS} (h : PSs X e t) (i : ∀ D σ H, t' D σ H → t D σ H) : PSs X e t' := ⟨fun pins s σ H D I q => h.run pins s σ H D I (i _ _ _ q)⟩

def lift {α : Type} (o : Option α) : M α := fun ρ => match o with | some a => .ok a ρ | none => .bad
def frv (d : PyData) : SV := ⟨d, .fr⟩
def mslot (i : Nat) : M Opd := fun ρ => match ρ[i]? with | some (some _) => .ok (.slot i) ρ | _ => .bad
/-- a slot's value kept elsewhere: from here on it is frozen -/
def mget (i : Nat) : M SV := fun ρ => match ρ[i]? with
  | some (some ⟨d, .fr⟩) => .ok ⟨d, .fr⟩ ρ
  | some (some ⟨d, .ow⟩) => .ok ⟨d, .fr⟩ (ρ.set i (some ⟨d, .fr⟩))
  | _ => .bad
def mval (f : M SV) : M Opd := do let sv ← f; pure (.val sv)
/-- frozen -/
def mfz (f : M SV) : M PyData := do let sv ← f; pure sv.d
section
variable {K : PySem.W.Frag} {F F' F1 F2 W : Reg} {H H' H1 H2 : Hp} {σ σ' : L2.St} {ρ ρ' ρ1 ρ2 : PEnv} {E : EK} {α β : Type} {C : β → PEnv → Reg → Hp → Prop}
theorem Go.lift {o : Option β} (h : Go K E (lift o) σ F H ρ C) : ∃ b, o = some b ∧ ∀ F' H', Step (Own σ ρ) F H F' H' → Gd K F' H' σ ρ → C b ρ F' H' := by
  unfold Go Pv.lift at h
  cases o with
  | none => exact h.elim
  | some b => exact ⟨b, rfl, fun F' H' s g => h F' H' s g .refl⟩
theorem Go.rsl {o : Opd} {g : SV → M β} (h : Go K E (Pv.rslv o >>= g) σ F H ρ C) : ∃ sv, Pv.rslv o ρ = .ok sv ρ ∧ Go K E (g sv) σ F H ρ C := by
  unfold Go at h ⊢
  cases e : Pv.rslv o ρ with
  | bad => rw [bind_bad e] at h; exact h.elim
  | exc c d =>
    unfold Pv.rslv at e
    split at e
    · split at e <;> cases e
    · cases e
  | ok sv ρ1 =>
    have e1 : ρ1 = ρ := by
      unfold Pv.rslv at e
      split at e
      · split at e <;> cases e; rfl
      · cases e; rfl
    subst e1
    rw [bind_ok e] at h
    exact ⟨sv, rfl, h⟩
theorem OR.ro' {v : V} {o : Opd} {sv : SV} (g : Gd K F1 H1 σ ρ1) (r : OR K σ ρ H ρ1 F1 H1 v o) (e : Pv.rslv o ρ1 = .ok sv ρ1) : Ro K F1 H1 v sv.d := (OR.ro g r e).2
/-! ### readable values -/
theorem Ro.int {v : V} {i : Int} (h : Ro K F H v (.int i)) : v = .int i := by
  obtain ⟨o, h⟩ := h
  cases o with
  | fr => cases (show Rp K F H v (.int i) from h); rfl
  | ow => obtain ⟨a, _, _, q⟩ := h; cases q
  | lk => obtain ⟨a, _, _, q⟩ := h; cases q
theorem Ro.bool {v : V} {i : Bool} (h : Ro K F H v (.bool i)) : v = .bl i := by
  obtain ⟨o, h⟩ := h
  cases o with
  | fr => cases (show Rp K F H v (.bool i) from h); rfl
  | ow => obtain ⟨a, _, _, q⟩ := h; cases q
  | lk => obtain ⟨a, _, _, q⟩ := h; cases q
theorem Ro.str {v : V} {i : Str} (h : Ro K F H v (.str i)) : v = .str i := by
  obtain ⟨o, h⟩ := h
  cases o with
  | fr => cases (show Rp K F H v (.str i) from h); rfl
  | ow => obtain ⟨a, _, _, q⟩ := h; cases q
  | lk => obtain ⟨a, _, _, q⟩ := h; cases q
theorem Ro.none {v : V} (h : Ro K F H v .none) : v = .non := by
  obtain ⟨o, h⟩ := h
  cases o with
  | fr => cases (show Rp K F H v .none from h); rfl
  | ow => obtain ⟨a, _, _, q⟩ := h; cases q
  | lk => obtain ⟨a, _, _, q⟩ := h; cases q
theorem Ro.list {v : V} {ds : List PyData} (h : Ro K F H v (.list ds)) : ∃ a xs, v = .ref a ∧ SqL K H a xs ∧ RpL K F H xs ds := by
  obtain ⟨o, h⟩ := h
  cases o with
  | fr => cases (show Rp K F H v (.list ds) from h) with | lst q r => exact ⟨_, _, rfl, q.sql, r⟩
  | ow => obtain ⟨a, e, _, q⟩ := h; cases q with | lst h r => exact ⟨a, _, e, .inl (.inl h), r⟩
  | lk => obtain ⟨a, e, _, q⟩ := h; cases q with | lst h r => exact ⟨a, _, e, .inl (.inl h), r⟩
theorem Ro.tuple {v : V} {ds : List PyData} (h : Ro K F H v (.tuple ds)) : ∃ a xs, v = .ref a ∧ H a = some (.tup xs) ∧ RpL K F H xs ds := by
  obtain ⟨o, h⟩ := h
  cases o with
  | fr => cases (show Rp K F H v (.tuple ds) from h) with | tup q r => exact ⟨_, _, rfl, q, r⟩
  | ow => obtain ⟨a, e, _, q⟩ := h; cases q
  | lk => obtain ⟨a, e, _, q⟩ := h; cases q
theorem Ro.tupR {v : V} {ds : List PyData} (h : Ro K F H v (.tuple ds)) : Rp K F H v (.tuple ds) := by
  obtain ⟨o, h⟩ := h
  cases o with
  | fr => exact h
  | ow => obtain ⟨a, e, _, q⟩ := h; cases q
  | lk => obtain ⟨a, e, _, q⟩ := h; cases q
theorem Ro.dict {v : V} {ds : List (PyData × PyData)} (h : Ro K F H v (.dict ds)) : ∃ a, v = .ref a ∧ ((∃ kvs, Rd H a (.dK kvs) ∧ RpK K F H kvs ds) ∨ ∃ kvs, Rd H a (.dT kvs) ∧ RpT K F H kvs ds) := by
  obtain ⟨o, h⟩ := h
  cases o with
  | fr =>
    cases (show Rp K F H v (.dict ds) from h) with
    | dik _ q r => exact ⟨_, rfl, .inl ⟨_, q, r⟩⟩
    | dit _ q r => exact ⟨_, rfl, .inr ⟨_, q, r⟩⟩
  | ow =>
    obtain ⟨a, e, _, q⟩ := h
    cases q with
    | dik h _ r => exact ⟨a, e, .inl ⟨_, h, r⟩⟩
    | dit h _ r => exact ⟨a, e, .inr ⟨_, h, r⟩⟩
  | lk =>
    obtain ⟨a, e, _, q⟩ := h
    cases q with
    | dik h _ r => exact ⟨a, e, .inl ⟨_, h, r⟩⟩
    | dit h _ r => exact ⟨a, e, .inr ⟨_, h, r⟩⟩
theorem Ro.of {v : V} {d : PyData} (h : Rp K F H v d) : Ro K F H v d := ⟨.fr, h⟩

/-! ### what a value-level rule gives -/
/-- the end of a value-level rule with the pure result sv: at H the value v may be handed on at any F', H' reached by laying new things -/
def Ret (K : PySem.W.Frag) (F : Reg) (H : Hp) (sv : SV) (Q : VK) : Prop := ∀ v F' H', Step W0 F H F' H' → (∀ a, F' a → H' a ≠ none) → Srep K F' H' v sv → sv.o ≠ .lk → (sv.o = .ow → ∀ a, v = .ref a → H a = none) → Q v H'
theorem Ret.at {sv : SV} {Q : VK} {v : V} (h : Ret K F H sv Q) (al : ∀ a, F a → H a ≠ none) (r : Srep K F H v sv) (e : sv.o = .fr) : Q v H :=
  h v F H .refl al r (by rw [e]; exact fun z => nomatch z) (fun z => by rw [e] at z; cases z)
theorem Ret.fr {d : PyData} {Q : VK} {v : V} (h : Ret K F H (frv d) Q) (al : ∀ a, F a → H a ≠ none) (r : Rp K F H v d) : Q v H := h.at al r rfl
theorem al_alloc {p : Addr} {o : HO} (al : ∀ a, F a → H a ≠ none) : ∀ a, F a → upd H p o a ≠ none := fun a f => by
  by_cases e : a = p
  · rw [e, upd_same]; exact fun z => nomatch z
  · rw [upd_ne e]; exact al a f
theorem Ret.tup {ds : List PyData} {xs : List V} {Q : VK} (h : Ret K F H (frv (.tuple ds)) Q) (al : ∀ a, F a → H a ≠ none) (r : RpL K F H xs ds) : ∀ p, H p = none → Q (.ref p) (upd H p (.tup xs)) := fun p n =>
  h _ F _ (.alloc n) (al_alloc al) (.tup upd_same (r.stay ((Step.alloc n).stay .nil))) (fun z => nomatch z) (fun z => nomatch z)
theorem Ret.lst {ds : List PyData} {xs : List V} {Q : VK} (h : Ret K F H ⟨.list ds, .ow⟩ Q) (al : ∀ a, F a → H a ≠ none) (r : RpL K F H xs ds) : ∀ p, H p = none → Q (.ref p) (upd H p (.lst xs)) := fun p n =>
  h _ F _ (.alloc n) (al_alloc al) ⟨p, rfl, fun f => al p f n, .lst upd_same (r.stay ((Step.alloc n).stay .nil))⟩ (fun z => nomatch z) (fun _ a e => by cases e; exact n)
/-- from the reading's wish to a value-level rule's -/
theorem Ret.of {ρ0 : PEnv} {H0 : Hp} {F0 : Reg} {sv : SV} {Q : VK} (g : Gd K F H σ ρ) (s0 : Step (Own σ ρ0) F0 H0 F H) (sub : Sub σ ρ0 ρ)
    (h : ∀ F' H', Step (Own σ ρ) F H F' H' → Gd K F' H' σ ρ → ∀ v, VR K σ ρ0 H0 ρ F' H' v sv → Q v H') : Ret K F H sv Q := fun v F' H' s al r nl new =>
  h F' H' s.of0 (g.pure s al) v ⟨r, nl, fun e a ea => ⟨fun z => (g.hold z).2.some (new e a ea), by
    cases e0 : H0 a with
    | none => exact .inl rfl
    | some o =>
      by_cases w : Own σ ρ0 a
      · exact .inr w
      · have := s0.keep a o e0 w
        rw [new e a ea] at this; cases this⟩⟩

/-! ### two operands -/
def mOp2 (g : PyData → PyData → Option SV) (fa fb : M Opd) : M SV := do
  let a ← fa
  let b ← fb
  let x ← rslv a
  let y ← rslv b
  lift (g x.d y.d)
def OpG (K : PySem.W.Frag) (r : R2) (g : PyData → PyData → Option SV) : Prop := ∀ (F : Reg) (H : Hp) (x y : V) (dx dy : PyData) (sv : SV) (Q : VK),
  (∀ a, F a → H a ≠ none) → Ro K F H x dx → Ro K F H y dy → g dx dy = some sv → Ret K F H sv Q → r x y H Q
theorem tOp_of {r : R2} {g : PyData → PyData → Option SV} {fa fb : M Opd} {Q : VK} (hg : OpG K r g) (h : TV K E (mOp2 g fa fb) σ H Q) : tOp r (TO K E fa) (TO K E fb) σ H Q := by
  obtain ⟨F, ρ, gd, go⟩ := h
  refine ⟨F, ρ, gd, (Go.bind go).mono ?_⟩
  rintro oa ρ1 F1 H1 ⟨g1, s1, sub1, go1⟩ x hx
  refine ⟨F1, ρ1, g1, (Go.bind go1).mono ?_⟩
  rintro ob ρ2 F2 H2 ⟨g2, s2, sub2, go2⟩ y hy
  obtain ⟨sx, ex, go3⟩ := Go.rsl go2
  obtain ⟨sy, ey, go4⟩ := Go.rsl go3
  obtain ⟨sv, e, fin⟩ := Go.lift go4
  have hx2 := (hx.step g1 s2 sub2).ro' g2 ex
  have hy2 := hy.ro' g2 ey
  exact hg F2 H2 x y sx.d sy.d sv Q g2.al hx2 hy2 e (Ret.of g2 (s1.trans s2 fun a z => .inl (sub1.own a z)) (sub1.trans sub2) fin)
def mOp1 (g : PyData → Option SV) (fa : M Opd) : M SV := do
  let a ← fa
  let x ← rslv a
  lift (g x.d)
def UnG (K : PySem.W.Frag) (r : V → Hp → VK → Prop) (g : PyData → Option SV) : Prop := ∀ (F : Reg) (H : Hp) (x : V) (dx : PyData) (sv : SV) (Q : VK),
  (∀ a, F a → H a ≠ none) → Ro K F H x dx → g dx = some sv → Ret K F H sv Q → r x H Q
theorem t1_of {r : V → Hp → VK → Prop} {g : PyData → Option SV} {fa : M Opd} {Q : VK} (hg : UnG K r g) (h : TV K E (mOp1 g fa) σ H Q) : TO K E fa σ H (fun x H1 => r x H1 Q) := by
  obtain ⟨F, ρ, gd, go⟩ := h
  refine ⟨F, ρ, gd, (Go.bind go).mono ?_⟩
  rintro oa ρ1 F1 H1 ⟨g1, s1, sub1, go1⟩ x hx
  obtain ⟨sx, ex, go3⟩ := Go.rsl go1
  obtain ⟨sv, e, fin⟩ := Go.lift go3
  exact hg F1 H1 x sx.d sv Q g1.al (hx.ro' g1 ex) e (Ret.of g1 s1 sub1 fin)
end

/-! ### names, constants -/
section
variable {X : Cx} {E : EK} {pos : Pos}
theorem qe_con {e : Expr} {v : V} {d : PyData} (h : PE X e (tC v)) (r : ∀ F H, Rp X.K F H v d) : PE X e (TV X.K E (pure (frv d))) :=
  PE.imp h fun σ H Q ⟨F, ρ, g, go⟩ => Go.pure go F H .refl g v ⟨r F H, (fun z => nomatch z), fun z => nomatch z⟩
theorem qe_int {i : Int} {j} : PE X (.Constant (.int i) j pos) (TV X.K E (pure (frv (.int i)))) := qe_con pe_int fun _ _ => .int i
theorem qe_str {i : Str} {j} : PE X (.Constant (.str i) j pos) (TV X.K E (pure (frv (.str i)))) := qe_con pe_str fun _ _ => .str i
theorem qe_bl {i : Bool} {j} : PE X (.Constant (.bool i) j pos) (TV X.K E (pure (frv (.bool i)))) := qe_con pe_bl fun _ _ => .bl i
theorem qe_non {j} : PE X (.Constant .none j pos) (TV X.K E (pure (frv .none))) := qe_con pe_non fun _ _ => .non
theorem qo_var {i : Nat} {e : Expr} (h : PE X e (tVar i)) : PE X e (TO X.K E (mslot i)) := PE.imp h fun σ H Q ⟨F, ρ, g, go⟩ => by
  unfold Go mslot at go
  split at go
  · rename_i hh
    split at hh
    · rename_i sv e
      cases hh
      obtain ⟨v, ev, _⟩ := g.sl i _ e
      exact ⟨v, ev, go F H .refl g .refl v ev⟩
    · cases hh
  · rename_i hh; split at hh <;> cases hh
  · exact go.elim
theorem qo_val {e : Expr} {f : M SV} (h : PE X e (TV X.K E f)) : PE X e (TO X.K E (mval f)) := PE.imp h fun σ H Q ⟨F, ρ, g, go⟩ =>
  ⟨F, ρ, g, (Go.bind go).mono fun sv ρ1 F1 H1 ⟨g1, s1, sub1, go1⟩ v hv => Go.pure go1 F1 H1 .refl g1 v hv⟩
/-- frozen results -/
def TF (K : PySem.W.Frag) (E : EK) (f : M PyData) : TE := fun σ H Q => ∃ F ρ, Gd K F H σ ρ ∧ Go K E f σ F H ρ fun d ρ' F' H' => ∀ v, Rp K F' H' v d → Q v H'
end
section
variable {K : PySem.W.Frag} {F F' F1 F2 W : Reg} {H H' H1 H2 : Hp} {σ σ' : L2.St} {ρ ρ' ρ1 ρ2 : PEnv} {E : EK} {α β : Type} {C : β → PEnv → Reg → Hp → Prop}
theorem Held.rp {x : Prop} {a : Addr} {d : PyData} (h : Held K F H x a d) (f : F a) : Rp K F H (.ref a) d := by
  cases h with
  | lst h r => exact .lst (.inl ⟨f, h⟩) r
  | dik h _ r => exact .dik f h r
  | dit h _ r => exact .dit f h r
theorem stay_more {G : Reg} (h : ∀ a, F a → G a) : Stay F H G H := ⟨h, fun _ _ _ q => q, fun _ _ _ q => q, fun _ _ q => q, fun _ _ _ q => q⟩
/-- an owned result is frozen -/
theorem VR.freeze {v : V} {sv : SV} (r : VR K σ ρ H ρ1 F1 H1 v sv) (g1 : Gd K F1 H1 σ ρ1) (s1 : Step (Own σ ρ) F H F1 H1) :
    ∃ F2, Step (Own σ ρ) F H F2 H1 ∧ Gd K F2 H1 σ ρ1 ∧ Rp K F2 H1 v sv.d ∧ (∀ a, F1 a → F2 a) ∧ ∀ a, F2 a → F1 a ∨ v = .ref a := by
  obtain ⟨d, o⟩ := sv
  cases o with
  | fr => exact ⟨F1, s1, g1, r.rep, fun _ f => f, fun _ f => .inl f⟩
  | lk => exact absurd rfl r.nl
  | ow =>
    obtain ⟨a, e, nf, hh⟩ := r.rep
    obtain ⟨no, new⟩ := r.new rfl a e
    subst e
    refine ⟨fun b => F1 b ∨ b = a, ⟨fun b f => .inl (s1.mono b f), s1.keep, fun b f => ?_⟩, ?_, ?_, fun _ f => .inl f, fun b f => f.imp id fun e => by rw [e]⟩
    · rcases f with f | f
      · exact s1.nf b f
      · subst f; exact new.elim (fun q => .inr (.inr q)) fun q => .inr (.inl q)
    · refine g1.step (W := fun b => b = a) (F' := fun b => F1 b ∨ b = a) (H' := H1) (fun b e => ?_) (fun b o e => no (e ▸ o)) ⟨fun _ f => .inl f, fun _ _ e _ => e, fun b f => f.elim .inl fun e => .inr (.inl e)⟩ fun b f => ?_
      · have e : b = a := e
        subst e; exact ⟨nf, hh.knd⟩
      · rcases f with f | f
        · exact g1.al b f
        · subst f; exact hh.knd.some
    · exact Held.rp (hh.stay (stay_more fun _ f => .inl f) fun _ q => q) (.inr rfl)
theorem TF.of {f : M SV} {Q : VK} (h : TF K E (mfz f) σ H Q) : TV K E f σ H Q := by
  obtain ⟨F, ρ, g, go⟩ := h
  refine ⟨F, ρ, g, ?_⟩
  unfold Go at go ⊢
  cases e : f ρ with
  | bad => rw [show mfz f ρ = .bad from bind_bad e] at go; exact go
  | exc c d => rw [show mfz f ρ = .exc c d from bind_exc e] at go; exact go
  | ok sv ρ1 =>
    rw [show mfz f ρ = .ok sv.d ρ1 from (bind_ok e).trans rfl] at go
    intro F1 H1 s1 g1 sub1 v hv
    obtain ⟨F2, s2, g2, r2, _, _⟩ := hv.freeze g1 s1
    exact go F2 H1 s2 g2 sub1 v r2
end
section
variable {X : Cx} {E : EK} {pos : Pos}
theorem qf_of {e : Expr} {f : M SV} (h : PE X e (TV X.K E f)) : PE X e (TF X.K E (mfz f)) := PE.imp h fun _ _ _ q => TF.of q
/-- a name's value, kept -/
theorem qe_var {i : Nat} {e : Expr} (h : PE X e (tVar i)) : PE X e (TV X.K E (mget i)) := PE.imp h fun σ H Q ⟨F, ρ, g, go⟩ => by
  unfold Go mget at go
  cases hρ : ρ[i]? with
  | none => rw [hρ] at go; exact go.elim
  | some o =>
    cases o with
    | none => rw [hρ] at go; exact go.elim
    | some sv =>
      obtain ⟨d, o⟩ := sv
      rw [hρ] at go
      obtain ⟨v, ev, r⟩ := g.sl i _ hρ
      refine ⟨v, ev, ?_⟩
      cases o with
      | lk => exact go.elim
      | fr => exact go F H .refl g .refl v ⟨r, (fun z => nomatch z), fun z => nomatch z⟩
      | ow =>
        obtain ⟨a, rfl, nf, hh⟩ := r
        have hi : i < ρ.length := (List.getElem?_eq_some_iff.mp hρ).1
        have own : OwnAt σ ρ i a := ⟨ev, _, hρ, rfl⟩
        have sub : ∀ j b, HoldAt σ (ρ.set i (some ⟨d, .fr⟩)) j b → HoldAt σ ρ j b ∧ j ≠ i := fun j b ⟨e1, sv, e2, e3⟩ => by
          by_cases hj : i = j
          · subst hj
            rw [List.getElem?_set_self hi] at e2
            cases e2; exact absurd rfl e3
          · rw [List.getElem?_set_ne hj] at e2
            exact ⟨⟨e1, sv, e2, e3⟩, fun z => hj z.symm⟩
        have sub2 : ∀ j b, OwnAt σ (ρ.set i (some ⟨d, .fr⟩)) j b → OwnAt σ ρ j b := fun j b ⟨e1, sv, e2, e3⟩ => by
          by_cases hj : i = j
          · subst hj
            rw [List.getElem?_set_self hi] at e2
            cases e2; cases e3
          · rw [List.getElem?_set_ne hj] at e2
            exact ⟨e1, sv, e2, e3⟩
        have st : Stay F H (fun b => F b ∨ b = a) H := stay_more fun _ f => .inl f
        have g' : Gd X.K (fun b => F b ∨ b = a) H σ (ρ.set i (some ⟨d, .fr⟩)) := by
          refine ⟨by rw [List.length_set]; exact g.len, fun b f => f.elim (g.al b) fun e => by rw [e]; exact hh.knd.some, fun j sv e => ?_, fun j k b h1 h2 => g.dis j k b (sub j b h1).1 (sub k b h2).1⟩
          by_cases hj : i = j
          · subst hj
            rw [List.getElem?_set_self hi] at e
            cases e
            exact ⟨_, ev, Held.rp (hh.stay st fun _ q => q) (.inr rfl)⟩
          · rw [List.getElem?_set_ne hj] at e
            obtain ⟨w, ew, rw'⟩ := g.sl j sv e
            refine ⟨w, ew, rw'.stay st fun ho b eb => ⟨fun _ q => q, fun nb f => f.elim nb fun e2 => ?_⟩⟩
            subst e2
            exact hj (g.dis i j b own.hold ⟨by rw [ew, eb], sv, e, ho⟩)
        exact go (fun b => F b ∨ b = a) H ⟨fun _ f => .inl f, fun _ _ q _ => q, fun b f => f.elim .inl fun e => .inr (.inl (e ▸ ⟨i, own⟩))⟩ g' ⟨fun b ⟨j, z⟩ => ⟨j, sub2 j b z⟩, fun b ⟨j, z⟩ => ⟨j, (sub j b z).1⟩⟩ (.ref a)
          ⟨Held.rp (hh.stay st fun _ q => q) (.inr rfl), (fun z => nomatch z), fun z => nomatch z⟩
variable {a b : Expr} {fa fb : M Opd} {g : PyData → PyData → Option SV} {r : R2} {op : Operator} {cop : CmpOp}
theorem qe_op (ho : OpR X (binaryOp op) r) (hg : OpG X.K r g) (ha : PE X a (TO X.K E fa)) (hb : PE X b (TO X.K E fb)) : PE X (.BinOp a op b pos) (TV X.K E (mOp2 g fa fb)) :=
  PE.imp (pe_op ho ha hb) fun _ _ _ h => tOp_of hg h
theorem qe_cmp (ho : OpR X (compareOp cop) r) (hg : OpG X.K r g) (ha : PE X a (TO X.K E fa)) (hb : PE X b (TO X.K E fb)) (hm : behindInMarks cop b = false) : PE X (.Compare a [cop] [b] pos) (TV X.K E (mOp2 g fa fb)) :=
  PE.imp (pe_cmpR ho ha hb hm) fun _ _ _ h => tOp_of hg h
theorem qe_un {op : UnaryOp} {r : V → Hp → VK → Prop} {g : PyData → Option SV} (ho : UnR X (unaryOp op) r) (hg : UnG X.K r g) (ha : PE X a (TO X.K E fa)) : PE X (.UnaryOp op a pos) (TV X.K E (mOp1 g fa)) :=
  PE.imp (pe_un ho ha) fun _ _ _ h => t1_of hg h
end
end Pv

set_option maxRecDepth 100000
/-! Pv, part D: operators. -/
namespace Pv
open PySem PySem.Spec L2
section
variable {K : PySem.W.Frag} {F F' F1 F2 W : Reg} {H H' H1 H2 : Hp}
theorem Ro.sql {v : V} {ds : List PyData} (h : Ro K F H v (.list ds)) : ∃ a xs, v = .ref a ∧ SqL K H a xs ∧ RpL K F H xs ds :=
  let ⟨a, xs, e, q, r⟩ := h.list
  ⟨a, xs, e, q, r⟩
mutual
theorem Rp.dp : ∀ (d : PyData) (v : V), d.canLay0 = true → Rp K F H v d → Dp K H v d
  | .none, _, _, .non => .non
  | .bool b, _, _, .bl _ => .bl b
  | .int i, _, _, .int _ => .int i
  | .str x, _, _, .str _ => .str x
  | .list ds, _, c, .lst h r =>   .lst h.sql (RpL.dp ds _ (by simpa [PyData.canLay0] using c) r)
  | .tuple ds, _, c, .tup h r => .tup (SqT.of h) (RpL.dp ds _ (by simpa [PyData.canLay0] using c) r)
  | .dict ds, _, c, _ => absurd c (by simp [PyData.canLay0])
theorem RpL.dp : ∀ (ds : List PyData) (vs : List V), PyData.canLayAll0 ds = true → RpL K F H vs ds → DpAll K H vs ds
  | [], _, _, .nil => .nil
  | d :: ds, _, c, .cons h r => by
    simp only [PyData.canLayAll0, Bool.and_eq_true] at c
    exact .cons (Rp.dp d _ c.1 h) (RpL.dp ds _ c.2 r)
end
theorem Ro.dp {d : PyData} {v : V} (c : SeqAt.shaped d = true) (h : Ro K F H v d) : Dp K H v d := by
  have c := SeqAt.canLay_of_shaped c
  cases d with
  | none => rw [h.none]; exact .non
  | bool b => rw [h.bool]; exact .bl b
  | int i => rw [h.int]; exact .int i
  | str x => rw [h.str]; exact .str x
  | dict ds => exact absurd c (by simp [PyData.canLay0])
  | list ds =>
    obtain ⟨a, xs, rfl, q, r⟩ := h.sql
    exact .lst q (RpL.dp ds _ (by simpa [PyData.canLay0] using c) r)
  | tuple ds =>
    obtain ⟨a, xs, rfl, q, r⟩ := h.tuple
    exact .tup (SqT.of q) (RpL.dp ds _ (by simpa [PyData.canLay0] using c) r)
/-- several rules for one operation -/
theorem OpG.or {r r' : R2} {g g' : PyData → PyData → Option SV} (h : OpG K r g) (h' : OpG K r' g') : OpG K (fun x y H Q => r x y H Q ∨ r' x y H Q) (fun a b => (g a b).or (g' a b)) := by
  intro F H x y dx dy sv Q al hx hy e q
  dsimp only at e
  cases e1 : g dx dy with
  | some s =>
    rw [e1] at e
    exact .inl (h F H x y dx dy sv Q al hx hy (e1.trans e) q)
  | none =>
    rw [e1] at e
    exact .inr (h' F H x y dx dy sv Q al hx hy e q)
/-! ### ints -/
def gI (c : Int → Int → Bool) (f : Int → Int → PyData) : PyData → PyData → Option SV
  | .int i, .int j => if c i j then some (frv (f i j)) else none
  | _, _ => none
theorem gI_eq {c : Int → Int → Bool} {f : Int → Int → PyData} {dx dy : PyData} {sv : SV} (e : gI c f dx dy = some sv) : ∃ i j, dx = .int i ∧ dy = .int j ∧ c i j = true ∧ sv = frv (f i j) := by
  cases dx <;> cases dy <;> simp [gI] at e
  exact ⟨_, _, rfl, rfl, e.1, e.2.symm⟩
theorem opG_I {C : Int → Int → Prop} {c : Int → Int → Bool} {f : Int → Int → V} {f' : Int → Int → PyData} (hc : ∀ i j, c i j = true → C i j) (hf : ∀ F H i j, Rp K F H (f i j) (f' i j)) : OpG K (rI C f) (gI c f') := by
  intro F H x y dx dy sv Q al hx hy e q
  obtain ⟨i, j, rfl, rfl, h, rfl⟩ := gI_eq e
  exact ⟨i, j, hx.int, hy.int, hc i j h, q.fr al (hf F H i j)⟩
theorem opG_I0 {f : Int → Int → V} {f' : Int → Int → PyData} (hf : ∀ F H i j, Rp K F H (f i j) (f' i j)) : OpG K (rI0 f) (gI (fun _ _ => true) f') := by
  intro F H x y dx dy sv Q al hx hy e q
  obtain ⟨i, j, rfl, rfl, h, rfl⟩ := gI_eq e
  exact ⟨i, j, hx.int, hy.int, q.fr al (hf F H i j)⟩
def CPowW (i j : Int) : Prop := 0 ≤ j ∧ (Builtin.Int.intBits i : Int) * j ≤ 2 ^ 27
instance : DecidableRel CPowW := fun i j => by unfold CPowW; exact inferInstance
theorem op_powW {X : Cx} : OpR X (binaryOp .Pow) (rI CPowW fun i j => .int (i ^ j.toNat)) := opI fun i j _ _ _ _ _ hc q => PyProof.Rows.pow_int hc.1 hc.2 q
def CMulA (i j : Int) : Prop := CMul i j ∨ CMulX i j
instance : DecidableRel CMulX := fun i j => by unfold CMulX; exact inferInstance
instance : DecidableRel CMul := fun i j => by unfold CMul; exact inferInstance
instance : DecidableRel CMulA := fun i j => by unfold CMulA; exact inferInstance
theorem op_mulA {X : Cx} : OpR X (binaryOp .Mult) (rI CMulA fun i j => .int (i * j)) := by
  intro pins s σ H x y v u Q I rx ry h
  obtain ⟨i, j, rfl, rfl, hc, q⟩ := h
  rcases hc with hc | hc
  · exact op_mul pins s σ H _ _ v u Q I rx ry ⟨i, j, rfl, rfl, hc, q⟩
  · exact op_mulX pins s σ H _ _ v u Q I rx ry ⟨i, j, rfl, rfl, hc, q⟩
instance : DecidableRel CDivW := fun i j => by unfold CDivW; exact inferInstance
/-! ### texts, tuples, lists -/
def gStrAdd : PyData → PyData → Option SV
  | .str a, .str b => if a.length + b.length ≤ sizeLine then some (frv (.str (a ++ b))) else none
  | _, _ => none
theorem opG_strAdd : OpG K (fun x y H Q => ∃ i j, x = .str i ∧ y = .str j ∧ i.length + j.length ≤ sizeLine ∧ Q (.str (i ++ j)) H) gStrAdd := by
  intro F H x y dx dy sv Q al hx hy e q
  cases dx <;> cases dy <;> simp [gStrAdd] at e
  obtain ⟨e, rfl⟩ := e
  exact ⟨_, _, hx.str, hy.str, e, q.fr al (.str _)⟩
def gTupAdd : PyData → PyData → Option SV
  | .tuple a, .tuple b => if a.length + b.length ≤ sizeLine then some (frv (.tuple (a ++ b))) else none
  | _, _ => none
theorem opG_tupAdd : OpG K (rCatA K) gTupAdd := by
  intro F H x y dx dy sv Q al hx hy e q
  cases dx <;> cases dy <;> simp [gTupAdd] at e
  obtain ⟨e, rfl⟩ := e
  obtain ⟨a, xs, rfl, ha, ra⟩ := hx.tuple
  obtain ⟨b, ys, rfl, hb, rb⟩ := hy.tuple
  refine ⟨a, b, xs, ys, rfl, rfl, SqT.of ha, SqT.of hb, by rw [ra.length, rb.length]; exact e, fun z => ?_, fun _ z => ?_, fun _ _ => q.tup al (ra.append rb)⟩
  · subst z
    cases ra
    exact q.fr al (.tup hb rb)
  · subst z
    cases rb
    rw [List.append_nil] at q
    exact q.fr al (.tup ha ra)
def rCatR (K : PySem.W.Frag) : R2 := fun x y H Q => ∃ l b xs zs, x = .ref l ∧ y = .ref b ∧ SqL K H l xs ∧ SqL K H b zs ∧ xs.length + zs.length ≤ sizeLine ∧ ∀ p, H p = none → Q (.ref p) (upd H p (.lst (xs ++ zs)))
theorem op_catR {X : Cx} : OpR X (binaryOp .Add) (rCatR X.K) := by
  intro pins s σ H x y v u Q I rx ry h
  obtain ⟨l, b, xs, zs, rfl, rfl, hH, hB, hz, q⟩ := h
  cases rx
  cases ry
  obtain ⟨its, r, ⟨⟨cls, dd, data, sl⟩, n, ho, hc, _, hd⟩, _⟩ := I.list hH
  obtain ⟨its2, r2, ⟨⟨cls2, dd2, data2, sl2⟩, n2, ho2, hc2, _, hd2⟩, _⟩ := I.list hB
  simp only at hc hd hc2 hd2
  subst hc hd hc2 hd2
  have hl := r.length
  have hl2 := r2.length
  have e : its.toArray ++ its2.toArray = (its ++ its2).toArray := by simp
  refine concat_meets ⟨_, ho, rfl⟩ ⟨_, ho2, rfl⟩ noFill_list_add seq_list_add PySem.F.slot_list_add PySem.F.entry_list_add (PySem.F.args_list_add_2 _ _) (PyProof.Rows.list_addW l b its.toArray its2.toArray n n2 dd dd2 sl sl2 (by rw [List.size_toArray, List.size_toArray]; omega)) ⟨ho, ho2, ?_⟩
  rw [e]
  exact ⟨.ref _, _, I.lnew (t' := s.toks) (r.append r2) (by rw [List.length_append]; omega), rfl, q _ I.fresh⟩
def gLstAdd : PyData → PyData → Option SV
  | .list a, .list b => if a.length + b.length ≤ sizeLine then some ⟨.list (a ++ b), .ow⟩ else none
  | _, _ => none
theorem opG_lstAdd : OpG K (rCatR K) gLstAdd := by
  intro F H x y dx dy sv Q al hx hy e q
  cases dx <;> cases dy <;> simp [gLstAdd] at e
  obtain ⟨e, rfl⟩ := e
  obtain ⟨a, xs, rfl, ha, ra⟩ := hx.list
  obtain ⟨b, ys, rfl, hb, rb⟩ := hy.list
  exact ⟨a, b, xs, ys, rfl, rfl, ha, hb, by rw [ra.length, rb.length]; exact e, q.lst al (ra.append rb)⟩
def gAdd : PyData → PyData → Option SV := fun a b => (gI (fun _ _ => true) (fun i j => .int (i + j)) a b).or ((gStrAdd a b).or ((gTupAdd a b).or (gLstAdd a b)))
def rAdd (K : PySem.W.Frag) : R2 := fun x y H Q => rI0 (fun i j => .int (i + j)) x y H Q ∨ (∃ i j, x = .str i ∧ y = .str j ∧ i.length + j.length ≤ sizeLine ∧ Q (.str (i ++ j)) H) ∨ rCatA K x y H Q ∨ rCatR K x y H Q
theorem op_addAll {X : Cx} : OpR X (binaryOp .Add) (rAdd X.K) := OpR.or op_add (OpR.or op_add_str (OpR.or op_catA op_catR))
theorem opG_add : OpG K (rAdd K) gAdd := OpG.or (opG_I0 fun _ _ _ _ => .int _) (OpG.or opG_strAdd (OpG.or opG_tupAdd opG_lstAdd))
/-! ### == -/
def gEq (neg : Bool) : PyData → PyData → Option SV := fun d e => if SeqAt.shaped d && SeqAt.shaped e then some (frv (.bool (if neg then !PyData.eqv d e else PyData.eqv d e))) else none
theorem opG_eq : OpG K (rEqD K) (gEq false) := by
  intro F H x y dx dy sv Q al hx hy e q
  unfold gEq at e
  split at e
  · rename_i h
    rw [Bool.and_eq_true] at h
    cases e
    exact ⟨dx, dy, hx.dp h.1, hy.dp h.2, h.1, h.2, q.fr al (.bl _)⟩
  · cases e
theorem opG_ne : OpG K (rNeD K) (gEq true) := by
  intro F H x y dx dy sv Q al hx hy e q
  unfold gEq at e
  split at e
  · rename_i h
    rw [Bool.and_eq_true] at h
    cases e
    exact ⟨dx, dy, hx.dp h.1, hy.dp h.2, h.1, h.2, q.fr al (.bl _)⟩
  · cases e
/-! ### is -/
def gIs (neg : Bool) : PyData → PyData → Option SV
  | .none, .none => some (frv (.bool (!neg)))
  | _, .none => some (frv (.bool neg))
  | .bool a, .bool b => some (frv (.bool (if neg then !decide (a = b) else decide (a = b))))
  | .tuple _, .bool _ => none
  | _, _ => none
def rIsN (neg : Bool) : R2 := fun x y H Q => y = .non ∧ Q (.bl (if neg then !decide (x = .non) else decide (x = .non))) H
def isNn : PyData → Bool | .none => true | _ => false
theorem Ro.isNone {v : V} {d : PyData} (h : Ro K F H v d) : decide (v = .non) = isNn d := by
  cases d with
  | none => rw [h.none]; rfl
  | bool b => rw [h.bool]; rfl
  | int i => rw [h.int]; rfl
  | str x => rw [h.str]; rfl
  | list ds => obtain ⟨a, xs, rfl, _⟩ := h.list; rfl
  | tuple ds => obtain ⟨a, xs, rfl, _⟩ := h.tuple; rfl
  | dict ds => obtain ⟨a, rfl, _⟩ := h.dict; rfl
theorem opG_isN : OpG K (fun x y H Q => (y = .non ∧ Q (.bl (decide (x = .non))) H) ∨ rIsB x y H Q) (gIs false) := by
  intro F H x y dx dy sv Q al hx hy e q
  cases dy with
  | none =>
    have hn := hx.isNone
    refine .inl ⟨hy.none, ?_⟩
    rw [hn]
    cases dx <;> (simp only [gIs, Option.some.injEq] at e; subst e; exact q.fr al (.bl _))
  | bool b =>
    cases dx <;> simp only [gIs] at e <;> cases e
    exact .inr ⟨_, _, hx.bool, hy.bool, q.fr al (.bl _)⟩
  | _ => cases dx <;> simp only [gIs] at e <;> cases e
theorem opG_notN : OpG K (fun x y H Q => (y = .non ∧ Q (.bl (!decide (x = .non))) H) ∨ rNotB x y H Q) (gIs true) := by
  intro F H x y dx dy sv Q al hx hy e q
  cases dy with
  | none =>
    have hn := hx.isNone
    refine .inl ⟨hy.none, ?_⟩
    rw [hn]
    cases dx <;> (simp only [gIs, Option.some.injEq] at e; subst e; exact q.fr al (.bl _))
  | bool b =>
    cases dx <;> simp only [gIs] at e <;> cases e
    exact .inr ⟨_, _, hx.bool, hy.bool, q.fr al (.bl _)⟩
  | _ => cases dx <;> simp only [gIs] at e <;> cases e
theorem op_isAll {X : Cx} : OpR X (compareOp .Is) (fun x y H Q => (y = .non ∧ Q (.bl (decide (x = .non))) H) ∨ rIsB x y H Q) := OpR.or op_isN op_isBl
theorem op_notAll {X : Cx} : OpR X (compareOp .IsNot) (fun x y H Q => (y = .non ∧ Q (.bl (!decide (x = .non))) H) ∨ rNotB x y H Q) := OpR.or op_notN op_notBl
/-! ### in -/
def rInX (K : PySem.W.Frag) (neg : Bool) : R2 := fun x y H Q => ∃ d ds, Dp K H x d ∧ (Dp K H y (.list ds) ∨ Dp K H y (.tuple ds)) ∧ SeqAt.shaped d = true ∧ PyData.canLayAll0 ds = true ∧ Q (.bl (if neg then !ds.any (fun z => PyData.eqv z d) else ds.any fun z => PyData.eqv z d)) H
theorem op_inX {X : Cx} (hu : X.A.units + 65 < cLine) : OpR X (compareOp .In) (rInX X.K false) := by
  intro pins s σ H x y v u Q I rx ry h
  obtain ⟨d, ds, hd, hy, sd, sl, q⟩ := h
  obtain ⟨as, rd⟩ := Dp.reads I d x v hd rx
  rcases hy with hy | hy
  · obtain ⟨bs, rl⟩ := Dp.reads I _ y u hy ry
    exact SeqAt.in_list_reads rl rd (by simpa [PyData.canLay0] using sl) (SeqAt.canLay_of_shaped sd) (PyProof.Rows.room_in_shaped sd hu) ⟨.bl _, H, I, rfl, q⟩
  · obtain ⟨bs, rl⟩ := Dp.reads I _ y u hy ry
    exact SeqAt.in_tuple_reads rl rd (by simpa [PyData.canLay0] using sl) (SeqAt.canLay_of_shaped sd) (PyProof.Rows.room_in_shaped sd hu) ⟨.bl _, H, I, rfl, q⟩
theorem op_notInX {X : Cx} (hu : X.A.units + 65 < cLine) : OpR X (compareOp .NotIn) (rInX X.K true) := by
  intro pins s σ H x y v u Q I rx ry h
  obtain ⟨d, ds, hd, hy, sd, sl, q⟩ := h
  obtain ⟨as, rd⟩ := Dp.reads I d x v hd rx
  rcases hy with hy | hy
  · obtain ⟨bs, rl⟩ := Dp.reads I _ y u hy ry
    exact SeqAt.notIn_list_reads rl rd (by simpa [PyData.canLay0] using sl) (SeqAt.canLay_of_shaped sd) (PyProof.Rows.room_in_shaped sd hu) ⟨.bl _, H, I, rfl, q⟩
  · obtain ⟨bs, rl⟩ := Dp.reads I _ y u hy ry
    exact SeqAt.notIn_tuple_reads rl rd (by simpa [PyData.canLay0] using sl) (SeqAt.canLay_of_shaped sd) (PyProof.Rows.room_in_shaped sd hu) ⟨.bl _, H, I, rfl, q⟩
def gInS (neg : Bool) : PyData → PyData → Option SV
  | d, .list ds => if SeqAt.shaped d && PyData.canLayAll0 ds then some (frv (.bool (if neg then !ds.any (fun z => PyData.eqv z d) else ds.any fun z => PyData.eqv z d))) else none
  | d, .tuple ds => if SeqAt.shaped d && PyData.canLayAll0 ds then some (frv (.bool (if neg then !ds.any (fun z => PyData.eqv z d) else ds.any fun z => PyData.eqv z d))) else none
  | _, _ => none
theorem opG_inS {neg : Bool} : OpG K (rInX K neg) (gInS neg) := by
  intro F H x y dx dy sv Q al hx hy e q
  cases dy with
  | list ds =>
    simp only [gInS] at e
    split at e
    · rename_i h
      rw [Bool.and_eq_true] at h
      cases e
      obtain ⟨a, xs, rfl, ha, ra⟩ := hy.sql
      exact ⟨dx, ds, hx.dp h.1, .inl (.lst ha (RpL.dp ds _ h.2 ra)), h.1, h.2, q.fr al (.bl _)⟩
    · cases e
  | tuple ds =>
    simp only [gInS] at e
    split at e
    · rename_i h
      rw [Bool.and_eq_true] at h
      cases e
      obtain ⟨a, xs, rfl, ha, ra⟩ := hy.tuple
      exact ⟨dx, ds, hx.dp h.1, .inr (.tup (SqT.of ha) (RpL.dp ds _ h.2 ra)), h.1, h.2, q.fr al (.bl _)⟩
    · cases e
  | _ => simp only [gInS] at e; cases e
end
end Pv

set_option maxRecDepth 100000
/-! Pv, part E: order, tests, subscripts, slices, arguments, displays, built-ins. -/
namespace Pv
open PySem PySem.Spec L2
/-! ### order -/
def ordOk (d e : PyData) : Bool := PySem.W.alike d e && !isNn d && d.canLay0 && e.canLay0 && decide (d.depth ≤ 64)
theorem isNn_ne {d : PyData} (h : isNn d = false) : d ≠ .none := by
  cases d <;> first | (intro z; cases z; done) | cases h
def rOrd (K : PySem.W.Frag) (f : PyData → PyData → Bool) : R2 := fun x y H Q => ∃ d e, Dp K H x d ∧ Dp K H y e ∧ ordOk d e = true ∧ Q (.bl (f d e)) H
theorem ord_room {A : Around} {d e : PyData} (h : d.depth ≤ 64) (hu : A.units + 65 < cLine) : A.units + min d.depth e.depth < cLine := by
  have := Nat.min_le_left d.depth e.depth
  omega
theorem ordOk_un {d e : PyData} (h : ordOk d e = true) : PySem.W.alike d e = true ∧ d ≠ .none ∧ d.canLay0 = true ∧ e.canLay0 = true ∧ d.depth ≤ 64 := by
  unfold ordOk at h
  simp only [Bool.and_eq_true, decide_eq_true_eq, Bool.not_eq_true'] at h
  exact ⟨h.1.1.1.1, isNn_ne h.1.1.1.2, h.1.1.2, h.1.2, h.2⟩
section
variable {X : Cx}
theorem op_ltX (hu : X.A.units + 65 < cLine) : OpR X (compareOp .Lt) (rOrd X.K fun d e => PySem.W.dataLt d e) := by
  intro pins s σ H x y v u Q I rx ry ⟨d, e, hd, he, o, q⟩
  obtain ⟨a, n, _, _, hh⟩ := ordOk_un o
  obtain ⟨as, r1⟩ := Dp.reads I d x v hd rx
  obtain ⟨bs, r2⟩ := Dp.reads I e y u he ry
  exact PySem.W.lt_data r1 r2 a n (ord_room hh hu) ⟨.bl _, H, I, rfl, q⟩
theorem op_gtX (hu : X.A.units + 65 < cLine) : OpR X (compareOp .Gt) (rOrd X.K fun d e => PySem.W.dataLt e d) := by
  intro pins s σ H x y v u Q I rx ry ⟨d, e, hd, he, o, q⟩
  obtain ⟨a, n, _, _, hh⟩ := ordOk_un o
  obtain ⟨as, r1⟩ := Dp.reads I d x v hd rx
  obtain ⟨bs, r2⟩ := Dp.reads I e y u he ry
  exact PySem.W.gt_data r1 r2 a n (ord_room hh hu) ⟨.bl _, H, I, rfl, q⟩
theorem op_leX (hu : X.A.units + 65 < cLine) : OpR X (compareOp .LtE) (rOrd X.K fun d e => !PySem.W.dataLt e d) := by
  intro pins s σ H x y v u Q I rx ry ⟨d, e, hd, he, o, q⟩
  obtain ⟨a, n, _, _, hh⟩ := ordOk_un o
  obtain ⟨as, r1⟩ := Dp.reads I d x v hd rx
  obtain ⟨bs, r2⟩ := Dp.reads I e y u he ry
  exact PySem.W.le_data r1 r2 a n (ord_room hh hu) ⟨.bl _, H, I, rfl, q⟩
theorem op_geX (hu : X.A.units + 65 < cLine) : OpR X (compareOp .GtE) (rOrd X.K fun d e => !PySem.W.dataLt d e) := by
  intro pins s σ H x y v u Q I rx ry ⟨d, e, hd, he, o, q⟩
  obtain ⟨a, n, _, _, hh⟩ := ordOk_un o
  obtain ⟨as, r1⟩ := Dp.reads I d x v hd rx
  obtain ⟨bs, r2⟩ := Dp.reads I e y u he ry
  exact PySem.W.ge_data r1 r2 a n (ord_room hh hu) ⟨.bl _, H, I, rfl, q⟩
end
section
variable {K : PySem.W.Frag} {F F' F1 F2 W : Reg} {H H' H1 H2 : Hp} {σ σ' : L2.St} {ρ ρ' ρ1 ρ2 : PEnv} {E : EK} {α β : Type} {C : β → PEnv → Reg → Hp → Prop}
theorem Ro.dpL {d : PyData} {v : V} (c : d.canLay0 = true) (h : Ro K F H v d) : Dp K H v d := by
  cases d with
  | none => rw [h.none]; exact .non
  | bool b => rw [h.bool]; exact .bl b
  | int i => rw [h.int]; exact .int i
  | str x => rw [h.str]; exact .str x
  | dict ds => exact absurd c (by simp [PyData.canLay0])
  | list ds =>
    obtain ⟨a, xs, rfl, q, r⟩ := h.sql
    exact .lst q (RpL.dp ds _ (by simpa [PyData.canLay0] using c) r)
  | tuple ds =>
    obtain ⟨a, xs, rfl, q, r⟩ := h.tuple
    exact .tup (SqT.of q) (RpL.dp ds _ (by simpa [PyData.canLay0] using c) r)
def gOrdD (f : PyData → PyData → Bool) : PyData → PyData → Option SV := fun d e => if ordOk d e then some (frv (.bool (f d e))) else none
theorem opG_ordD {f : PyData → PyData → Bool} : OpG K (rOrd K f) (gOrdD f) := by
  intro F H x y dx dy sv Q al hx hy e q
  unfold gOrdD at e
  split at e
  · rename_i h
    cases e
    obtain ⟨_, _, c1, c2, _⟩ := ordOk_un h
    exact ⟨dx, dy, hx.dpL c1, hy.dpL c2, h, q.fr al (.bl _)⟩
  · cases e
/-- ints first: the plain way -/
def gOrd (p : Int → Int → Bool) (f : PyData → PyData → Bool) : PyData → PyData → Option SV := fun d e => (gI (fun _ _ => true) (fun i j => .bool (p i j)) d e).or (gOrdD f d e)
def rOrdA (K : PySem.W.Frag) (p : Int → Int → Bool) (f : PyData → PyData → Bool) : R2 := fun x y H Q => rI0 (fun i j => .bl (p i j)) x y H Q ∨ rOrd K f x y H Q
theorem opG_ord {p : Int → Int → Bool} {f : PyData → PyData → Bool} : OpG K (rOrdA K p f) (gOrd p f) := OpG.or (opG_I0 fun _ _ _ _ => .bl _) opG_ordD
def gLt := gOrd (fun i j => decide (i < j)) fun d e => PySem.W.dataLt d e
def gLe := gOrd (fun i j => decide (i ≤ j)) fun d e => !PySem.W.dataLt e d
def gGt := gOrd (fun i j => decide (j < i)) fun d e => PySem.W.dataLt e d
def gGe := gOrd (fun i j => decide (j ≤ i)) fun d e => !PySem.W.dataLt d e
/-! ### tests -/
def mB (f : M SV) : M Bool := do
  let sv ← f
  match sv.d with
  | .bool b => pure b
  | _ => M.bad
def mBO (f : M Opd) : M Bool := do
  let o ← f
  let sv ← rslv o
  match sv.d with
  | .bool b => pure b
  | _ => M.bad
theorem Go.bad (h : Go K E (M.bad : M β) σ F H ρ C) : False := h
theorem tB_of {f : M SV} {Q : Bool → Hp → Prop} (h : TB K E (mB f) σ H Q) : TV K E f σ H (fun z H' => ∃ k, z = .bl k ∧ Q k H') := by
  obtain ⟨F, ρ, g, go⟩ := h
  refine ⟨F, ρ, g, (Go.bind go).mono ?_⟩
  rintro sv ρ1 F1 H1 ⟨g1, s1, sub1, go1⟩ v hv
  obtain ⟨d, o⟩ := sv
  cases d with
  | bool b => exact ⟨b, (Ro.bool ⟨o, hv.rep⟩), Go.pure go1 F1 H1 .refl g1⟩
  | _ => exact go1.elim
theorem tBO_of {f : M Opd} {Q : Bool → Hp → Prop} (h : TB K E (mBO f) σ H Q) : TO K E f σ H (fun z H' => ∃ k, z = .bl k ∧ Q k H') := by
  obtain ⟨F, ρ, g, go⟩ := h
  refine ⟨F, ρ, g, (Go.bind go).mono ?_⟩
  rintro o ρ1 F1 H1 ⟨g1, s1, sub1, go1⟩ v hv
  obtain ⟨⟨d, ow⟩, e, go2⟩ := Go.rsl go1
  cases d with
  | bool b => exact ⟨b, (hv.ro' g1 e).bool, Go.pure go2 F1 H1 .refl g1⟩
  | _ => exact go2.elim
def mAnd (fa fb : M Bool) : M Bool := do if ← fa then fb else pure false
def mOr (fa fb : M Bool) : M Bool := do if ← fa then pure true else fb
def mNot (fa : M Bool) : M Bool := do return !(← fa)
def mIte {α : Type} (fc : M Bool) (fa fb : M α) : M α := do if ← fc then fa else fb
theorem tAnd_of {fa fb : M Bool} {Q : Bool → Hp → Prop} (h : TB K E (mAnd fa fb) σ H Q) : tAnd (TB K E fa) (TB K E fb) σ H Q := by
  obtain ⟨F, ρ, g, go⟩ := h
  refine ⟨F, ρ, g, (Go.bind go).mono ?_⟩
  rintro b ρ1 F1 H1 ⟨g1, s1, sub1, go1⟩
  cases b with
  | true => exact iteT ⟨F1, ρ1, g1, go1⟩
  | false => exact iteF (Go.pure go1 F1 H1 .refl g1)
theorem tOr_of {fa fb : M Bool} {Q : Bool → Hp → Prop} (h : TB K E (mOr fa fb) σ H Q) : tOr (TB K E fa) (TB K E fb) σ H Q := by
  obtain ⟨F, ρ, g, go⟩ := h
  refine ⟨F, ρ, g, (Go.bind go).mono ?_⟩
  rintro b ρ1 F1 H1 ⟨g1, s1, sub1, go1⟩
  cases b with
  | true => exact iteT (Go.pure go1 F1 H1 .refl g1)
  | false => exact iteF ⟨F1, ρ1, g1, go1⟩
theorem tNot_of {fa : M Bool} {Q : Bool → Hp → Prop} (h : TB K E (mNot fa) σ H Q) : tNot (TB K E fa) σ H Q := by
  obtain ⟨F, ρ, g, go⟩ := h
  refine ⟨F, ρ, g, (Go.bind go).mono ?_⟩
  rintro b ρ1 F1 H1 ⟨g1, s1, sub1, go1⟩
  exact Go.pure go1 F1 H1 .refl g1
theorem tIf_of {fc : M Bool} {fa fb : M SV} {Q : VK} (h : TV K E (mIte fc fa fb) σ H Q) : tIf (TB K E fc) (TV K E fa) (TV K E fb) σ H Q := by
  obtain ⟨F, ρ, g, go⟩ := h
  refine ⟨F, ρ, g, (Go.bind go).mono ?_⟩
  rintro b ρ1 F1 H1 ⟨g1, s1, sub1, go1⟩
  have up : ∀ {f : M SV}, Go K E f σ F1 H1 ρ1 (fun sv ρ' F' H' => ∀ v, VR K σ ρ H ρ' F' H' v sv → Q v H') → TV K E f σ H1 Q := fun {f} go => ⟨F1, ρ1, g1, go.mono fun sv ρ' F' H' h v hv => h v (hv.from s1 sub1)⟩
  cases b with
  | true => exact iteT (up go1)
  | false => exact iteF (up go1)
/-- and, or, not as values -/
def mAndV (fa fb : M SV) : M SV := do if ← mB fa then fb else pure (frv (.bool false))
def mOrV (fa fb : M SV) : M SV := do if ← mB fa then pure (frv (.bool true)) else fb
def mNotV (fa : M SV) : M SV := do return frv (.bool (!(← mB fa)))
theorem boolB {f : M SV} {g : Bool → M SV} {Q : VK} (h : TV K E (mB f >>= g) σ H Q) : TV K E f σ H (fun z H1 => ∃ c, z = .bl c ∧ TV K E (g c) σ H1 Q) := by
  obtain ⟨F, ρ, gd, go⟩ := h
  have h2 : TB K E (mB f) σ H (fun c H1 => TV K E (g c) σ H1 Q) := ⟨F, ρ, gd, (Go.bind go).mono fun b ρ1 F1 H1 ⟨g1, s1, sub1, go1⟩ =>
    ⟨F1, ρ1, g1, go1.mono fun sv ρ' F' H' h v hv => h v (hv.from s1 sub1)⟩⟩
  exact tB_of h2
theorem tv_pure {d : PyData} {v : V} {Q : VK} (h : TV K E (pure (frv d)) σ H Q) (r : ∀ F H, Rp K F H v d) : Q v H :=
  let ⟨F, ρ, g, go⟩ := h
  Go.pure go F H .refl g v ⟨r F H, (fun z => nomatch z), fun z => nomatch z⟩
end
section
variable {X : Cx} {E : EK} {pos : Pos} {a b c e : Expr} {rest : List Expr}
theorem qt_val {f : M SV} (h : PE X e (TV X.K E f)) (he : ∀ whole, isTrue e X.env whole = (do let v ← whole; standAt e.pos; holding [v] (truthy v))) : PT X e (TB X.K E (mB f)) := PT.imp (pt_val h he) fun _ _ _ q => tB_of q
theorem qt_valO {f : M Opd} (h : PE X e (TO X.K E f)) (he : ∀ whole, isTrue e X.env whole = (do let v ← whole; standAt e.pos; holding [v] (truthy v))) : PT X e (TB X.K E (mBO f)) := PT.imp (pt_val h he) fun _ _ _ q => tBO_of q
theorem qt_cmp {fa fb : M Opd} {g : PyData → PyData → Option SV} {r : R2} {cop : CmpOp} (ho : OpR X (compareOp cop) r) (hg : OpG X.K r g) (ha : PE X a (TO X.K E fa)) (hb : PE X b (TO X.K E fb)) (hm : behindInMarks cop b = false) :
    PT X (.Compare a [cop] [b] pos) (TB X.K E (mB (mOp2 g fa fb))) := PT.imp (pt_cmpR ho ha hb hm) fun _ _ _ q => tOp_of hg (tB_of q)
theorem qw_and1 {f : M Bool} (h : PT X a (TB X.K E f)) : PW X (.BoolOp .And [a] pos) (TB X.K E f) := pw_and1 h
theorem qw_or1 {f : M Bool} (h : PT X a (TB X.K E f)) : PW X (.BoolOp .Or [a] pos) (TB X.K E f) := pw_or1 h
theorem qw_and {fa fb : M Bool} (ha : PT X a (TB X.K E fa)) (hb : PW X (.BoolOp .And (b :: rest) pos) (TB X.K E fb)) : PW X (.BoolOp .And (a :: b :: rest) pos) (TB X.K E (mAnd fa fb)) := PW.imp (pw_and ha hb) fun _ _ _ q => tAnd_of q
theorem qw_or {fa fb : M Bool} (ha : PT X a (TB X.K E fa)) (hb : PW X (.BoolOp .Or (b :: rest) pos) (TB X.K E fb)) : PW X (.BoolOp .Or (a :: b :: rest) pos) (TB X.K E (mOr fa fb)) := PW.imp (pw_or ha hb) fun _ _ _ q => tOr_of q
theorem qt_not {fa : M Bool} (ha : PT X a (TB X.K E fa)) : PT X (.UnaryOp .Not a pos) (TB X.K E (mNot fa)) := PT.imp (pt_not ha) fun _ _ _ q => tNot_of q
theorem qe_ite {fc : M Bool} {fa fb : M SV} (hc : PT X c (TB X.K E fc)) (ha : PE X a (TV X.K E fa)) (hb : PE X b (TV X.K E fb)) : PE X (.IfExp c a b pos) (TV X.K E (mIte fc fa fb)) := PE.imp (pe_ifExp hc ha hb) fun _ _ _ q => tIf_of q
theorem qe_one {op : BoolOp} {f : M SV} (h : PE X a (TV X.K E f)) : PE X (.BoolOp op [a] pos) (TV X.K E f) := pe_one h
theorem qe_and {fa fb : M SV} (ha : PE X a (TV X.K E fa)) (hb : PE X (.BoolOp .And (b :: rest) pos) (TV X.K E fb)) : PE X (.BoolOp .And (a :: b :: rest) pos) (TV X.K E (mAndV fa fb)) :=
  PE.imp (pe_and ha hb) fun σ H Q q => by
    obtain ⟨F, ρ, g, go⟩ := boolB q
    refine ⟨F, ρ, g, go.mono fun sv ρ' F' H' h v hv => ?_⟩
    obtain ⟨c, e, h⟩ := h v hv
    refine ⟨c, e, ?_⟩
    cases c with
    | true => exact iteT h
    | false => exact iteF (tv_pure h fun _ _ => .bl _)
theorem qe_or {fa fb : M SV} (ha : PE X a (TV X.K E fa)) (hb : PE X (.BoolOp .Or (b :: rest) pos) (TV X.K E fb)) : PE X (.BoolOp .Or (a :: b :: rest) pos) (TV X.K E (mOrV fa fb)) :=
  PE.imp (pe_or ha hb) fun σ H Q q => by
    obtain ⟨F, ρ, g, go⟩ := boolB q
    refine ⟨F, ρ, g, go.mono fun sv ρ' F' H' h v hv => ?_⟩
    obtain ⟨c, e, h⟩ := h v hv
    refine ⟨c, e, ?_⟩
    cases c with
    | true => exact iteT (tv_pure h fun _ _ => .bl _)
    | false => exact iteF h
theorem qe_not {fa : M SV} (ha : PE X a (TV X.K E fa)) : PE X (.UnaryOp .Not a pos) (TV X.K E (mNotV fa)) :=
  PE.imp (pe_not ha) fun σ H Q q => by
    obtain ⟨F, ρ, g, go⟩ := boolB q
    refine ⟨F, ρ, g, go.mono fun sv ρ' F' H' h v hv => ?_⟩
    obtain ⟨c, e, h⟩ := h v hv
    exact ⟨c, e, tv_pure h fun _ _ => .bl _⟩
end
end Pv

set_option maxRecDepth 100000
/-! Pv, part F: subscripts, slices, arguments, displays, built-ins. -/
namespace HT
open PySem PySem.Spec PyProof.Rows
section
variable {prog : Program} {w : World} {A : Around} {E : Value → Shared → Prop} {s : Shared}
theorem adjust_rev (n : Nat) : Builtin.Slice.sliceAdjust none none (-1) (n : Int) = ((n : Int) - 1, -1) := by
  unfold Builtin.Slice.sliceAdjust
  simp
theorem places_rev (n : Nat) : Builtin.Slice.slicePlaces ((n : Int) - 1) (-1) (-1) = n := by
  unfold Builtin.Slice.slicePlaces
  have h1 : ¬ ((-1 : Int) > 0) := by omega
  simp only [h1, if_false]
  by_cases h : n = 0
  · subst h; simp
  · have h2 : (-1 : Int) < (n : Int) - 1 := by omega
    simp only [h2, if_true]
    have e : ((-1 : Int) - ((n : Int) - 1) + 1) / (-1) + 1 = n := by
      rw [Int.ediv_neg, Int.ediv_one]; omega
    first
      | (rw [show ((n : Int) - 1 - -1 - 1) / (- -1) + 1 = (n : Int) by rw [show (- -1 : Int) = 1 from rfl, Int.ediv_one]; omega]; simp)
      | (rw [e]; simp)
      | (simp; omega)
theorem sliceApplied_rev {sl : Addr} {vl vu vs : Value} {n : Nat} {Q : Int × Int × Nat → Shared → Prop} (hs : s.heap.IsSliceOf sl vl vu vs) (pl : IsPart vl none) (pu : IsPart vu none) (ps : IsPart vs (some (-1)))
    (h : Q ((n : Int) - 1, -1, n) s) : wpAny (model prog w) A (Builtin.Slice.sliceApplied (.ref sl) (pure (n : Int))) Q E s := by
  obtain ⟨os, hos, hcs, hds⟩ := id hs
  unfold Builtin.Slice.sliceApplied Builtin.Slice.sliceFields
  refine wpAny_bind (wpAny_bind (wpAny_field hos hds (x := vl) rfl (wpAny_bind (wpAny_field hos hds (x := vu) rfl (wpAny_bind (wpAny_field hos hds (x := vs) rfl (wpAny_pure ?_)))))))
  refine wpAny_bind (slicePart_ ps ?_)
  show wpAny _ _ (if ((-1 : Int) == 0) = true then _ else _) _ _ s
  rw [if_neg (by decide)]
  refine wpAny_bind (slicePart_ pl (wpAny_bind (slicePart_ pu (wpAny_bind (wpAny_pure ?_)))))
  show wpAny _ _ (match Builtin.Slice.sliceAdjust none none (-1) (n : Int) with | (lo, hi) => pure (lo, (-1 : Int), Builtin.Slice.slicePlaces lo hi (-1))) _ _ s
  rw [adjust_rev]
  show wpAny _ _ (pure ((n : Int) - 1, (-1 : Int), Builtin.Slice.slicePlaces ((n : Int) - 1) (-1) (-1))) _ _ s
  rw [places_rev]
  exact wpAny_pure h
theorem filterMap_congr' {α β : Type} {f g : α → Option β} : ∀ {l : List α}, (∀ a ∈ l, f a = g a) → l.filterMap f = l.filterMap g
  | [], _ => rfl
  | a :: l, h => by
    rw [List.filterMap_cons, List.filterMap_cons, h a List.mem_cons_self, filterMap_congr' fun b hb => h b (List.mem_cons_of_mem _ hb)]
theorem pick_rev (xs : Array Value) : ((List.range xs.size).filterMap fun (m : Nat) => xs[((xs.size : Int) - 1 + (m : Int) * (-1)).toNat]?) = xs.toList.reverse := by
  have e : ∀ m ∈ List.range xs.size, xs[((xs.size : Int) - 1 + (m : Int) * (-1)).toNat]? = ((fun k => xs[k]?) ∘ fun k => xs.size - 1 - k) m := fun m hm => by
    have := List.mem_range.mp hm
    show _ = xs[xs.size - 1 - m]?
    have e : ((xs.size : Int) - 1 + (m : Int) * (-1)).toNat = xs.size - 1 - m := by omega
    rw [e]
  rw [filterMap_congr' e, ← List.filterMap_map, PySem.W.krv_range, List.filterMap_reverse, PySem.W.krv_all]
theorem getItem_tuple_rev {t sl : Addr} {items : Array Value} {vl vu vs : Value} {Q : Value → Shared → Prop} (ht : IsTup s.heap t items) (hs : s.heap.IsSliceOf sl vl vu vs) (pl : IsPart vl none) (pu : IsPart vu none) (ps : IsPart vs (some (-1)))
    (h : Q (.ref s.heap.objs.size) { s with heap := s.heap.push { cls := .type "tuple", data := .seq items.toList.reverse.toArray } })
    (hsz : items.size ≤ sizeLine) : wpAny (model prog w) A (getItem (.ref t) (.ref sl)) Q E s := by
  have htake : sizeOk (.seq items.toList.reverse.toArray) := by
    show items.toList.reverse.toArray.size ≤ sizeLine
    rw [List.size_toArray, List.length_reverse, Array.length_toList]
    exact hsz
  obtain ⟨os, hos, hcs, hds⟩ := id hs
  have hTs : s.TypeIs (.ref sl) "slice" := ⟨os, hos, hcs⟩
  unfold getItem
  try with_reducible refine wpAny_holding ?_
  first | refine wpAny_bind (wpAny_pure ?_) | skip
  refine wpAny_bind (wpAny_sequenceKey ht.typeIs (by decide) ?_)
  refine wpAny_bind (wpAny_callSpecial?_slot (name := Str.ofString "__getitem__") ht.typeIs PyProof.Rows.slot_tuple_getitem
    (wpAny_call_entry PyProof.Rows.slot_tuple_getitem ht.typeIs entry_tuple_getitem ?_ (args_tuple_getitem _ _)))
  show wpAny _ _ (Builtin.Tuple.tupleItemsOf (.ref t) >>= _) _ _ s
  refine wpAny_bind (tupleItemsOf_ ht ?_)
  refine wpAny_bind (wpAny_typeOf hTs ?_)
  rw [if_pos (by decide)]
  refine wpAny_bind (sliceApplied_rev hs pl pu ps ?_)
  have hno : ¬ ((((items.size : Int) - 1) == 0 && (-1 : Int) == 1 && items.size == items.size) = true) := by
    intro q
    rw [Bool.and_eq_true, Bool.and_eq_true] at q
    exact absurd (eq_of_beq q.1.2) (by decide)
  show wpAny _ _ (if (((items.size : Int) - 1) == 0 && (-1 : Int) == 1 && items.size == items.size) = true then _ else _) _ _ s
  rw [if_neg hno, pick_rev]
  first
    | exact wpAny_bind (m := Builtin.Tuple.tupleExact _) (wpAny_newObj_type (wpAny_pure ⟨_, rfl, wpAny_pure h⟩) htake)
    | exact wpAny_bind (m := Builtin.Tuple.tupleExact _) (wpAny_newObj_type (wpAny_bind (wpAny_pure (wpAny_pure ⟨_, rfl, wpAny_pure h⟩))) htake)
    | exact wpAny_bind (wpAny_bind (m := Builtin.Tuple.tupleExact _) (wpAny_newObj_type (wpAny_pure (wpAny_pure ⟨_, rfl, wpAny_pure h⟩)) htake))
    | exact wpAny_bind (wpAny_bind (m := Builtin.Tuple.tupleExact _) (wpAny_newObj_type (wpAny_pure ⟨_, rfl, wpAny_pure h⟩) htake))
end
end HT
namespace Pv
open PySem PySem.Spec L2
section
variable {K : PySem.W.Frag} {F F' F1 F2 W : Reg} {H H' H1 H2 : Hp} {σ σ' : L2.St} {ρ ρ' ρ1 ρ2 : PEnv} {E : EK} {α β : Type} {C : β → PEnv → Reg → Hp → Prop}
theorem RpL.atI {xs : List V} {ds : List PyData} {i : Int} {d : PyData} (r : RpL K F H xs ds) (e : L2.atI ds i = some d) : ∃ v, L2.atI xs i = some v ∧ Rp K F H v d := by
  unfold L2.atI at e ⊢
  rw [r.length]
  cases h : ixN ds.length i with
  | none => rw [h] at e; cases e
  | some j =>
    rw [h] at e
    exact RpL.getD r e
/-! ### subscripts -/
def gIxS : PyData → PyData → Option SV
  | .list ds, .int i => (L2.atI ds i).map frv
  | .tuple ds, .int i => (L2.atI ds i).map frv
  | .str z, .int i => if z.length ≤ sizeLine then (L2.atI z.cps.toList i).map fun c => frv (.str ⟨#[c]⟩) else none
  | _, _ => none
theorem opG_ixS : OpG K (rIx K) gIxS := by
  intro F H x y dx dy sv Q al hx hy e q
  cases dy with
  | int i =>
    have ey := hy.int
    cases dx with
    | list ds =>
      simp only [gIxS, Option.map_eq_some_iff] at e
      obtain ⟨d, e, rfl⟩ := e
      obtain ⟨a, xs, rfl, ha, r⟩ := hx.sql
      obtain ⟨v, ev, rv⟩ := r.atI e
      exact .inl ⟨a, xs, i, v, rfl, ey, ha, ev, q.fr al rv⟩
    | tuple ds =>
      simp only [gIxS, Option.map_eq_some_iff] at e
      obtain ⟨d, e, rfl⟩ := e
      obtain ⟨a, xs, rfl, ha, r⟩ := hx.tuple
      obtain ⟨v, ev, rv⟩ := r.atI e
      exact .inr (.inl ⟨a, xs, i, v, rfl, ey, SqT.of ha, ev, q.fr al rv⟩)
    | str z =>
      simp only [gIxS] at e
      split at e
      · rename_i hz
        rw [Option.map_eq_some_iff] at e
        obtain ⟨c, e, rfl⟩ := e
        exact .inr (.inr ⟨z, i, c, hx.str, ey, hz, e, q.fr al (.str _)⟩)
      · cases e
    | _ => simp only [gIxS] at e; cases e
  | _ => cases dx <;> simp only [gIxS] at e <;> cases e
/-! ### slices -/
/-- the bounds of a slice: an int or nothing -/
def asPart : Option PyData → Option (Option Int)
  | none => some none
  | some (.int i) => some (some i)
  | _ => none
def cutD {α : Type} (xs : List α) (lo hi : Option Int) : List α := (xs.drop (HT.sIx xs.length 0 lo)).take (HT.sIx xs.length xs.length hi - HT.sIx xs.length 0 lo)
def gSl : PyData → Option Int → Option Int → Option SV
  | .list ds, lo, hi => some ⟨.list (cutD ds lo hi), .ow⟩
  | .tuple ds, lo, hi => some (frv (.tuple (cutD ds lo hi)))
  | .str z, lo, hi => if z.length ≤ sizeLine then some (frv (.str (cutS z lo hi))) else none
  | _, _, _ => none
def rSl (K : PySem.W.Frag) : V → Option Int → Option Int → Hp → VK → Prop := fun x lo hi H Q => rSlL K x lo hi H Q ∨ rSlA K x lo hi H Q ∨ rSlS x lo hi H Q
theorem sl_all {X : Cx} : SlR X (rSl X.K) := SlR.or sl_list (SlR.or sl_tupA sl_str)
theorem RpL.cut {xs : List V} {ds : List PyData} {lo hi : Option Int} (r : RpL K F H xs ds) : RpL K F H (cutV xs lo hi) (cutD ds lo hi) := by
  unfold cutV cutD
  rw [r.length]
  exact (r.drop _).take _
theorem cutD_whole {α : Type} {xs : List α} {lo hi : Option Int} (h : HT.sIx xs.length 0 lo = 0 ∧ HT.sIx xs.length xs.length hi = xs.length) : cutD xs lo hi = xs := by
  unfold cutD
  rw [h.1, h.2, List.drop_zero, Nat.sub_zero, List.take_length]
theorem slG {x : V} {dx : PyData} {lo hi : Option Int} {sv : SV} {Q : VK} (al : ∀ a, F a → H a ≠ none) (hx : Ro K F H x dx) (e : gSl dx lo hi = some sv) (q : Ret K F H sv Q) : rSl K x lo hi H Q := by
  cases dx with
  | list ds =>
    cases e
    obtain ⟨a, xs, rfl, ha, r⟩ := hx.sql
    exact .inl ⟨a, xs, rfl, ha, q.lst al r.cut⟩
  | tuple ds =>
    cases e
    obtain ⟨a, xs, rfl, ha, r⟩ := hx.tuple
    refine .inr (.inl ⟨a, xs, rfl, SqT.of ha, fun h => ?_, fun _ => q.tup al r.cut⟩)
    rw [r.length] at h
    rw [cutD_whole h] at q
    exact q.fr al (.tup ha r)
  | str z =>
    simp only [gSl] at e
    split at e
    · rename_i h
      cases e
      exact .inr (.inr ⟨z, hx.str, h, q.fr al (.str _)⟩)
    · cases e
  | _ => simp only [gSl] at e; cases e
/-- a slice's bound, if any -/
def mPart (f : Option (M Opd)) : M (Option Int) := match f with
  | none => pure none
  | some f => do
    let o ← f
    let sv ← rslv o
    match sv.d with
    | .int i => pure (some i)
    | _ => M.bad
def mSl (f : M Opd) (lo hi : Option (M Opd)) : M SV := do
  let o ← f
  let l ← mPart lo
  let h ← mPart hi
  let sv ← rslv o
  lift (gSl sv.d l h)
/-- a piece without a value of its own -/
def TZ (K : PySem.W.Frag) (E : EK) {α : Type} (f : M α) : L2.St → Hp → (α → Hp → Prop) → Prop := fun σ H Q => ∃ F ρ, Gd K F H σ ρ ∧ Go K E f σ F H ρ fun a _ _ H' => Q a H'
theorem tPart_of {f : Option (M Opd)} {Q : Option Int → PEnv → Reg → Hp → Prop} {F : Reg} (g : Gd K F H σ ρ) (h : Go K E (mPart f) σ F H ρ Q) :
    match f with
    | none => Q none ρ F H
    | some f => TO K E f σ H (fun x H1 => ∃ i, x = .int i ∧ ∃ ρ1 F1, Gd K F1 H1 σ ρ1 ∧ Step (Own σ ρ) F H F1 H1 ∧ Sub σ ρ ρ1 ∧ Q (some i) ρ1 F1 H1) := by
  cases f with
  | none => exact Go.pure h F H .refl g
  | some f =>
    refine ⟨F, ρ, g, (Go.bind h).mono ?_⟩
    rintro o ρ1 F1 H1 ⟨g1, s1, sub1, go1⟩ v hv
    obtain ⟨⟨d, ow⟩, e, go2⟩ := Go.rsl go1
    cases d with
    | int i => exact ⟨i, (hv.ro' g1 e).int, ρ1, F1, g1, s1, sub1, Go.pure go2 F1 H1 .refl g1⟩
    | _ => exact go2.elim
end
section
variable {X : Cx} {E : EK} {pos p1 p2 p3 : Pos} {a b c e : Expr}
theorem qe_ix {fa fb : M Opd} {g : PyData → PyData → Option SV} {r : R2} (hr : IxR X r) (hg : OpG X.K r g) (ha : PE X a (TO X.K E fa)) (hb : PE X b (TO X.K E fb)) (hs : PlainIx b) : PE X (.Subscript a b pos) (TV X.K E (mOp2 g fa fb)) :=
  PE.imp (pe_ix hr ha hb hs) fun _ _ _ h => tOp_of hg h
/-- the parts of a slice, as rules -/
inductive Part (X : Cx) (E : EK) : Option Expr → Option (M Opd) → Prop
  | none : Part X E none none
  | some {e : Expr} {f : M Opd} : PE X e (TO X.K E f) → Part X E (some e) (some f)
def tPt (K : PySem.W.Frag) (E : EK) : Option (M Opd) → L2.TO
  | none => tNoPart
  | some f => tPart (TO K E f)
theorem Part.po {lo : Option Expr} {fl : Option (M Opd)} (h : Part X E lo fl) : PO X lo (tPt X.K E fl) := by
  cases h with
  | none => exact po_none
  | some h => exact po_some h
theorem qe_slice {fa : M Opd} {lo hi : Option Expr} {fl fh : Option (M Opd)} (ha : PE X e (TO X.K E fa)) (hl : Part X E lo fl) (hh : Part X E hi fh) : PE X (.Subscript e (.Slice lo hi none p2) pos) (TV X.K E (mSl fa fl fh)) := by
  refine PE.imp (pe_slice sl_all ha hl.po hh.po) fun σ H Q h => ?_
  obtain ⟨F, ρ, g, go⟩ := h
  refine ⟨F, ρ, g, (Go.bind go).mono ?_⟩
  rintro o ρ1 F1 H1 ⟨g1, s1, sub1, go1⟩ x hx
  -- the end: bounds known
  have fin : ∀ (l h : Option Int) (ρ3 : PEnv) (F3 : Reg) (H3 : Hp), Gd X.K F3 H3 σ ρ3 → Step (Own σ ρ1) F1 H1 F3 H3 → Sub σ ρ1 ρ3 →
      Go X.K E (do let sv ← rslv o; lift (gSl sv.d l h)) σ F3 H3 ρ3 (fun sv ρ' F' H' => ∀ v, VR X.K σ ρ H ρ' F' H' v sv → Q v H') → rSl X.K x l h H3 Q := fun l h ρ3 F3 H3 g3 s3 sub3 go3 => by
    obtain ⟨sx, ex, go4⟩ := Go.rsl go3
    obtain ⟨sv, e, fin⟩ := Go.lift go4
    exact slG g3.al ((hx.step g1 s3 sub3).ro' g3 ex) e (Ret.of g3 (s1.trans s3 fun a z => .inl (sub1.own a z)) (sub1.trans sub3) fin)
  have hi2 : ∀ (l : Option Int) (ρ2 : PEnv) (F2 : Reg) (H2 : Hp), Gd X.K F2 H2 σ ρ2 → Step (Own σ ρ1) F1 H1 F2 H2 → Sub σ ρ1 ρ2 →
      Go X.K E (do let h ← mPart fh; let sv ← rslv o; lift (gSl sv.d l h)) σ F2 H2 ρ2 (fun sv ρ' F' H' => ∀ v, VR X.K σ ρ H ρ' F' H' v sv → Q v H') → tPt X.K E fh σ H2 (fun h H3 => rSl X.K x l h H3 Q) := fun l ρ2 F2 H2 g2 s2 sub2 go2 => by
    have q := tPart_of g2 (Go.bind go2)
    cases fh with
    | none =>
      obtain ⟨_, _, _, q⟩ := q
      exact fin l none ρ2 F2 H2 g2 s2 sub2 q
    | some f =>
      obtain ⟨F0, ρ0, g0, q⟩ := q
      refine ⟨F0, ρ0, g0, q.mono fun o' ρ' F' H' h v hv => ?_⟩
      obtain ⟨i, e, ρ3, F3, g3, s3, sub3, _, _, _, q⟩ := h v hv
      exact ⟨i, e, fin l (some i) ρ3 F3 H' g3 (s2.trans s3 fun a z => .inl (sub2.own a z)) (sub2.trans sub3) q⟩
  have q := tPart_of g1 (Go.bind go1)
  show tPt X.K E fl σ H1 (fun l H2 => tPt X.K E fh σ H2 fun h H3 => rSl X.K x l h H3 Q)
  cases fl with
  | none =>
    obtain ⟨_, _, _, q⟩ := q
    exact hi2 none ρ1 F1 H1 g1 .refl .refl q
  | some f =>
    obtain ⟨F0, ρ0, g0, q⟩ := q
    refine ⟨F0, ρ0, g0, q.mono fun o' ρ' F' H' h v hv => ?_⟩
    obtain ⟨i, e, ρ3, F3, g3, s3, sub3, _, _, _, q⟩ := h v hv
    exact ⟨i, e, hi2 (some i) ρ3 F3 H' g3 s3 sub3 q⟩
/-- turned about: x[::-1] -/
def gRev : PyData → Option SV
  | .list ds => some ⟨.list ds.reverse, .ow⟩
  | .tuple ds => some (frv (.tuple ds.reverse))
  | _ => none
def rRev (K : PySem.W.Frag) : V → Hp → VK → Prop := fun x H1 Q => (∃ a xs, x = .ref a ∧ SqL K H1 a xs ∧ ∀ p, H1 p = none → Q (.ref p) (upd H1 p (.lst xs.reverse))) ∨ ∃ a xs, x = .ref a ∧ SqT K H1 a xs ∧ ∀ p, H1 p = none → Q (.ref p) (upd H1 p (.tup xs.reverse))
theorem unG_rev {K : PySem.W.Frag} : UnG K (rRev K) gRev := by
  intro F H x dx sv Q al hx e q
  cases dx <;> simp only [gRev, Option.some.injEq] at e <;> try cases e
  · obtain ⟨a, xs, rfl, ha, r⟩ := hx.sql
    exact .inl ⟨a, xs, rfl, ha, q.lst al r.reverse⟩
  · obtain ⟨a, xs, rfl, ha, r⟩ := hx.tuple
    exact .inr ⟨a, xs, rfl, SqT.of ha, q.tup al r.reverse⟩
theorem pe_rev {te : TE} {k : Nat} (he : PE X e te) : PE X (.Subscript e (.Slice none none (some (.UnaryOp .USub (.Constant (.int 1) k p1) p2)) p3) pos) (fun σ H Q => te σ H fun x H1 => rRev X.K x H1 Q) := by
  refine ⟨fun pins s σ H Q I h => ?_⟩
  refine PyProof.Rows.Subscript_ (thn (he.run pins s σ H _ I h) fun v s1 ⟨x, H1, I1, r1, q1⟩ => ?_)
  have hst : PO X (some (.UnaryOp .USub (.Constant (.int 1) k p1) p2)) (tPart (tUn (rU fun i => .int (-i)) (tC (.int 1)))) := po_some (pe_un un_neg pe_int)
  refine wpAny_Slice (thn (po_none.run pins s1 σ H1 (fun o H2 => o = none ∧ H2 = H1) I1 ⟨rfl, rfl⟩) fun vl s2 ⟨l, H2, I2, pl, el, e2⟩ => ?_)
  subst el e2
  refine thn (po_none.run pins s2 σ H2 (fun o H3 => o = none ∧ H3 = H2) I2 ⟨rfl, rfl⟩) fun vu s3 ⟨u, H3, I3, pu, eu, e3⟩ => ?_
  subst eu e3
  refine thn (hst.run pins s3 σ H3 (fun o H4 => o = some (-1) ∧ H4 = H3) I3 ⟨1, rfl, -1, rfl, rfl, rfl⟩) fun vs s4 ⟨o, H4, I4, ps, eo, e4⟩ => ?_
  subst eo e4
  have I5 : Inv X pins σ H4 { s4 with heap := s4.heap.push { cls := .type "slice", data := .fields #[vl, vu, vs] } } := I4.kept (t' := s4.toks) fun b ob q => Heap.get?_push_of_some _ q
  rcases q1 with ⟨a, xs, ex, hx, q⟩ | ⟨a, xs, ex, hx, q⟩
  · subst ex
    cases r1
    obtain ⟨its, r, ht, hz⟩ := I5.list hx
    have hlen := r.length
    show wpAny (model X.prog X.w) X.A (PyProof.Rows.subscriptTail e (.Slice none none (some (.UnaryOp .USub (.Constant (.int 1) k p1) p2)) p3) (.ref a) (.ref s4.heap.objs.size)) (EP X pins σ Q) X.xe { s4 with heap := s4.heap.push { cls := .type "slice", data := .fields #[vl, vu, vs] } }
    refine PyProof.Rows.tail_any (ops := [.ref a, .ref s4.heap.objs.size]) ht.isList.typeIs (PySem.slot_list_getitem.lookup) ?_ (by with_unfolding_all rfl)
    refine wpAny_getItem_list_slice ht.isList (Heap.IsSliceOf.new _ vl vu vs) pl pu ps (by decide) ?_ (by rw [List.size_toArray]; omega)
    rw [PySem.W.krv_pick]
    refine ⟨.ref _, _, I5.laid (t' := s4.toks) (o := .lst xs.reverse) (fun b ob q => Heap.get?_push_of_some _ q) (Nat.le_refl _) ?_, rfl, q _ (I5.hok.fresh (Nat.le_refl _))⟩
    exact ⟨by rw [List.length_reverse]; exact hz, _, 0, r.reverse, Heap.get?_push_size _ rfl⟩
  · subst ex
    cases r1
    obtain ⟨its, r, ht, hz⟩ := I5.tuple hx
    have hlen := r.length
    show wpAny (model X.prog X.w) X.A (PyProof.Rows.subscriptTail e (.Slice none none (some (.UnaryOp .USub (.Constant (.int 1) k p1) p2)) p3) (.ref a) (.ref s4.heap.objs.size)) (EP X pins σ Q) X.xe { s4 with heap := s4.heap.push { cls := .type "slice", data := .fields #[vl, vu, vs] } }
    refine PyProof.Rows.tail_any (ops := [.ref a, .ref s4.heap.objs.size]) ht.typeIs (PyProof.Rows.slot_tuple_getitem.lookup) ?_ (by with_unfolding_all rfl)
    refine HT.getItem_tuple_rev ht (Heap.IsSliceOf.new _ vl vu vs) pl pu ps ?_ (by rw [List.size_toArray]; omega)
    refine ⟨.ref _, _, I5.laid (t' := s4.toks) (o := .tup xs.reverse) (fun b ob q => Heap.get?_push_of_some _ q) (Nat.le_refl _) ?_, rfl, q _ (I5.hok.fresh (Nat.le_refl _))⟩
    exact ⟨by rw [List.length_reverse]; exact hz, _, r.reverse, PyProof.Rows.IsTup.new _ _⟩
theorem qe_rev {fa : M Opd} {k : Nat} (ha : PE X e (TO X.K E fa)) : PE X (.Subscript e (.Slice none none (some (.UnaryOp .USub (.Constant (.int 1) k p1) p2)) p3) pos) (TV X.K E (mOp1 gRev fa)) :=
  PE.imp (pe_rev ha) fun _ _ _ h => t1_of unG_rev h
end
end Pv

set_option maxRecDepth 100000
/-! Pv, part G: argument lists, displays, built-in calls. -/
namespace Pv
open PySem PySem.Spec L2
/-- pointwise -/
inductive Al {α β : Type} (R : α → β → Prop) : List α → List β → Prop
  | nil : Al R [] []
  | cons {a : α} {b : β} {as : List α} {bs : List β} : R a b → Al R as bs → Al R (a :: as) (b :: bs)
theorem Al.imp {α β : Type} {R S : α → β → Prop} (h : ∀ a b, R a b → S a b) : ∀ {as : List α} {bs : List β}, Al R as bs → Al S as bs
  | _, _, .nil => .nil
  | _, _, .cons r t => .cons (h _ _ r) (Al.imp h t)
def mnil {α : Type} : M (List α) := pure []
def mcons {α : Type} (f : M α) (fs : M (List α)) : M (List α) := do
  let a ← f
  let as ← fs
  pure (a :: as)
def rslvs : List Opd → M (List PyData)
  | [] => pure []
  | o :: os => do
    let sv ← rslv o
    let ds ← rslvs os
    pure (sv.d :: ds)
def mCall (g : List PyData → Option SV) (fs : M (List Opd)) : M SV := do
  let os ← fs
  let ds ← rslvs os
  lift (g ds)
section
variable {K : PySem.W.Frag} {F F' F1 F2 W : Reg} {H H' H1 H2 : Hp} {σ σ' : L2.St} {ρ ρ' ρ1 ρ2 : PEnv} {E : EK} {α β : Type} {C : β → PEnv → Reg → Hp → Prop}
def TAO (K : PySem.W.Frag) (E : EK) (fs : M (List Opd)) : TA := fun σ H Q => ∃ F ρ, Gd K F H σ ρ ∧ Go K E fs σ F H ρ fun os ρ' F' H' => ∀ vs, Al (OR K σ ρ H ρ' F' H') vs os → Q vs H'
def TAF (K : PySem.W.Frag) (E : EK) (fs : M (List PyData)) : TA := fun σ H Q => ∃ F ρ, Gd K F H σ ρ ∧ Go K E fs σ F H ρ fun ds _ F' H' => ∀ vs, RpL K F' H' vs ds → Q vs H'
abbrev RoL (K : PySem.W.Frag) (F : Reg) (H : Hp) : List V → List PyData → Prop := Al (Ro K F H)
theorem Go.rsls : ∀ {os : List Opd} {g : List PyData → M β}, Go K E (rslvs os >>= g) σ F H ρ C → ∃ ds, rslvs os ρ = .ok ds ρ ∧ Go K E (g ds) σ F H ρ C
  | [], g, h => ⟨[], rfl, h⟩
  | o :: os, g, h => by
    have h : Go K E ((rslv o >>= fun sv => rslvs os >>= fun ds => Pure.pure (sv.d :: ds)) >>= g) σ F H ρ C := h
    have h' : Go K E (rslv o >>= fun sv => rslvs os >>= fun ds => g (sv.d :: ds)) σ F H ρ C := by
      unfold Go at h ⊢
      have e : ((rslv o >>= fun sv => rslvs os >>= fun ds => (Pure.pure (sv.d :: ds) : M (List PyData))) >>= g) ρ = (rslv o >>= fun sv => rslvs os >>= fun ds => g (sv.d :: ds)) ρ := by
        show M.bind (M.bind (rslv o) _) g ρ = M.bind (rslv o) _ ρ
        unfold M.bind
        cases rslv o ρ with
        | bad => rfl
        | exc c d => rfl
        | ok sv ρ' =>
          show M.bind (M.bind (rslvs os) _) g ρ' = M.bind (rslvs os) _ ρ'
          unfold M.bind
          dsimp only
          cases rslvs os ρ' <;> rfl
      rw [e] at h
      exact h
    obtain ⟨sv, e1, h2⟩ := Go.rsl h'
    obtain ⟨ds, e2, h3⟩ := Go.rsls h2
    exact ⟨sv.d :: ds, by
      show (rslv o >>= fun sv => rslvs os >>= fun ds => (Pure.pure (sv.d :: ds) : M (List PyData))) ρ = _
      rw [bind_ok e1, bind_ok e2]; rfl, h3⟩
theorem roL_of (g : Gd K F1 H1 σ ρ1) : ∀ {vs : List V} {os : List Opd} {ds : List PyData}, Al (OR K σ ρ H ρ1 F1 H1) vs os → rslvs os ρ1 = .ok ds ρ1 → RoL K F1 H1 vs ds
  | _, [], ds, .nil, e => by cases e; exact .nil
  | _, o :: os, ds, .cons h r, e => by
    have e : (rslv o >>= fun sv => rslvs os >>= fun ds => (Pure.pure (sv.d :: ds) : M (List PyData))) ρ1 = .ok ds ρ1 := e
    cases e1 : rslv o ρ1 with
    | bad => rw [bind_bad e1] at e; cases e
    | exc c d => rw [bind_exc e1] at e; cases e
    | ok sv ρ2 =>
      obtain ⟨e0, hr⟩ := OR.ro g h e1
      subst ρ2
      rw [bind_ok e1] at e
      cases e2 : rslvs os ρ1 with
      | bad => rw [bind_bad e2] at e; cases e
      | exc c d => rw [bind_exc e2] at e; cases e
      | ok ds' ρ3 =>
        rw [bind_ok e2] at e
        cases e
        exact .cons hr (roL_of g r e2)
def CaG (K : PySem.W.Frag) (r : List V → Hp → VK → Prop) (g : List PyData → Option SV) : Prop := ∀ (F : Reg) (H : Hp) (vs : List V) (ds : List PyData) (sv : SV) (Q : VK),
  (∀ a, F a → H a ≠ none) → RoL K F H vs ds → g ds = some sv → Ret K F H sv Q → r vs H Q
theorem tCB_of {r : List V → Hp → VK → Prop} {g : List PyData → Option SV} {fs : M (List Opd)} {Q : VK} (hg : CaG K r g) (h : TV K E (mCall g fs) σ H Q) : tCB r (TAO K E fs) σ H Q := by
  obtain ⟨F, ρ, gd, go⟩ := h
  refine ⟨F, ρ, gd, (Go.bind go).mono ?_⟩
  rintro os ρ1 F1 H1 ⟨g1, s1, sub1, go1⟩ vs hv
  obtain ⟨ds, e, go2⟩ := Go.rsls go1
  obtain ⟨sv, e2, fin⟩ := Go.lift go2
  exact hg F1 H1 vs ds sv Q g1.al (roL_of g1 hv e) e2 (Ret.of g1 s1 sub1 fin)
end
section
variable {X : Cx} {E : EK} {pos p : Pos} {e : Expr} {es : List Expr} {x : Str}
theorem qao_nil : PA X [] (TAO X.K E mnil) := PA.imp pa_nil fun σ H Q ⟨F, ρ, g, go⟩ => Go.pure go F H .refl g [] .nil
theorem qao_cons {f : M Opd} {fs : M (List Opd)} (he : PE X e (TO X.K E f)) (hs : PA X es (TAO X.K E fs)) (h1 : starEach (e :: es) X.env = (false, eval e X.env) :: starEach es X.env) : PA X (e :: es) (TAO X.K E (mcons f fs)) :=
  PA.imp (pa_cons he hs h1) fun σ H Q ⟨F, ρ, g, go⟩ => by
    refine ⟨F, ρ, g, (Go.bind go).mono ?_⟩
    rintro o ρ1 F1 H1 ⟨g1, s1, sub1, go1⟩ x hx
    refine ⟨F1, ρ1, g1, (Go.bind go1).mono ?_⟩
    rintro os ρ2 F2 H2 ⟨g2, s2, sub2, go2⟩ vs hv
    exact Go.pure go2 F2 H2 .refl g2 (x :: vs) (.cons (hx.step g1 s2 sub2) (hv.imp fun a b r => by
      cases b with
      | slot i => exact r
      | val sv => exact VR.from r s1 sub1))
theorem qaf_nil : PA X [] (TAF X.K E mnil) := PA.imp pa_nil fun σ H Q ⟨F, ρ, g, go⟩ => Go.pure go F H .refl g [] .nil
theorem qaf_cons {f : M PyData} {fs : M (List PyData)} (he : PE X e (TF X.K E f)) (hs : PA X es (TAF X.K E fs)) (h1 : starEach (e :: es) X.env = (false, eval e X.env) :: starEach es X.env) : PA X (e :: es) (TAF X.K E (mcons f fs)) :=
  PA.imp (pa_cons he hs h1) fun σ H Q ⟨F, ρ, g, go⟩ => by
    refine ⟨F, ρ, g, (Go.bind go).mono ?_⟩
    rintro d ρ1 F1 H1 ⟨g1, s1, sub1, go1⟩ x hx
    refine ⟨F1, ρ1, g1, (Go.bind go1).mono ?_⟩
    rintro ds ρ2 F2 H2 ⟨g2, s2, sub2, go2⟩ vs hv
    exact Go.pure go2 F2 H2 .refl g2 (x :: vs) (.cons (hx.stay (s2.stay g1.wok)) hv)
def gTup (ds : List PyData) : Option SV := if ds.length ≤ sizeLine then some (frv (.tuple ds)) else none
def gLst (ds : List PyData) : Option SV := if ds.length ≤ sizeLine then some ⟨.list ds, .ow⟩ else none
def mTup (fs : M (List PyData)) : M SV := do lift (gTup (← fs))
def mLst (fs : M (List PyData)) : M SV := do lift (gLst (← fs))
theorem qe_tup {fs : M (List PyData)} {k : Nat} (h : PA X es (TAF X.K E fs)) : PE X (.Tuple es k pos) (TV X.K E (mTup fs)) := PE.imp (pe_tup h) fun σ H Q ⟨F, ρ, g, go⟩ => by
  refine ⟨F, ρ, g, (Go.bind go).mono ?_⟩
  rintro ds ρ1 F1 H1 ⟨g1, s1, sub1, go1⟩ vs hv
  obtain ⟨sv, e, fin⟩ := Go.lift go1
  unfold gTup at e
  split at e
  · rename_i hl
    cases e
    exact ⟨by rw [hv.length]; exact hl, (Ret.of g1 s1 sub1 fin).tup g1.al hv⟩
  · cases e
theorem qe_lst {fs : M (List PyData)} (h : PA X es (TAF X.K E fs)) : PE X (.List es pos) (TV X.K E (mLst fs)) := PE.imp (pe_lst h) fun σ H Q ⟨F, ρ, g, go⟩ => by
  refine ⟨F, ρ, g, (Go.bind go).mono ?_⟩
  rintro ds ρ1 F1 H1 ⟨g1, s1, sub1, go1⟩ vs hv
  obtain ⟨sv, e, fin⟩ := Go.lift go1
  unfold gLst at e
  split at e
  · rename_i hl
    cases e
    exact ⟨by rw [hv.length]; exact hl, (Ret.of g1 s1 sub1 fin).lst g1.al hv⟩
  · cases e
theorem qe_callB {id : String} {r : List V → Hp → VK → Prop} {g : List PyData → Option SV} {fs : M (List Opd)} (hc : CallR X (.builtin id) r) (hg : CaG X.K r g) (hgl : Gl X x) (hm : X.mg x = none) (hv : bootBuiltins x = some (.builtin id)) (ha : PA X (e :: es) (TAO X.K E fs))
    (hn : x ≠ "__name__") (hdb : (x == ("__debug__" : Str)) = false) (he : starEach (e :: es) X.env = (false, eval e X.env) :: starEach es X.env) (hpl : (backTo pos (starEach es X.env)).any (·.1) = false) : PE X (.Call (.Name x p) (e :: es) [] pos) (TV X.K E (mCall g fs)) :=
  PE.imp (pe_callB hc hgl hm hv ha hn hdb he hpl) fun _ _ _ h => tCB_of hg h
theorem qe_callTy {T : String} {r : List V → Hp → VK → Prop} {g : List PyData → Option SV} {fs : M (List Opd)} (hc : CallR X (.type T) r) (hg : CaG X.K r g) (hgl : Gl X x) (hm : X.mg x = none) (hv : bootBuiltins x = some (.type T)) (ha : PA X (e :: es) (TAO X.K E fs))
    (hn : x ≠ "__name__") (hdb : (x == ("__debug__" : Str)) = false) (he : starEach (e :: es) X.env = (false, eval e X.env) :: starEach es X.env) (hpl : (backTo pos (starEach es X.env)).any (·.1) = false) : PE X (.Call (.Name x p) (e :: es) [] pos) (TV X.K E (mCall g fs)) :=
  PE.imp (pe_callTy hc hgl hm hv ha hn hdb he hpl) fun _ _ _ h => tCB_of hg h
end
/-! ### the built-ins -/
section
variable {K : PySem.W.Frag} {X : Cx}
theorem CaG.or {r r' : List V → Hp → VK → Prop} {g g' : List PyData → Option SV} (h : CaG K r g) (h' : CaG K r' g') : CaG K (fun x H Q => r x H Q ∨ r' x H Q) (fun a => (g a).or (g' a)) := by
  intro F H vs ds sv Q al hv e q
  dsimp only at e
  cases e1 : g ds with
  | some s =>
    rw [e1] at e
    exact .inl (h F H vs ds sv Q al hv (e1.trans e) q)
  | none =>
    rw [e1] at e
    exact .inr (h' F H vs ds sv Q al hv e q)
def gLen : List PyData → Option SV
  | [.list ds] => some (frv (.int ds.length))
  | [.tuple ds] => some (frv (.int ds.length))
  | [.str z] => if z.length ≤ sizeLine then some (frv (.int z.length)) else none
  | _ => none
theorem caG_len : CaG K (fun xs H Q => ∃ x n, xs = [x] ∧ LenV K x H n ∧ Q (.int n) H) gLen := by
  intro F H vs ds sv Q al hv e q
  cases hv with
  | nil => simp [gLen] at e
  | cons h t =>
    rename_i a d _ ds
    cases t with
    | cons _ _ => cases d <;> simp [gLen] at e
    | nil =>
      cases d <;> simp only [gLen] at e <;> try cases e
      · split at e
        · rename_i hz
          cases e
          rw [h.str]
          exact ⟨_, _, rfl, ⟨hz, rfl⟩, q.fr al (.int _)⟩
        · cases e
      · obtain ⟨b, xs, rfl, hb, r⟩ := h.sql
        exact ⟨_, _, rfl, .inl ⟨xs, hb, r.length.symm⟩, q.fr al (.int _)⟩
      · obtain ⟨b, xs, rfl, hb, r⟩ := h.tuple
        exact ⟨_, _, rfl, .inr ⟨xs, SqT.of hb, r.length.symm⟩, q.fr al (.int _)⟩
def gAbs : List PyData → Option SV
  | [.int i] => some (frv (.int (if i < 0 then -i else i)))
  | _ => none
theorem caG_abs : CaG K (fun xs H Q => ∃ i, xs = [.int i] ∧ Q (.int (if i < 0 then -i else i)) H) gAbs := by
  intro F H vs ds sv Q al hv e q
  cases hv with
  | nil => simp [gAbs] at e
  | cons h t =>
    rename_i a d _ ds
    cases t with
    | cons _ _ => cases d <;> simp [gAbs] at e
    | nil =>
      cases d <;> simp only [gAbs] at e <;> cases e
      rw [h.int]
      exact ⟨_, rfl, q.fr al (.int _)⟩
def gInt1 : List PyData → Option SV
  | [.int i] => some (frv (.int i))
  | [.bool b] => some (frv (.int (if b then 1 else 0)))
  | _ => none
theorem caG_int1 : CaG K (fun xs H Q => (∃ i, xs = [.int i] ∧ Q (.int i) H) ∨ ∃ k, xs = [.bl k] ∧ Q (.int (if k then 1 else 0)) H) gInt1 := by
  intro F H vs ds sv Q al hv e q
  cases hv with
  | nil => simp [gInt1] at e
  | cons h t =>
    rename_i a d _ ds
    cases t with
    | cons _ _ => cases d <;> simp [gInt1] at e
    | nil =>
      cases d <;> simp only [gInt1] at e <;> cases e
      · rw [h.bool]
        exact .inr ⟨_, rfl, q.fr al (.int _)⟩
      · rw [h.int]
        exact .inl ⟨_, rfl, q.fr al (.int _)⟩
def gI2 (f : Int → Int → Int) : List PyData → Option SV
  | [.int i, .int j] => some (frv (.int (f i j)))
  | _ => none
theorem caG_I2 {f : Int → Int → Int} : CaG K (fun xs H Q => ∃ i j, xs = [.int i, .int j] ∧ Q (.int (f i j)) H) (gI2 f) := by
  intro F H vs ds sv Q al hv e q
  cases hv with
  | nil => simp [gI2] at e
  | cons h t =>
    rename_i a d _ ds
    cases t with
    | nil => cases d <;> simp [gI2] at e
    | cons h2 t =>
      rename_i a2 d2 _ ds2
      cases t with
      | cons _ _ => cases d <;> cases d2 <;> simp [gI2] at e
      | nil =>
        cases d <;> cases d2 <;> simp only [gI2] at e <;> cases e
        rw [h.int, h2.int]
        exact ⟨_, _, rfl, q.fr al (.int _)⟩
def gListOf : List PyData → Option SV
  | [.list ds] => some ⟨.list ds, .ow⟩
  | [.tuple ds] => some ⟨.list ds, .ow⟩
  | _ => none
theorem caG_listOf : CaG K (fun xs H Q => ∃ p ys, xs = [.ref p] ∧ (SqL K H p ys ∨ SqT K H p ys) ∧ ∀ l, H l = none → Q (.ref l) (upd H l (.lst ys))) gListOf := by
  intro F H vs ds sv Q al hv e q
  cases hv with
  | nil => simp [gListOf] at e
  | cons h t =>
    rename_i a d _ ds
    cases t with
    | cons _ _ => cases d <;> simp [gListOf] at e
    | nil =>
      cases d <;> simp only [gListOf] at e <;> cases e
      · obtain ⟨b, xs, rfl, hb, r⟩ := h.sql
        exact ⟨_, _, rfl, .inl hb, q.lst al r⟩
      · obtain ⟨b, xs, rfl, hb, r⟩ := h.tuple
        exact ⟨_, _, rfl, .inr (SqT.of hb), q.lst al r⟩
def gTupleOf : List PyData → Option SV
  | [.list ds] => some (frv (.tuple ds))
  | [.tuple ds] => some (frv (.tuple ds))
  | _ => none
theorem caG_tupleOf : CaG K (fun xs H Q => ∃ p ys, xs = [.ref p] ∧ ((SqL K H p ys ∧ ∀ l, H l = none → Q (.ref l) (upd H l (.tup ys))) ∨ (SqT K H p ys ∧ Q (.ref p) H))) gTupleOf := by
  intro F H vs ds sv Q al hv e q
  cases hv with
  | nil => simp [gTupleOf] at e
  | cons h t =>
    rename_i a d _ ds
    cases t with
    | cons _ _ => cases d <;> simp [gTupleOf] at e
    | nil =>
      cases d <;> simp only [gTupleOf] at e <;> cases e
      · obtain ⟨b, xs, rfl, hb, r⟩ := h.sql
        exact ⟨_, _, rfl, .inl ⟨hb, q.tup al r⟩⟩
      · obtain ⟨b, xs, rfl, hb, r⟩ := h.tuple
        exact ⟨_, _, rfl, .inr ⟨SqT.of hb, q.fr al (.tup hb r)⟩⟩
/-- the ints of data -/
def asInts : List PyData → Option (List Int)
  | [] => some []
  | .int i :: ds => (asInts ds).map (i :: ·)
  | _ => none
theorem asInts_eq : ∀ {ds : List PyData} {ns : List Int}, asInts ds = some ns → ds = ns.map PyData.int
  | [], ns, h => by cases h; rfl
  | .int i :: ds, ns, h => by
    simp only [asInts, Option.map_eq_some_iff] at h
    obtain ⟨m, h, rfl⟩ := h
    rw [asInts_eq h]; rfl
  | .none :: _, _, h | .bool _ :: _, _, h | .str _ :: _, _, h | .list _ :: _, _, h | .tuple _ :: _, _, h | .dict _ :: _, _, h => by simp [asInts] at h
theorem asInts_map : ∀ (ns : List Int), asInts (ns.map PyData.int) = some ns
  | [] => rfl
  | n :: ns => by
    show (asInts (ns.map PyData.int)).map (n :: ·) = _
    rw [asInts_map ns]; rfl
def asBools : List PyData → Option (List Bool)
  | [] => some []
  | .bool i :: ds => (asBools ds).map (i :: ·)
  | _ => none
theorem asBools_eq : ∀ {ds : List PyData} {ns : List Bool}, asBools ds = some ns → ds = ns.map PyData.bool
  | [], ns, h => by cases h; rfl
  | .bool i :: ds, ns, h => by
    simp only [asBools, Option.map_eq_some_iff] at h
    obtain ⟨m, h, rfl⟩ := h
    rw [asBools_eq h]; rfl
  | .none :: _, _, h | .int _ :: _, _, h | .str _ :: _, _, h | .list _ :: _, _, h | .tuple _ :: _, _, h | .dict _ :: _, _, h => by simp [asBools] at h
theorem asBools_map : ∀ (ns : List Bool), asBools (ns.map PyData.bool) = some ns
  | [] => rfl
  | n :: ns => by
    show (asBools (ns.map PyData.bool)).map (n :: ·) = _
    rw [asBools_map ns]; rfl
def gAllAny (f : List Bool → Bool) : List PyData → Option SV
  | [.list ds] => (asBools ds).map fun bs => frv (.bool (f bs))
  | _ => none
theorem caG_allAny {f : List Bool → Bool} : CaG K (fun vs H Q => ∃ (a : Addr) (bs : List Bool), vs = [V.ref a] ∧ SqL K H a (bs.map V.bl) ∧ Q (.bl (f bs)) H) (gAllAny f) := by
  intro F H vs ds sv Q al hv e q
  cases hv with
  | nil => simp [gAllAny] at e
  | cons h t =>
    rename_i a d _ ds
    cases t with
    | cons _ _ => cases d <;> simp [gAllAny] at e
    | nil =>
      cases d <;> simp only [gAllAny] at e <;> try cases e
      rename_i ds
      rw [Option.map_eq_some_iff] at e
      obtain ⟨bs, e, rfl⟩ := e
      obtain ⟨b, xs, rfl, hb, r⟩ := h.sql
      rw [asBools_eq e] at r
      rw [r.bools] at hb
      exact ⟨b, bs, rfl, hb, q.fr al (.bl _)⟩
/-! sum of a list or a tuple of ints -/
theorem sum_tup {prog : Program} {w : World} {A : Around} {E : Value → Shared → Prop} {s : Shared} {l : Addr} {xs : Array (Int × Tok)} {Q : Value → Shared → Prop} (hh : A.handled = none) (hl : s.heap.IsTuple l (PySem.intItems xs))
    (h : ∀ h' tk t', (∀ b o, s.heap.get? b = some o → h'.get? b = some o) → Q (.int (PySem.preSum (PySem.numAt xs) xs.size) t') { s with heap := h', toks := tk }) :
    wpAny (model prog w) A (call (.builtin "sum") [.ref l]) Q E s := by
  have hlt : l < s.heap.objs.size := by obtain ⟨_, e, _⟩ := hl; exact Heap.lt_size e
  refine PySem.call_sum_walkG (PySem.wpAny_pyIter_tuple hl ?_)
  refine ⟨_, _, _, _, _, _, PySem.numAt xs, rfl, Walks.tuple (A := A.in1) hh s.heap.objs.size l (Nat.ne_of_lt hlt) (PySem.intItems xs), ⟨⟨_, Heap.get?_push_size _ rfl, rfl, rfl⟩, hl.push _⟩, fun c hc => ?_, (fun _ _ => PySem.intItems_at), fun h' tk t' hk => ?_⟩
  · show c < (s.heap.push _).objs.size
    rw [Heap.size_push]
    rcases List.mem_cons.mp hc with rfl | hc
    · exact Nat.lt_succ_self _
    · rcases List.mem_cons.mp hc with rfl | hc
      · exact Nat.lt_succ_of_lt hlt
      · exact nomatch hc
  · have e : (PySem.intItems xs).size = xs.size := by simp [PySem.intItems]
    rw [e]
    refine h h' tk t' fun b o q => hk b o (fun hb => ?_) (Heap.get?_push_of_some _ q)
    have : b = s.heap.objs.size := by simpa using hb
    exact absurd (Heap.lt_size q) (by rw [this]; exact Nat.lt_irrefl _)
def rSumT (K : PySem.W.Frag) : List V → Hp → VK → Prop := fun vs H Q => ∃ (a : Addr) (ns : List Int), vs = [V.ref a] ∧ SqT K H a (ns.map V.int) ∧ Q (.int ns.sum) H
theorem cr_sumT (hc : X.calm = true) : CallR X (.builtin "sum") (rSumT X.K) := by
  intro pins s σ H vs us Q I r h
  obtain ⟨a, ns, rfl, hs, q⟩ := h
  obtain ⟨its, rv, hl, _⟩ := I.tuple hs
  rw [Vals.ref1 r]
  have hi := rv.ints
  obtain ⟨xs, e⟩ := hi.allInts.items
  have hn : numsOf (PySem.intItems xs).toList = ns := by rw [← e]; exact hi.numsOf
  rw [nums_intItems] at hn
  have hl' : s.heap.IsTuple a its.toArray := hl
  rw [e] at hl'
  refine sum_tup (I.ok.hd hc) hl' fun h' tk t' hk => ⟨.int _, H, I.kept hk, ⟨_, rfl⟩, ?_⟩
  rw [preSum_eq, List.take_of_length_le (by simp), hn]
  exact q
def gSum : List PyData → Option SV
  | [.list ds] => (asInts ds).map fun ns => frv (.int ns.sum)
  | [.tuple ds] => (asInts ds).map fun ns => frv (.int ns.sum)
  | _ => none
theorem caG_sum : CaG K (fun vs H Q => rSum K vs H Q ∨ rSumT K vs H Q) gSum := by
  intro F H vs ds sv Q al hv e q
  cases hv with
  | nil => simp [gSum] at e
  | cons h t =>
    rename_i a d _ ds
    cases t with
    | cons _ _ => cases d <;> simp [gSum] at e
    | nil =>
      cases d <;> simp only [gSum] at e <;> try cases e
      · rw [Option.map_eq_some_iff] at e
        obtain ⟨ns, e, rfl⟩ := e
        obtain ⟨b, xs, rfl, hb, r⟩ := h.sql
        rw [asInts_eq e] at r
        rw [r.ints] at hb
        exact .inl ⟨b, ns, rfl, hb, q.fr al (.int _)⟩
      · rw [Option.map_eq_some_iff] at e
        obtain ⟨ns, e, rfl⟩ := e
        obtain ⟨b, xs, rfl, hb, r⟩ := h.tuple
        rw [asInts_eq e] at r
        rw [r.ints] at hb
        exact .inr ⟨b, ns, rfl, SqT.of hb, q.fr al (.int _)⟩
end
end Pv

set_option maxRecDepth 100000
/-! Pv, part H: statements. -/
namespace Pv
open PySem PySem.Spec L2
/-- how a statement ends -/
inductive Fl where | nx | rt (sv : SV) | bk | ct
section
variable {K : PySem.W.Frag} {F F' F0 F1 F2 W : Reg} {H H' H0 H1 H2 : Hp} {σ σ' σ0 σ1 σ2 : L2.St} {ρ ρ' ρ0 ρ1 ρ2 : PEnv} {E : EK} {α β : Type} {fx : List Nat}
structure StepS (K : PySem.W.Frag) (fx : List Nat) (σ : L2.St) (ρ : PEnv) (F : Reg) (H : Hp) (σ' : L2.St) (ρ' : PEnv) (F' : Reg) (H' : Hp) : Prop where
  step : Step (Own σ ρ) F H F' H'
  good : Gd K F' H' σ' ρ'
  own : ∀ a, Own σ' ρ' a → Own σ ρ a ∨ H a = none
  hold : ∀ a, Hold σ' ρ' a → Hold σ ρ a ∨ H a = none
  fix : ∀ i ∈ fx, σ'[i]? = σ[i]?
theorem StepS.refl (g : Gd K F H σ ρ) : StepS K fx σ ρ F H σ ρ F H := ⟨.refl, g, fun _ z => .inl z, fun _ z => .inl z, fun _ _ => rfl⟩
theorem StepS.trans (a : StepS K fx σ ρ F H σ1 ρ1 F1 H1) (b : StepS K fx σ1 ρ1 F1 H1 σ2 ρ2 F2 H2) : StepS K fx σ ρ F H σ2 ρ2 F2 H2 := by
  have nn : ∀ c, H1 c = none → Own σ ρ c ∨ H c = none := fun c z => by
    by_cases w : Own σ ρ c
    · exact .inl w
    · cases e : H c with
      | none => exact .inr rfl
      | some o =>
        rw [a.step.keep c o e w] at z; cases z
  refine ⟨a.step.trans b.step fun c z => a.own c z, b.good, fun c z => ?_, fun c z => ?_, fun i hi => (b.fix i hi).trans (a.fix i hi)⟩
  · exact (b.own c z).elim (a.own c) (nn c)
  · exact (b.hold c z).elim (a.hold c) fun q => (nn c q).imp Own.hold id
theorem StepS.ofE (g : Gd K F' H' σ ρ') (s : Step (Own σ ρ) F H F' H') (sub : Sub σ ρ ρ') : StepS K fx σ ρ F H σ ρ' F' H' := ⟨s, g, fun a z => .inl (sub.own a z), fun a z => .inl (sub.hold a z), fun _ _ => rfl⟩
def GoS (K : PySem.W.Frag) (E : EK) (fx : List Nat) {α : Type} (f : M α) (σ : L2.St) (F : Reg) (H : Hp) (ρ : PEnv) (C : α → L2.St → PEnv → Reg → Hp → Prop) : Prop :=
  match f ρ with
  | .ok a ρ' => ∀ σ' F' H', StepS K fx σ ρ F H σ' ρ' F' H' → C a σ' ρ' F' H'
  | .exc c d => ∀ F' H', Step (Own σ ρ) F H F' H' → (∀ a, F' a → H' a ≠ none) → E c d F' H'
  | .bad => False
variable {C : β → L2.St → PEnv → Reg → Hp → Prop}
theorem GoS.mono {f : M β} {C' : β → L2.St → PEnv → Reg → Hp → Prop} (h : GoS K E fx f σ F H ρ C) (hC : ∀ a σ' ρ' F' H', C a σ' ρ' F' H' → C' a σ' ρ' F' H') : GoS K E fx f σ F H ρ C' := by
  unfold GoS at h ⊢
  split at h
  · exact fun σ' F' H' s => hC _ _ _ _ _ (h σ' F' H' s)
  · exact h
  · exact h
/-- one statement behind another -/
theorem GoS.bind {f : M α} {g : α → M β} (h : GoS K E fx (f >>= g) σ F H ρ C) : GoS K E fx f σ F H ρ fun a σ1 ρ1 F1 H1 => StepS K fx σ ρ F H σ1 ρ1 F1 H1 ∧ GoS K E fx (g a) σ1 F1 H1 ρ1 C := by
  unfold GoS at h ⊢
  cases e : f ρ with
  | bad => rw [bind_bad e] at h; exact h
  | exc c d => rw [bind_exc e] at h; exact h
  | ok a ρ1 =>
    rw [bind_ok e] at h
    intro σ1 F1 H1 s1
    refine ⟨s1, ?_⟩
    cases e2 : g a ρ1 with
    | bad => rw [e2] at h; exact h
    | exc c d =>
      rw [e2] at h
      exact fun F2 H2 s2 => h F2 H2 (s1.step.trans s2 fun a z => s1.own a z)
    | ok b ρ2 =>
      rw [e2] at h
      exact fun σ2 F2 H2 s2 => h σ2 F2 H2 (s1.trans s2)
/-- an expression ahead -/
theorem GoS.bindE {f : M α} {g : α → M β} (h : GoS K E fx (f >>= g) σ F H ρ C) : Go K E f σ F H ρ fun a ρ1 F1 H1 => Gd K F1 H1 σ ρ1 ∧ Step (Own σ ρ) F H F1 H1 ∧ Sub σ ρ ρ1 ∧ GoS K E fx (g a) σ F1 H1 ρ1 C := by
  have h := GoS.bind h
  unfold GoS at h
  unfold Go
  cases e : f ρ with
  | bad => rw [e] at h; exact h
  | exc c d => rw [e] at h; exact h
  | ok a ρ1 =>
    rw [e] at h
    exact fun F' H' s g sub => ⟨g, s, sub, (h σ F' H' (.ofE g s sub)).2⟩
theorem GoS.pure {b : β} (h : GoS K E fx (Pure.pure b : M β) σ F H ρ C) (g : Gd K F H σ ρ) : C b σ ρ F H := h σ F H (.refl g)
/-- what is returned -/
structure VRS (K : PySem.W.Frag) (σ : L2.St) (ρ : PEnv) (H : Hp) (σ' : L2.St) (ρ' : PEnv) (F' : Reg) (H' : Hp) (v : V) (sv : SV) : Prop where
  rep : Srep K F' H' v sv
  nl : sv.o ≠ .lk
  new : sv.o = .ow → ∀ a, v = .ref a → ¬ Hold σ' ρ' a ∧ (H a = none ∨ Own σ ρ a)
theorem VRS.from {v : V} {sv : SV} (r : VRS K σ1 ρ1 H1 σ' ρ' F' H' v sv) (s : StepS K fx σ ρ F H σ1 ρ1 F1 H1) : VRS K σ ρ H σ' ρ' F' H' v sv :=
  ⟨r.rep, r.nl, fun ho a e => ⟨(r.new ho a e).1, by
    rcases (r.new ho a e).2 with q | q
    · by_cases w : Own σ ρ a
      · exact .inr w
      · cases e0 : H a with
        | none => exact .inl rfl
        | some o => rw [s.step.keep a o e0 w] at q; cases q
    · exact (s.own a q).symm⟩⟩
/-- the ends of a statement's reading -/
def Cf (K : PySem.W.Frag) (D : Ends) (σ : L2.St) (ρ : PEnv) (H : Hp) : Fl → L2.St → PEnv → Reg → Hp → Prop
  | .nx, σ', _, _, H' => D.nx σ' H'
  | .bk, σ', _, _, H' => D.bk σ' H'
  | .ct, σ', _, _, H' => D.ct σ' H'
  | .rt sv, σ', ρ', F', H' => ∀ v, VRS K σ ρ H σ' ρ' F' H' v sv → D.rt v H'
def TSt (K : PySem.W.Frag) (E : EK) (fx : List Nat) (f : M Fl) : TS := fun D σ H => ∃ F ρ, Gd K F H σ ρ ∧ GoS K E fx f σ F H ρ (Cf K D σ ρ H)
theorem Cf.from {D : Ends} (s : StepS K fx σ ρ F H σ1 ρ1 F1 H1) {fl : Fl} (h : Cf K D σ ρ H fl σ' ρ' F' H') : Cf K D σ1 ρ1 H1 fl σ' ρ' F' H' := by
  cases fl with
  | rt sv => exact fun v hv => h v (hv.from s)
  | nx => exact h
  | bk => exact h
  | ct => exact h
/-! ### small statements -/
def mRet (f : M SV) : M Fl := do return .rt (← f)
/-- a name's value returned: what it owns goes along -/
def mRetV (i : Nat) : M Fl := fun ρ => match ρ[i]? with
  | some (some ⟨d, .fr⟩) => .ok (.rt ⟨d, .fr⟩) ρ
  | some (some ⟨d, .ow⟩) => .ok (.rt ⟨d, .ow⟩) (ρ.set i none)
  | _ => .bad
def mSeq (f g : M Fl) : M Fl := do
  match ← f with
  | .nx => g
  | fl => pure fl
def mIfS (fc : M Bool) (ft fe : M Fl) : M Fl := do if ← fc then ft else fe
def mDrop {α : Type} (f : M α) : M Fl := do
  let _ ← f
  pure .nx
def mSetS (i : Nat) (f : M SV) : M Fl := fun ρ => match f ρ with
  | .ok sv ρ' => if i < ρ'.length then .ok .nx (ρ'.set i (some sv)) else .bad
  | .exc c d => .exc c d
  | .bad => .bad
theorem set_gd {i : Nat} {v : V} {sv : SV} (hi : i ∉ fx) (hr : Srep K F H v sv) (g : Gd K F H σ ρ) (new : sv.o ≠ .fr → ∀ a, v = .ref a → ¬ Hold σ ρ a) (hl : i < ρ.length) :
    Gd K F H (σ.set i (some v)) (ρ.set i (some sv)) ∧ (∀ j ∈ fx, (σ.set i (some v))[j]? = σ[j]?) ∧
      (∀ a, Hold (σ.set i (some v)) (ρ.set i (some sv)) a → Hold σ ρ a ∨ (sv.o ≠ .fr ∧ v = .ref a)) ∧ (∀ a, Own (σ.set i (some v)) (ρ.set i (some sv)) a → Own σ ρ a ∨ (sv.o = .ow ∧ v = .ref a)) := by
  have hσ : i < σ.length := by rw [← g.len]; exact hl
  have hold : ∀ j a, HoldAt (σ.set i (some v)) (ρ.set i (some sv)) j a → (j ≠ i ∧ HoldAt σ ρ j a) ∨ (j = i ∧ sv.o ≠ .fr ∧ v = .ref a) := fun j a ⟨e1, sv', e2, e3⟩ => by
    by_cases hj : i = j
    · subst hj
      rw [List.getElem?_set_self hσ] at e1
      rw [List.getElem?_set_self hl] at e2
      cases e1; cases e2
      exact .inr ⟨rfl, e3, rfl⟩
    · rw [List.getElem?_set_ne hj] at e1 e2
      exact .inl ⟨fun z => hj z.symm, e1, sv', e2, e3⟩
  refine ⟨⟨by rw [List.length_set, List.length_set]; exact g.len, g.al, fun j sv' e => ?_, fun j k a h1 h2 => ?_⟩, fun j hj => List.getElem?_set_ne (fun z => hi (by rw [z]; exact hj)), fun a ⟨j, h⟩ => ?_, fun a ⟨j, e1, sv', e2, e3⟩ => ?_⟩
  · by_cases hj : i = j
    · subst hj
      rw [List.getElem?_set_self hl] at e
      cases e
      exact ⟨v, List.getElem?_set_self hσ, hr⟩
    · rw [List.getElem?_set_ne hj] at e
      obtain ⟨w, ew, r⟩ := g.sl j sv' e
      exact ⟨w, by rw [List.getElem?_set_ne hj]; exact ew, r⟩
  · rcases hold j a h1 with ⟨n1, q1⟩ | ⟨rfl, q1, e1⟩ <;> rcases hold k a h2 with ⟨n2, q2⟩ | ⟨rfl, q2, e2⟩
    · exact g.dis j k a q1 q2
    · exact absurd ⟨j, q1⟩ (new q2 a e2)
    · exact absurd ⟨k, q2⟩ (new q1 a e1)
    · rfl
  · exact (hold j a h).imp (fun q => ⟨j, q.2⟩) fun q => q.2
  · by_cases hj : i = j
    · subst hj
      rw [List.getElem?_set_self hσ] at e1
      rw [List.getElem?_set_self hl] at e2
      cases e1; cases e2
      exact .inr ⟨e3, rfl⟩
    · rw [List.getElem?_set_ne hj] at e1 e2
      exact .inl ⟨j, e1, sv', e2, e3⟩
theorem mSetS_go {i : Nat} {f : M SV} {C : Fl → L2.St → PEnv → Reg → Hp → Prop} (hi : i ∉ fx) (h : GoS K E fx (mSetS i f) σ F H ρ C) :
    Go K E f σ F H ρ fun sv ρ1 F1 H1 => ∀ v, VR K σ ρ H ρ1 F1 H1 v sv → StepS K fx σ ρ F H (σ.set i (some v)) (ρ1.set i (some sv)) F1 H1 ∧ C .nx (σ.set i (some v)) (ρ1.set i (some sv)) F1 H1 := by
  unfold GoS mSetS at h
  unfold Go
  cases e : f ρ with
  | bad => rw [e] at h; exact h
  | exc c d => rw [e] at h; exact h
  | ok sv ρ1 =>
    rw [e] at h
    dsimp only at h ⊢
    intro F1 H1 s1 gd sub v hv
    by_cases hl : i < ρ1.length
    · rw [if_pos hl] at h
      have no : sv.o ≠ .fr → sv.o = .ow := fun h => by
        have := hv.nl
        cases e : sv.o
        · exact absurd e h
        · rfl
        · exact absurd e this
      obtain ⟨g2, fixd, hold, own⟩ := set_gd (fx := fx) hi hv.rep gd (fun q a e => (hv.new (no q) a e).1) hl
      have all : StepS K fx σ ρ F H (σ.set i (some v)) (ρ1.set i (some sv)) F1 H1 := by
        refine ⟨s1, g2, fun a z => ?_, fun a z => ?_, fixd⟩
        · rcases own a z with q | ⟨q, e⟩
          · exact .inl (sub.own a q)
          · exact (hv.new q a e).2.symm
        · rcases hold a z with q | ⟨q, e⟩
          · exact .inl (sub.hold a q)
          · exact (hv.new (no q) a e).2.symm.imp Own.hold id
      exact ⟨all, h _ _ _ all⟩
    · rw [if_neg hl] at h
      exact h.elim
end
/-! ### the rules -/
section
variable {X : Cx} {E : EK} {pos py : Pos} {e c : Expr} {st : Stmt} {rest ts fs : List Stmt} {fx : List Nat}
theorem qs_ret {f : M SV} (h : PE X e (TV X.K E f)) : PS X (.Return (some e) pos) (TSt X.K E fx (mRet f)) := PS.imp (ps_ret h) fun D σ H ⟨F, ρ, g, go⟩ =>
  ⟨F, ρ, g, (GoS.bindE go).mono fun sv ρ1 F1 H1 ⟨g1, s1, sub1, go1⟩ v hv => GoS.pure go1 g1 v ⟨hv.rep, hv.nl, hv.new⟩⟩
theorem qs_retV {i : Nat} (h : PE X e (tVar i)) : PS X (.Return (some e) pos) (TSt X.K E fx (mRetV i)) := PS.imp (ps_ret h) fun D σ H ⟨F, ρ, g, go⟩ => by
  unfold GoS mRetV at go
  cases hρ : ρ[i]? with
  | none => rw [hρ] at go; exact go.elim
  | some o =>
    cases o with
    | none => rw [hρ] at go; exact go.elim
    | some sv =>
      obtain ⟨d, o⟩ := sv
      rw [hρ] at go
      obtain ⟨v, ev, r⟩ := g.sl i _ hρ
      refine ⟨v, ev, ?_⟩
      cases o with
      | lk => exact go.elim
      | fr => exact go σ F H (.refl g) v ⟨r, (fun z => nomatch z), fun z => nomatch z⟩
      | ow =>
        have hi : i < ρ.length := (List.getElem?_eq_some_iff.mp hρ).1
        have old : ∀ j sv, (ρ.set i none)[j]? = some (some sv) → j ≠ i ∧ ρ[j]? = some (some sv) := fun j sv e => by
          by_cases hj : i = j
          · subst hj
            rw [List.getElem?_set_self hi] at e; cases e
          · rw [List.getElem?_set_ne hj] at e
            exact ⟨fun z => hj z.symm, e⟩
        have hold : ∀ j a, HoldAt σ (ρ.set i none) j a → j ≠ i ∧ HoldAt σ ρ j a := fun j a ⟨e1, sv, e2, e3⟩ => ⟨(old j sv e2).1, e1, sv, (old j sv e2).2, e3⟩
        have g2 : Gd X.K F H σ (ρ.set i none) := ⟨by rw [List.length_set]; exact g.len, g.al, fun j sv e => g.sl j sv (old j sv e).2, fun j k a h1 h2 => g.dis j k a (hold j a h1).2 (hold k a h2).2⟩
        refine go σ F H ⟨.refl, g2, fun a ⟨j, e1, sv, e2, e3⟩ => .inl ⟨j, e1, sv, (old j sv e2).2, e3⟩, fun a ⟨j, h⟩ => .inl ⟨j, (hold j a h).2⟩, fun _ _ => rfl⟩ v ⟨r, (fun z => nomatch z), fun _ a e => ⟨fun ⟨j, h⟩ => ?_, .inr ⟨i, by rw [ev, e], _, hρ, rfl⟩⟩⟩
        exact (hold j a h).1 (g.dis j i a (hold j a h).2 ⟨by rw [ev, e], _, hρ, fun z => nomatch z⟩)
theorem qs_retN : PS X (.Return none pos) (TSt X.K E fx (pure (.rt (frv .none)))) := PS.imp ps_retN fun D σ H ⟨F, ρ, g, go⟩ => GoS.pure go g .non ⟨.non, (fun z => nomatch z), fun z => nomatch z⟩
theorem qs_pass : PS X (.Pass pos) (TSt X.K E fx (pure .nx)) := PS.imp ps_pass fun D σ H ⟨F, ρ, g, go⟩ => GoS.pure go g
theorem qs_break : PS X (.Break pos) (TSt X.K E fx (pure .bk)) := PS.imp ps_break fun D σ H ⟨F, ρ, g, go⟩ => GoS.pure go g
theorem qs_cont : PS X (.Continue pos) (TSt X.K E fx (pure .ct)) := PS.imp ps_continue fun D σ H ⟨F, ρ, g, go⟩ => GoS.pure go g
theorem qs_drop {f : M SV} (h : PE X e (TV X.K E f)) (hs : swapsWith e none pos.line X.env = pure false) : PS X (.Expr e pos) (TSt X.K E fx (mDrop f)) := PS.imp (ps_expr h hs) fun D σ H ⟨F, ρ, g, go⟩ =>
  ⟨F, ρ, g, (GoS.bindE go).mono fun sv ρ1 F1 H1 ⟨g1, s1, sub1, go1⟩ v hv => GoS.pure go1 g1⟩
theorem qs_set {f : M SV} {i : Nat} {y : Str} (hN : X.N.Nodup) (hi : X.N[i]? = some y) (hl : Loc X.env.scope y) (hf : X.fn y = true ∨ X.env.scope.names.lookup y = some .local) (hfx : i ∉ fx) (h : PE X e (TV X.K E f))
    (hs : swapsWithSole [.Name y py] e pos.line X.env = pure false) (hw : swappedStores [.Name y py] e X.env = pure none) : PS X (.Assign [.Name y py] e pos) (TSt X.K E fx (mSetS i f)) :=
  PS.imp (ps_asg h (pg_name hN hi hl hf) hs hw) fun D σ H ⟨F, ρ, g, go⟩ => ⟨F, ρ, g, (mSetS_go hfx go).mono fun sv ρ1 F1 H1 q v hv => (q v hv).2⟩
theorem qss_nil : PSs X [] (TSt X.K E fx (pure .nx)) := PSs.imp pss_nil fun D σ H ⟨F, ρ, g, go⟩ => GoS.pure go g
theorem qss_cons {f g : M Fl} (h1 : PS X st (TSt X.K E fx f)) (h2 : PSs X rest (TSt X.K E fx g)) : PSs X (st :: rest) (TSt X.K E fx (mSeq f g)) := PSs.imp (pss_cons h1 h2) fun D σ H ⟨F, ρ, gd, go⟩ => by
  refine ⟨F, ρ, gd, (GoS.bind go).mono ?_⟩
  rintro fl σ1 ρ1 F1 H1 ⟨s1, go1⟩
  cases fl with
  | nx => exact ⟨F1, ρ1, s1.good, go1.mono fun fl σ' ρ' F' H' q => Cf.from s1 q⟩
  | bk => exact GoS.pure (E := E) go1 s1.good
  | ct => exact GoS.pure (E := E) go1 s1.good
  | rt sv => exact GoS.pure (E := E) go1 s1.good
theorem qs_if {fc : M Bool} {f g : M Fl} (hc : PT X c (TB X.K E fc)) (ha : PSs X ts (TSt X.K E fx f)) (hb : PSs X fs (TSt X.K E fx g)) : PS X (.If c ts fs pos) (TSt X.K E fx (mIfS fc f g)) := PS.imp (ps_if hc ha hb) fun D σ H ⟨F, ρ, gd, go⟩ => by
  refine ⟨F, ρ, gd, (GoS.bindE go).mono ?_⟩
  rintro b ρ1 F1 H1 ⟨g1, s1, sub1, go1⟩
  have st : StepS X.K fx σ ρ F H σ ρ1 F1 H1 := .ofE g1 s1 sub1
  cases b with
  | true => exact iteT ⟨F1, ρ1, g1, go1.mono fun fl σ' ρ' F' H' q => Cf.from st q⟩
  | false => exact iteF ⟨F1, ρ1, g1, go1.mono fun fl σ' ρ' F' H' q => Cf.from st q⟩
end
end Pv

set_option maxRecDepth 100000
/-! Pv, part I: targets, loops, comprehensions. -/
namespace Pv
open PySem PySem.Spec L2
section
variable {K : PySem.W.Frag} {F F' F0 F1 F2 W : Reg} {H H' H0 H1 H2 : Hp} {σ σ' σ0 σ1 σ2 : L2.St} {ρ ρ' ρ0 ρ1 ρ2 : PEnv} {E : EK} {α β : Type} {fx : List Nat} {C : β → L2.St → PEnv → Reg → Hp → Prop}
/-! ### targets: frozen values put into slots -/
def putS (i : Nat) (d : PyData) : M Unit := fun ρ => if i < ρ.length then .ok () (ρ.set i (some (frv d))) else .bad
/-- ft puts d's parts into slots; the heap stays -/
def GoT (K : PySem.W.Frag) (fx : List Nat) {α : Type} (f : M α) (σ : L2.St) (F : Reg) (H : Hp) (ρ : PEnv) (C : L2.St → PEnv → Prop) : Prop :=
  match f ρ with
  | .ok _ ρ' => ∀ σ', σ'.length = σ.length → Gd K F H σ' ρ' → (∀ a, Own σ' ρ' a → Own σ ρ a) → (∀ a, Hold σ' ρ' a → Hold σ ρ a) → (∀ i ∈ fx, σ'[i]? = σ[i]?) → C σ' ρ'
  | _ => False
def TGt (K : PySem.W.Frag) (fx : List Nat) (ft : PyData → M Unit) : TG := fun v σ H Q => ∃ F ρ d, Gd K F H σ ρ ∧ Rp K F H v d ∧ GoT K fx (ft d) σ F H ρ fun σ' _ => Q σ' H
def TGs (K : PySem.W.Frag) (fx : List Nat) (ft : List PyData → M Unit) : L2.TGs := fun vs σ H Q => ∃ F ρ ds, Gd K F H σ ρ ∧ RpL K F H vs ds ∧ GoT K fx (ft ds) σ F H ρ fun σ' _ => Q σ' H
theorem putS_go {i : Nat} {d : PyData} {v : V} {C : L2.St → PEnv → Prop} (hi : i ∉ fx) (g : Gd K F H σ ρ) (r : Rp K F H v d) (h : GoT K fx (putS i d) σ F H ρ C) : C (σ.set i (some v)) (ρ.set i (some (frv d))) := by
  unfold GoT putS at h
  by_cases hl : i < ρ.length
  · rw [if_pos hl] at h
    obtain ⟨g2, fixd, hold, own⟩ := set_gd (fx := fx) (sv := frv d) (v := v) hi r g (fun q => absurd rfl q) hl
    exact h _ (by rw [List.length_set]) g2 (fun a z => (own a z).resolve_right fun q => by cases q.1) (fun a z => (hold a z).resolve_right fun q => q.1 rfl) fixd
  · rw [if_neg hl] at h; exact h.elim
theorem GoT.bind {f : M α} {g : α → M β} {C : L2.St → PEnv → Prop} (h : GoT K fx (f >>= g) σ F H ρ C) :
    GoT K fx f σ F H ρ fun σ1 ρ1 => Gd K F H σ1 ρ1 ∧ σ1.length = σ.length ∧ (∀ a, Own σ1 ρ1 a → Own σ ρ a) ∧ (∀ a, Hold σ1 ρ1 a → Hold σ ρ a) ∧ (∀ i ∈ fx, σ1[i]? = σ[i]?) ∧ ∃ a, f ρ = .ok a ρ1 ∧ GoT K fx (g a) σ1 F H ρ1 C := by
  unfold GoT at h ⊢
  cases e : f ρ with
  | bad => rw [bind_bad e] at h; exact h
  | exc c d => rw [bind_exc e] at h; exact h
  | ok a ρ1 =>
    rw [bind_ok e] at h
    intro σ1 l1 g1 o1 h1 f1
    refine ⟨g1, l1, o1, h1, f1, a, rfl, ?_⟩
    cases e2 : g a ρ1 with
    | bad => rw [e2] at h; exact h
    | exc c d => rw [e2] at h; exact h
    | ok b ρ2 =>
      rw [e2] at h
      exact fun σ2 l2 g2 o2 h2 f2 => h σ2 (l2.trans l1) g2 (fun a z => o1 a (o2 a z)) (fun a z => h1 a (h2 a z)) fun i hi => (f2 i hi).trans (f1 i hi)
theorem GoT.mono {f : M α} {C C' : L2.St → PEnv → Prop} (h : GoT K fx f σ F H ρ C) (hC : ∀ σ' ρ', C σ' ρ' → C' σ' ρ') : GoT K fx f σ F H ρ C' := by
  unfold GoT at h ⊢
  split at h
  · exact fun σ' l g o q f => hC _ _ (h σ' l g o q f)
  · exact h.elim
theorem GoT.pure {b : β} {C : L2.St → PEnv → Prop} (h : GoT K fx (Pure.pure b : M β) σ F H ρ C) (g : Gd K F H σ ρ) : C σ ρ := h σ rfl g (fun _ z => z) (fun _ z => z) fun _ _ => rfl
def tgNil (ds : List PyData) : M Unit := match ds with | [] => pure () | _ => M.bad
def tgCons (f : PyData → M Unit) (fs : List PyData → M Unit) (ds : List PyData) : M Unit := match ds with
  | d :: ds => do f d; fs ds
  | [] => M.bad
def tgTup (n : Nat) (fs : List PyData → M Unit) (d : PyData) : M Unit := match d with
  | .tuple ds => if ds.length = n then fs ds else M.bad
  | .list ds => if ds.length = n then fs ds else M.bad
  | _ => M.bad
end
section
variable {X : Cx} {E : EK} {pos : Pos} {e tg : Expr} {es : List Expr} {fx : List Nat}
theorem PG.imp {t t' : TG} (h : PG X e t) (i : ∀ v σ H Q, t' v σ H Q → t v σ H Q) : PG X e t' := ⟨fun pins s σ H v u Q I r q => h.run pins s σ H v u Q I r (i _ _ _ _ q)⟩
theorem PGs.imp {t t' : L2.TGs} (h : PGs X es t) (i : ∀ v σ H Q, t' v σ H Q → t v σ H Q) : PGs X es t' := ⟨fun pins s σ H v u Q I r q => h.run pins s σ H v u Q I r (i _ _ _ _ q)⟩
theorem qg_name {i : Nat} {x : Str} (hN : X.N.Nodup) (hi : X.N[i]? = some x) (hx : Loc X.env.scope x) (hf : X.fn x = true ∨ X.env.scope.names.lookup x = some .local) (hfx : i ∉ fx) : PG X (.Name x pos) (TGt X.K fx (putS i)) :=
  PG.imp (pg_name hN hi hx hf) fun v σ H Q ⟨F, ρ, d, g, r, go⟩ => putS_go hfx g r go
theorem qgs_nil : PGs X [] (TGs X.K fx tgNil) := PGs.imp pgs_nil fun vs σ H Q ⟨F, ρ, ds, g, r, go⟩ => by
  cases r with
  | nil => exact ⟨rfl, GoT.pure (fx := fx) (b := ()) go g⟩
  | cons _ _ => exact go.elim
theorem qgs_cons {f : PyData → M Unit} {fs : List PyData → M Unit} (h1 : PG X e (TGt X.K fx f)) (h2 : PGs X es (TGs X.K fx fs)) (hs : (assignEach (e :: es) X.env).map (·.2) = assign e X.env :: (assignEach es X.env).map (·.2)) : PGs X (e :: es) (TGs X.K fx (tgCons f fs)) :=
  PGs.imp (pgs_cons h1 h2 hs) fun vs σ H Q ⟨F, ρ, ds, g, r, go⟩ => by
    cases r with
    | nil => exact go.elim
    | cons r rs =>
      refine ⟨_, _, rfl, F, ρ, _, g, r, (GoT.bind go).mono ?_⟩
      rintro σ1 ρ1 ⟨g1, l1, o1, h1, f1, a, _, go1⟩
      exact ⟨F, ρ1, _, g1, rs, go1⟩
theorem qg_tup {k n : Nat} {fs : List PyData → M Unit} (hc : X.calm = true) (h : PGs X es (TGs X.K fx fs)) (hn : (assignEach es X.env).length = n) (hst : (assignEach es X.env).findIdx? (·.1) = none) : PG X (.Tuple es k pos) (TGt X.K fx (tgTup n fs)) := by
  have h1 := pg_tup (k := k) (pos := pos) hc h hn hst
  have h2 := pg_unl (k := k) (pos := pos) hc h hn hst
  refine ⟨fun pins s σ H v u Q I r q => ?_⟩
  obtain ⟨F, ρ, d, g, rd, go⟩ := q
  cases d with
  | tuple ds =>
    simp only [tgTup] at go
    split at go
    · rename_i hl
      cases rd with
      | tup ha rs => exact h1.run pins s σ H _ u Q I r ⟨_, _, rfl, SqT.of ha, rs.length.trans hl, F, ρ, ds, g, rs, go⟩
    · exact go.elim
  | list ds =>
    simp only [tgTup] at go
    split at go
    · rename_i hl
      cases rd with
      | lst ha rs => exact h2.run pins s σ H _ u Q I r ⟨_, _, rfl, ha.sql, rs.length.trans hl, F, ρ, ds, g, rs, go⟩
    · exact go.elim
  | _ => exact go.elim
end
/-! ### what is walked -/
structure Wk (K : PySem.W.Frag) (W : Reg) (J : It) (F1 : Reg) (H1 : Hp) (ds : List PyData) : Prop where
  walk : ∃ (G : Hp → Prop) (Y : Nat → Hp → V → Hp → Prop), Walk J ds.length G Y ∧ (∀ F H, Step W F1 H1 F H → G H) ∧
    ∀ i F H x H', i < ds.length → Step W F1 H1 F H → (∀ a, F a → H a ≠ none) → Y i H x H' → Step W0 F H F H' ∧ ∃ d, ds[i]? = some d ∧ Rp K F H' x d
def TIt (K : PySem.W.Frag) (E : EK) (f : M (List PyData)) : TI := fun σ H R => ∃ F ρ, Gd K F H σ ρ ∧ Go K E f σ F H ρ fun ds ρ1 F1 H1 => ∀ J, Wk K (Own σ ρ1) J F1 H1 ds → R J H1
theorem PI.imp {X : Cx} {tg iter : Expr} {t t' : TI} (h : PI X tg iter t) (i : ∀ σ H R, t' σ H R → t σ H R) : PI X tg iter t' := ⟨fun pins s σ H R I q => h.run pins s σ H R I (i _ _ _ q)⟩
section
variable {K : PySem.W.Frag} {F F' F0 F1 F2 W : Reg} {H H' H0 H1 H2 : Hp} {a b : Addr} {xs ys : List V} {ds es : List PyData}
theorem itr_list (w : Wok W F1 H1) (h : LsK K F1 H1 a xs) (r : RpL K F1 H1 xs ds) : Wk K W (Itl K a) F1 H1 ds := by
  refine ⟨fun H => SqL K H a xs, YAt xs, r.length ▸ walk_list, fun F H s => ((s.stay w).lsk (K := K) h).sql, fun i F H x H' hi s al y => ?_⟩
  obtain ⟨rfl, e⟩ := y
  exact ⟨.refl, RpL.get (r.stay (s.stay w)) e⟩
theorem itr_tup (w : Wok W F1 H1) (h : H1 a = some (.tup xs)) (r : RpL K F1 H1 xs ds) : Wk K W (Itt K a) F1 H1 ds := by
  refine ⟨fun H => SqT K H a xs, YAt xs, r.length ▸ walk_tup, fun F H s => .inl (.inl ((s.stay w).tup _ _ h)), fun i F H x H' hi s al y => ?_⟩
  obtain ⟨rfl, e⟩ := y
  exact ⟨.refl, RpL.get (r.stay (s.stay w)) e⟩
def rgD (lo : Int) (n : Nat) : List PyData := (List.range n).map fun (i : Nat) => PyData.int (lo + i)
theorem rgD_length {lo : Int} {n : Nat} : (rgD lo n).length = n := by unfold rgD; rw [List.length_map, List.length_range]
theorem itr_range {lo : Int} {n : Nat} : Wk K W (L2.Itr lo n) F1 H1 (rgD lo n) := by
  refine ⟨fun _ => True, YFn fun i => .int (lo + i), by rw [rgD_length]; exact walk_range, fun _ _ _ => trivial, fun i F H x H' hi s al y => ?_⟩
  obtain ⟨rfl, rfl⟩ := y
  rw [rgD_length] at hi
  refine ⟨.refl, .int (lo + i), ?_, .int _⟩
  unfold rgD
  rw [List.getElem?_map, List.getElem?_range hi]; rfl
end
/-! ### for -/
def forL (ft : PyData → M Unit) (fb : M Fl) : List PyData → M Fl
  | [] => pure .nx
  | d :: ds => do
    ft d
    match ← fb with
    | .nx => forL ft fb ds
    | .ct => forL ft fb ds
    | .bk => pure .nx
    | .rt sv => pure (.rt sv)
def mFor (fi : M (List PyData)) (ft : PyData → M Unit) (fb : M Fl) : M Fl := do
  let ds ← fi
  forL ft fb ds
section
variable {K : PySem.W.Frag} {F F' F0 F1 F2 W : Reg} {H H' H0 H1 H2 : Hp} {σ σ' σ0 σ1 σ2 : L2.St} {ρ ρ' ρ0 ρ1 ρ2 : PEnv} {E : EK} {α β : Type} {fx : List Nat} {C : β → L2.St → PEnv → Reg → Hp → Prop}
/-- the same run from a later heap -/
theorem GoS.from {f : M β} (s : StepS K fx σ ρ F H σ ρ F1 H1) (h : GoS K E fx f σ F H ρ C) : GoS K E fx f σ F1 H1 ρ C := by
  unfold GoS at h ⊢
  split at h
  · exact fun σ' F' H' t => h σ' F' H' (s.trans t)
  · exact fun F' H' t => h F' H' (s.step.trans t fun a z => s.own a z)
  · exact h
/-- a target ahead -/
theorem GoS.bindT {f : M α} {g : α → M β} (gd : Gd K F H σ ρ) (h : GoS K E fx (f >>= g) σ F H ρ C) (ho : ∀ c d, f ρ ≠ .exc c d) : GoT K fx f σ F H ρ fun σ1 ρ1 => StepS K fx σ ρ F H σ1 ρ1 F H ∧ ∃ a, f ρ = .ok a ρ1 ∧ GoS K E fx (g a) σ1 F H ρ1 C := by
  have h := GoS.bind h
  unfold GoS at h
  unfold GoT
  cases e : f ρ with
  | bad => rw [e] at h; exact h
  | exc c d => exact absurd e (ho c d)
  | ok a ρ1 =>
    rw [e] at h
    intro σ1 _ g1 o1 h1 f1
    have st : StepS K fx σ ρ F H σ1 ρ1 F H := ⟨.refl, g1, fun a z => .inl (o1 a z), fun a z => .inl (h1 a z), f1⟩
    exact ⟨st, a, rfl, (h σ1 F H st).2⟩
/-- puts never raise -/
def NoEx {α : Type} (f : M α) : Prop := ∀ ρ c d, f ρ ≠ .exc c d
theorem noEx_put {i : Nat} {d : PyData} : NoEx (putS i d) := fun ρ c e => by unfold putS; split <;> exact fun z => nomatch z
end
section
variable {X : Cx} {E : EK} {pos : Pos} {e tg iter : Expr} {body : List Stmt} {fx : List Nat}
theorem qs_for {fi : M (List PyData)} {ft : PyData → M Unit} {fb : M Fl} (hp : PassesOwn (model X.prog X.w) X.A X.env X.xe) (hc : X.calm = true) (hi : PI X tg iter (TIt X.K E fi)) (hg : PG X tg (TGt X.K fx ft)) (hn : ∀ d, NoEx (ft d)) (hb : PSs X body (TSt X.K E fx fb))
    (hs : ∀ x, foldedSetIterable iter X.env x = pure x) : PS X (.For tg iter body [] pos) (TSt X.K E fx (mFor fi ft fb)) := by
  refine PS.imp (ps_for hp hc hi hg hb hs) fun D σ H ⟨F, ρ, gd, go⟩ => ?_
  refine ⟨F, ρ, gd, (GoS.bindE go).mono ?_⟩
  rintro ds ρ1 F1 H1 ⟨g1, s1, sub1, go1⟩ J ⟨G, Y, w, hG, hY⟩
  have st1 : StepS X.K fx σ ρ F H σ ρ1 F1 H1 := .ofE g1 s1 sub1
  -- the state at turn i
  let Pv : Nat → L2.St → Hp → Prop := fun i σ' H' => ∃ F' ρ', StepS X.K fx σ ρ1 F1 H1 σ' ρ' F' H' ∧ GoS X.K E fx (forL ft fb (ds.drop i)) σ' F' H' ρ' (Cf X.K D σ ρ H)
  refine for_it w (σ := σ) (H := H1) Pv ⟨F1, ρ1, .refl g1, go1⟩ (fun i σ' H' _ ⟨F', ρ', s, _⟩ => hG F' H' s.step) (fun i x σ' H' H2 hi ⟨F', ρ', s, q⟩ y => ?_) fun σ' H' ⟨F', ρ', s, q⟩ => ?_
  · obtain ⟨al, d, ed, rd⟩ := hY i F' H' x H2 hi s.step s.good.al y
    have e : ds.drop i = d :: ds.drop (i + 1) := by
      have hlt := hi
      rw [List.drop_eq_getElem_cons hlt]
      have : ds[i] = d := by
        rw [List.getElem?_eq_getElem hlt] at ed
        exact Option.some.inj ed
      rw [this]
    rw [e] at q
    have al2 : ∀ a, F' a → H2 a ≠ none := fun a f z => by
      cases e : H' a with
      | none => exact s.good.al a f e
      | some o => rw [al.keep a o e (fun z => z)] at z; cases z
    have g2 : Gd X.K F' H2 σ' ρ' := s.good.pure al al2
    have s2 : StepS X.K fx σ' ρ' F' H' σ' ρ' F' H2 := .ofE g2 al.of0 .refl
    have q2 := GoS.from s2 q
    refine ⟨F', ρ', d, g2, rd, (GoS.bindT g2 q2 (hn d ρ')).mono ?_⟩
    rintro σ3 ρ3 ⟨s3, _, _, q3⟩
    refine ⟨F', ρ3, s3.good, (GoS.bind q3).mono ?_⟩
    rintro fl σ4 ρ4 F4 H4 ⟨s4, q4⟩
    have all : StepS X.K fx σ ρ1 F1 H1 σ4 ρ4 F4 H4 := ((s.trans s2).trans s3).trans s4
    cases fl with
    | nx => exact ⟨F4, ρ4, all, q4⟩
    | ct => exact ⟨F4, ρ4, all, q4⟩
    | bk => exact GoS.pure (E := E) q4 s4.good
    | rt sv =>
      have q5 := GoS.pure (E := E) q4 s4.good
      exact fun v hv => q5 v (hv.from (((st1.trans s).trans s2).trans s3))
  · rw [List.drop_length] at q
    exact GoS.pure (E := E) q s.good
end
end Pv

set_option maxRecDepth 100000
/-! Pv, part J: list comprehensions. -/
namespace Pv
open PySem PySem.Spec L2
def wipeE (ρ : PEnv) : List Nat → PEnv
  | [] => ρ
  | v :: vs => (wipeE ρ vs).set v none
/-- the block's own slots, forgotten -/
def mWipe (vs : List Nat) : M Unit := fun ρ => .ok () (wipeE ρ vs)
def lcL (vs : List Nat) (ft : PyData → M Unit) (tt : M Bool) (te : M PyData) : List PyData → List PyData → M (List PyData)
  | [], acc => pure acc
  | d :: ds, acc => do
    ft d
    if ← tt then
      let y ← te
      mWipe vs
      if acc.length < sizeLine then lcL vs ft tt te ds (acc ++ [y]) else M.bad
    else
      mWipe vs
      lcL vs ft tt te ds acc
/-- the slots vs as they were in ρ0, the others as in ρ -/
def restE (ρ0 ρ : PEnv) : List Nat → PEnv
  | [] => ρ
  | v :: vs => (restE ρ0 ρ vs).set v ((ρ0[v]?).getD none)
def plainAt (ρ : PEnv) (vs : List Nat) : Bool := vs.all fun j => match ρ[j]? with | some (some sv) => decide (sv.o = .fr) | some none => true | none => false
/-- a block: its own slots are forgotten ahead and given back behind; nothing is raised in it -/
def mBlk {α : Type} (vs : List Nat) (f : M α) : M α := fun ρ =>
  if plainAt ρ vs then
    match f (wipeE ρ vs) with
    | .ok a ρ' => .ok a (restE ρ ρ' vs)
    | _ => .bad
  else .bad
def mLc (fi : M (List PyData)) (vs : List Nat) (ft : PyData → M Unit) (tt : M Bool) (te : M PyData) : M SV := do
  let ds ← fi
  let ys ← mBlk vs (lcL vs ft tt te ds [])
  pure ⟨.list ys, .ow⟩
/-! ### slots forgotten -/
section
variable {α : Type}
theorem wipeE_length (ρ : PEnv) : ∀ vs : List Nat, (wipeE ρ vs).length = ρ.length
  | [] => rfl
  | v :: vs => by unfold wipeE; rw [List.length_set, wipeE_length ρ vs]
theorem wipeE_out {ρ : PEnv} {i : Nat} : ∀ {vs : List Nat}, i ∉ vs → (wipeE ρ vs)[i]? = ρ[i]?
  | [], _ => rfl
  | v :: vs, h => by
    unfold wipeE
    rw [List.getElem?_set_ne (fun e => h (by rw [e]; exact List.mem_cons_self)), wipeE_out fun z => h (List.mem_cons_of_mem _ z)]
theorem wipeE_some {ρ : PEnv} {i : Nat} {x : SV} : ∀ {vs : List Nat}, (wipeE ρ vs)[i]? = some (some x) → ρ[i]? = some (some x) ∧ i ∉ vs
  | [], h => ⟨h, by simp⟩
  | v :: vs, h => by
    unfold wipeE at h
    by_cases hi : v = i
    · subst hi
      by_cases hv : v < (wipeE ρ vs).length
      · rw [List.getElem?_set_self hv] at h; cases h
      · rw [List.getElem?_eq_none (by simpa using hv)] at h; cases h
    · rw [List.getElem?_set_ne hi] at h
      obtain ⟨h1, h2⟩ := wipeE_some h
      exact ⟨h1, by simp only [List.mem_cons, not_or]; exact ⟨fun e => hi e.symm, h2⟩⟩
theorem wipe_in {σ : L2.St} {i : Nat} : ∀ {vs : List Nat}, i ∈ vs → i < σ.length → (wipe σ vs)[i]? = some none
  | [], h, _ => nomatch h
  | v :: vs, h, hl => by
    unfold wipe
    by_cases hi : v = i
    · subst hi
      exact List.getElem?_set_self (by rw [wipe_length]; exact hl)
    · rw [List.getElem?_set_ne hi]
      rcases List.mem_cons.mp h with e | h
      · exact absurd e.symm hi
      · exact wipe_in h hl
theorem wipe_ext {σ σ2 : L2.St} {vs : List Nat} (hl : σ2.length = σ.length) (h : ∀ i, i ∉ vs → i < σ.length → σ2[i]? = (wipe σ vs)[i]?) : wipe σ2 vs = wipe σ vs := by
  apply List.ext_getElem?
  intro i
  by_cases hi : i < σ.length
  · by_cases hv : i ∈ vs
    · rw [wipe_in hv (by rw [hl]; exact hi), wipe_in hv hi]
    · rw [wipe_out hv]
      exact h i hv hi
  · rw [List.getElem?_eq_none (by rw [wipe_length]; omega), List.getElem?_eq_none (by rw [wipe_length]; omega)]
theorem restE_length (ρ0 ρ : PEnv) : ∀ vs : List Nat, (restE ρ0 ρ vs).length = ρ.length
  | [] => rfl
  | v :: vs => by unfold restE; rw [List.length_set, restE_length ρ0 ρ vs]
theorem restE_out {ρ0 ρ : PEnv} {i : Nat} : ∀ {vs : List Nat}, i ∉ vs → (restE ρ0 ρ vs)[i]? = ρ[i]?
  | [], _ => rfl
  | v :: vs, h => by
    unfold restE
    rw [List.getElem?_set_ne (fun e => h (by rw [e]; exact List.mem_cons_self)), restE_out fun z => h (List.mem_cons_of_mem _ z)]
theorem restE_in {ρ0 ρ : PEnv} {i : Nat} : ∀ {vs : List Nat}, i ∈ vs → i < ρ.length → (restE ρ0 ρ vs)[i]? = some ((ρ0[i]?).getD none)
  | [], h, _ => nomatch h
  | v :: vs, h, hl => by
    unfold restE
    by_cases hi : v = i
    · subst hi
      exact List.getElem?_set_self (by rw [restE_length]; exact hl)
    · rw [List.getElem?_set_ne hi]
      rcases List.mem_cons.mp h with e | h
      · exact absurd e.symm hi
      · exact restE_in h hl
end
section
variable {K : PySem.W.Frag} {F F' F0 F1 F2 W : Reg} {H H' H0 H1 H2 : Hp} {σ σ' σ0 σ1 σ2 : L2.St} {ρ ρ' ρ0 ρ1 ρ2 : PEnv} {E : EK} {α β : Type} {fx : List Nat} {vs : List Nat}
theorem wipe_none {i : Nat} {v : V} (h : i ∉ vs) (e : σ[i]? = some (some v)) : (wipe σ vs)[i]? = some (some v) := by rw [wipe_out h]; exact e
theorem hold_wipe {i : Nat} {a : Addr} (h : HoldAt (wipe σ vs) (wipeE ρ vs) i a) : HoldAt σ ρ i a := ⟨(wipe_some h.1).1, let ⟨sv, e, o⟩ := h.2; ⟨sv, (wipeE_some e).1, o⟩⟩
theorem own_wipe {i : Nat} {a : Addr} (h : OwnAt (wipe σ vs) (wipeE ρ vs) i a) : OwnAt σ ρ i a := ⟨(wipe_some h.1).1, let ⟨sv, e, o⟩ := h.2; ⟨sv, (wipeE_some e).1, o⟩⟩
theorem Gd.wiped (g : Gd K F H σ ρ) : Gd K F H (wipe σ vs) (wipeE ρ vs) where
  len := by rw [wipeE_length, wipe_length]; exact g.len
  al := g.al
  sl := fun i sv e => by
    obtain ⟨e1, hi⟩ := wipeE_some e
    obtain ⟨v, ev, r⟩ := g.sl i sv e1
    exact ⟨v, wipe_none hi ev, r⟩
  dis := fun i j a h1 h2 => g.dis i j a (hold_wipe h1) (hold_wipe h2)
theorem Go.ok {f : M α} {a : α} {C : α → PEnv → Reg → Hp → Prop} (e : f ρ = .ok a ρ') (h : ∀ F' H', Step (Own σ ρ) F H F' H' → Gd K F' H' σ ρ' → Sub σ ρ ρ' → C a ρ' F' H') : Go K E f σ F H ρ C := by
  unfold Go
  rw [e]
  exact h
theorem bind_okE {f : M α} {g : α → M β} {b : β} (h : (f >>= g) ρ = .ok b ρ') : ∃ a ρ1, f ρ = .ok a ρ1 ∧ g a ρ1 = .ok b ρ' := by
  cases e : f ρ with
  | bad => rw [bind_bad e] at h; cases h
  | exc c d => rw [bind_exc e] at h; cases h
  | ok a ρ1 => rw [bind_ok e] at h; exact ⟨a, ρ1, rfl, h⟩
abbrev EF : EK := fun _ _ _ _ => False
/-- the new list D at a turn of a block that began at σ, ρ1, F1, H1 -/
structure Blk (K : PySem.W.Frag) (vs : List Nat) (σ : L2.St) (ρ1 : PEnv) (F1 : Reg) (H1 : Hp) (D : Addr) (acc : List PyData) (Fi : Reg) (Hi : Hp) (ρi : PEnv) : Prop where
  good : Gd K Fi Hi (wipe σ vs) ρi
  step : Step (Own σ ρ1) F1 H1 Fi Hi
  own : ∀ a, Own (wipe σ vs) ρi a → Own σ ρ1 a
  hold : ∀ a, Hold (wipe σ vs) ρi a → Hold σ ρ1 a
  nf : ¬ Fi D
  lst : ∃ xs, Hi D = some (.lst xs) ∧ RpL K Fi Hi xs acc
end
section
variable {X : Cx} {E : EK} {pos : Pos} {e tg iter elt : Expr} {ifs : List Expr} {scope : Scope} {own : List (Str × Nat)} {fx : List Nat}
theorem tLc_of {K : PySem.W.Frag} {vs : List Nat} {σ : L2.St} {H : Hp} {Q : VK} {fi : M (List PyData)} {ft : PyData → M Unit} {tt : M Bool} {te : M PyData} (hfx : ∀ i, i ∉ vs → i < σ.length → i ∈ fx) (h : TV K E (mLc fi vs ft tt te) σ H Q) :
    tLc (TIt K E fi) (TGt K fx ft) (TB K EF tt) (TF K EF te) vs σ H Q := by
  obtain ⟨F, ρ, gd, go⟩ := h
  refine ⟨F, ρ, gd, (Go.bind go).mono ?_⟩
  rintro ds ρ1 F1 H1 ⟨g1, s1, sub1, go1⟩ J ⟨G, Y, w, hG, hY⟩ D nD
  -- the run
  obtain ⟨ys, ρe, hpl, run, fin⟩ : ∃ ys ρe, plainAt ρ1 vs = true ∧ lcL vs ft tt te ds [] (wipeE ρ1 vs) = .ok ys ρe ∧
      ∀ F' H', Step (Own σ ρ1) F1 H1 F' H' → Gd K F' H' σ (restE ρ1 ρe vs) → Sub σ ρ1 (restE ρ1 ρe vs) → ∀ v, VR K σ ρ H (restE ρ1 ρe vs) F' H' v ⟨.list ys, .ow⟩ → Q v H' := by
    unfold Go at go1
    cases e : (mBlk vs (lcL vs ft tt te ds []) >>= fun ys => (Pure.pure ⟨.list ys, .ow⟩ : M SV)) ρ1 with
    | bad => rw [e] at go1; exact go1.elim
    | exc c d =>
      exfalso
      cases e2 : mBlk vs (lcL vs ft tt te ds []) ρ1 with
      | bad => rw [bind_bad e2] at e; cases e
      | ok a ρ' => rw [bind_ok e2] at e; cases e
      | exc c d =>
        unfold mBlk at e2
        split at e2
        · split at e2 <;> cases e2
        · cases e2
    | ok sv ρ' =>
      rw [e] at go1
      obtain ⟨ys, ρ2, e2, e3⟩ := bind_okE e
      cases e3
      unfold mBlk at e2
      split at e2
      · rename_i hpl
        split at e2
        · rename_i ys' ρe er
          cases e2
          exact ⟨ys, ρe, hpl, er, go1⟩
        · cases e2
      · cases e2
  have gw : Gd K F1 H1 (wipe σ vs) (wipeE ρ1 vs) := g1.wiped
  let Pv : Nat → Hp → Prop := fun i Hi => ∃ Fi ρi acc, Blk K vs σ ρ1 F1 H1 D acc Fi Hi ρi ∧ lcL vs ft tt te (ds.drop i) acc ρi = .ok ys ρe
  have nHold : ∀ a, Hold σ ρ1 a → a ≠ D := fun a h e => (g1.hold h).2.some (e ▸ nD)
  refine lc_it w (σ := σ) Pv ⟨F1, wipeE ρ1 vs, [], ?_, run⟩ (fun i Hi _ ⟨Fi, ρi, acc, b, _⟩ => hG Fi Hi b.step) (fun i x Hi H2 hi ⟨Fi, ρi, acc, b, r⟩ y => ?_) fun Hn ⟨Fn, ρn, acc, b, r⟩ => ?_
  · exact ⟨gw.alloc nD, (Step.alloc nD).of0, fun a ⟨i, z⟩ => ⟨i, own_wipe z⟩, fun a ⟨i, z⟩ => ⟨i, hold_wipe z⟩, fun z => g1.al D z nD, [], upd_same, .nil⟩
  · obtain ⟨al, d, ed, rd⟩ := hY i Fi Hi x H2 hi b.step b.good.al y
    have e : ds.drop i = d :: ds.drop (i + 1) := by
      rw [List.drop_eq_getElem_cons hi]
      have : ds[i] = d := by
        rw [List.getElem?_eq_getElem hi] at ed
        exact Option.some.inj ed
      rw [this]
    rw [e] at r
    obtain ⟨_, ρa, e1, r⟩ := bind_okE r
    obtain ⟨c, ρb, e2, r⟩ := bind_okE r
    have al2 : ∀ a, Fi a → H2 a ≠ none := fun a f z => by
      cases e : Hi a with
      | none => exact b.good.al a f e
      | some o => rw [al.keep a o e (fun z => z)] at z; cases z
    have g2 : Gd K Fi H2 (wipe σ vs) ρi := b.good.pure al al2
    obtain ⟨xs, hxs, rxs⟩ := b.lst
    have hxs2 : H2 D = some (.lst xs) := al.keep D _ hxs (fun z => z)
    refine ⟨Fi, ρi, d, g2, rd, ?_⟩
    unfold GoT
    rw [e1]
    intro σ2 l2 ga oa ha fa
    refine ⟨wipe_ext (l2.trans (wipe_length _ _)) fun j hj hl => fa j (hfx j hj hl), Fi, ρa, ga, Go.ok e2 fun F3 H3 s3 g3 sub3 => ?_⟩
    have hw2 : wipe σ2 vs = wipe σ vs := wipe_ext (l2.trans (wipe_length _ _)) fun j hj hl => fa j (hfx j hj hl)
    have s13 : Step (Own σ ρ1) F1 H1 F3 H3 := (b.step.trans (al.of0 (W' := Own σ ρ1)) fun a z => .inl z).trans s3 fun a z => .inl (b.own a (oa a z))
    have nO : ¬ Own σ2 ρa D := fun z => nHold D (b.hold D (ha D z.hold)) rfl
    have hxs3 : H3 D = some (.lst xs) := s3.keep D _ hxs2 nO
    have nf3 : ¬ F3 D := fun z => by
      rcases s3.nf D z with q | q | q
      · exact b.nf q
      · exact nO q
      · rw [hxs2] at q; cases q
    have st2 : Stay Fi Hi Fi H2 := al.stay .nil
    have rxs3 : RpL K F3 H3 xs acc := (rxs.stay st2).stay (s3.stay ga.wok)
    cases c with
    | false =>
      simp only [Bool.false_eq_true, if_false] at r ⊢
      obtain ⟨_, ρc, e3, r⟩ := bind_okE r
      cases e3
      refine ⟨F3, wipeE ρb vs, acc, ⟨?_, s13, fun a ⟨j, z⟩ => ?_, fun a ⟨j, z⟩ => ?_, nf3, xs, hxs3, rxs3⟩, r⟩
      · rw [← hw2]; exact g3.wiped
      · rw [← hw2] at z
        exact b.own a (oa a (sub3.own a ⟨j, own_wipe z⟩))
      · rw [← hw2] at z
        exact b.hold a (ha a (sub3.hold a ⟨j, hold_wipe z⟩))
    | true =>
      simp only [if_true] at r ⊢
      obtain ⟨y', ρc, e3, r⟩ := bind_okE r
      obtain ⟨_, ρd, e4, r⟩ := bind_okE r
      cases e4
      by_cases hlen : acc.length < sizeLine
      · rw [if_pos hlen] at r
        refine ⟨F3, ρb, g3, Go.ok e3 fun F4 H4 s4 g4 sub4 v rv => ?_⟩
        have nO4 : ¬ Own σ2 ρb D := fun z => nO (sub3.own D z)
        have hxs4 : H4 D = some (.lst xs) := s4.keep D _ hxs3 nO4
        have nf4 : ¬ F4 D := fun z => by
          rcases s4.nf D z with q | q | q
          · exact nf3 q
          · exact nO4 q
          · rw [hxs3] at q; cases q
        have rxs4 : RpL K F4 H4 xs acc := rxs3.stay (s4.stay g3.wok)
        have g4' : Gd K F4 H4 (wipe σ vs) (wipeE ρc vs) := by rw [← hw2]; exact g4.wiped
        have holdn : ∀ a, Hold (wipe σ vs) (wipeE ρc vs) a → Hold σ ρ1 a := fun a ⟨j, z⟩ => by
          rw [← hw2] at z
          exact b.hold a (ha a (sub3.hold a (sub4.hold a ⟨j, hold_wipe z⟩)))
        have wD : Wok (fun a => a = D) F4 H4 := fun a e => by
          have e : a = D := e
          subst e
          exact ⟨nf4, .inl ⟨xs, hxs4⟩⟩
        have sD : Step (fun a => a = D) F4 H4 F4 (upd H4 D (.lst (xs ++ [v]))) := ⟨fun _ f => f, fun a o e n => by rw [upd_ne n]; exact e, fun _ f => .inl f⟩
        have stD := sD.stay wD
        have s14 : Step (Own σ ρ1) F1 H1 F4 H4 := s13.trans s4 fun a z => .inl (b.own a (oa a (sub3.own a z)))
        refine ⟨xs, hxs4, by rw [rxs4.length]; exact hlen, F4, wipeE ρc vs, acc ++ [y'], ⟨g4'.step wD (fun a h e => nHold a (holdn a h) e) sD (al_alloc g4.al), s14.trans sD fun a e => .inr (by rw [show a = D from e]; exact nD), fun a ⟨j, z⟩ => ?_, holdn, nf4, xs ++ [v], upd_same, ?_⟩, r⟩
        · rw [← hw2] at z
          exact b.own a (oa a (sub3.own a (sub4.own a ⟨j, own_wipe z⟩)))
        · exact (rxs4.stay stD).append (.cons (rv.stay stD) .nil)
      · rw [if_neg hlen] at r; cases r
  · rw [List.drop_length] at r
    cases r
    obtain ⟨xs, hxs, rxs⟩ := b.lst
    have old : ∀ j sv, (restE ρ1 ρe vs)[j]? = some (some sv) → (j ∈ vs ∧ ρ1[j]? = some (some sv) ∧ sv.o = .fr) ∨ (j ∉ vs ∧ ρe[j]? = some (some sv)) := fun j sv e => by
      by_cases hj : j ∈ vs
      · have hl : j < ρe.length := by
          have := (List.getElem?_eq_some_iff.mp e).1
          rw [restE_length] at this; exact this
        rw [restE_in hj hl] at e
        have hp := List.all_eq_true.mp hpl j hj
        cases e1 : ρ1[j]? with
        | none => rw [e1] at e; cases e
        | some o =>
          rw [e1] at e hp
          cases o with
          | none => cases e
          | some sv' =>
            cases e
            exact .inl ⟨hj, rfl, of_decide_eq_true hp⟩
      · rw [restE_out hj] at e
        exact .inr ⟨hj, e⟩
    have holdr : ∀ j a, HoldAt σ (restE ρ1 ρe vs) j a → HoldAt (wipe σ vs) ρe j a := fun j a ⟨h1, sv, e, o⟩ => by
      rcases old j sv e with ⟨_, _, q⟩ | ⟨hj, q⟩
      · exact absurd q o
      · exact ⟨wipe_none hj h1, sv, q, o⟩
    have ownr : ∀ j a, OwnAt σ (restE ρ1 ρe vs) j a → OwnAt (wipe σ vs) ρe j a := fun j a ⟨h1, sv, e, o⟩ => by
      rcases old j sv e with ⟨_, _, q⟩ | ⟨hj, q⟩
      · rw [q] at o; cases o
      · exact ⟨wipe_none hj h1, sv, q, o⟩
    have gr : Gd K Fn Hn σ (restE ρ1 ρe vs) := by
      refine ⟨by rw [restE_length, b.good.len, wipe_length], b.good.al, fun j sv e => ?_, fun i j a h1 h2 => b.good.dis i j a (holdr i a h1) (holdr j a h2)⟩
      rcases old j sv e with ⟨_, q, of⟩ | ⟨hj, q⟩
      · obtain ⟨v, ev, r⟩ := g1.sl j sv q
        exact ⟨v, ev, r.stay (b.step.stay g1.wok) fun z => absurd of z⟩
      · obtain ⟨v, ev, r⟩ := b.good.sl j sv q
        exact ⟨v, (wipe_some ev).1, r⟩
    have hsub : Sub σ ρ1 (restE ρ1 ρe vs) := ⟨fun a ⟨j, z⟩ => b.own a ⟨j, ownr j a z⟩, fun a ⟨j, z⟩ => b.hold a ⟨j, holdr j a z⟩⟩
    refine fin Fn Hn b.step gr hsub (.ref D) ⟨⟨D, rfl, b.nf, .lst hxs rxs⟩, (fun z => nomatch z), fun _ a e => ?_⟩
    cases e
    refine ⟨fun z => nHold D (hsub.hold D z) rfl, ?_⟩
    cases e0 : H D with
    | none => exact .inl rfl
    | some o =>
      by_cases w : Own σ ρ D
      · exact .inr w
      · rw [s1.keep D o e0 w] at nD; cases nD
theorem PTs.imp {t t' : TT} (h : PTs X ifs t) (i : ∀ σ H Q, t' σ H Q → t σ H Q) : PTs X ifs t' := ⟨fun pins s σ H Q I q => h.run pins s σ H Q I (i _ _ _ q)⟩
theorem qts_nil : PTs X [] (TB X.K E (pure true)) := PTs.imp pts_nil fun σ H Q ⟨F, ρ, g, go⟩ => Go.pure go F H .refl g
theorem qts_one {c : Expr} {f : M Bool} (h : PT X c (TB X.K E f)) : PTs X [c] (TB X.K E f) := pts_one h
/-- all slots but vs -/
def butS (n : Nat) (vs : List Nat) : List Nat := (List.range n).filter fun i => !vs.contains i
theorem mem_butS {n : Nat} {vs : List Nat} {i : Nat} : i ∈ butS n vs ↔ i < n ∧ i ∉ vs := by
  unfold butS
  rw [List.mem_filter, List.mem_range]
  simp
theorem qe_lc {fi : M (List PyData)} {ft : PyData → M Unit} {tt : M Bool} {te : M PyData} (hc : X.calm = true) (hN : X.N.Nodup) (hi : PI X tg iter (TIt X.K E fi)) (ok : BlkOk X.N X.env.scope scope own)
    (hg : ∀ (s : Shared) (H : Hp) (C : Addr) (cl : List (Str × Addr)) (fp : List Addr), PG (X.blk s H scope (compEnvC scope cl C X.env) fp) tg (TGt X.K (butS X.N.length (own.map (·.2))) ft))
    (ht : ∀ (s : Shared) (H : Hp) (C : Addr) (cl : List (Str × Addr)) (fp : List Addr), PTs (X.blk s H scope (compEnvC scope cl C X.env) fp) ifs (TB X.K EF tt))
    (he : ∀ (s : Shared) (H : Hp) (C : Addr) (cl : List (Str × Addr)) (fp : List Addr), PE (X.blk s H scope (compEnvC scope cl C X.env) fp) elt (TF X.K EF te)) (hs : ∀ x, foldedSetIterable iter X.env x = pure x) :
    PE X (.ListComp elt [⟨tg, iter, ifs, 0⟩] scope pos) (TV X.K E (mLc fi (own.map (·.2)) ft tt te)) :=
  ⟨fun pins s σ H Q I q => (pe_lc hc hN hi ok hg ht he hs).run pins s σ H Q I (tLc_of (fun i hi hl => mem_butS.mpr ⟨by rw [← I.len]; exact hl, hi⟩) q)⟩
theorem qs_setLc {i : Nat} {y : Str} {py spos : Pos} {fi : M (List PyData)} {ft : PyData → M Unit} {tt : M Bool} {te : M PyData} (hc : X.calm = true) (hN : X.N.Nodup) (hy : X.N[i]? = some y) (hyl : X.env.scope.names.lookup y = some .local) (hfx : i ∉ fx)
    (hsw : swapsWith (.ListComp elt [⟨tg, iter, ifs, 0⟩] scope pos) (some (.Name y py)) spos.line X.env = pure true) (hi : PI X tg iter (TIt X.K E fi)) (ok : BlkOk X.N X.env.scope scope own)
    (hg : ∀ (s : Shared) (H : Hp) (C : Addr) (cl : List (Str × Addr)) (fp : List Addr), PG (X.blk s H scope (compEnvC scope cl C X.env) fp) tg (TGt X.K (butS X.N.length (own.map (·.2))) ft))
    (ht : ∀ (s : Shared) (H : Hp) (C : Addr) (cl : List (Str × Addr)) (fp : List Addr), PTs (X.blk s H scope (compEnvC scope cl C X.env) fp) ifs (TB X.K EF tt))
    (he : ∀ (s : Shared) (H : Hp) (C : Addr) (cl : List (Str × Addr)) (fp : List Addr), PE (X.blk s H scope (compEnvC scope cl C X.env) fp) elt (TF X.K EF te)) (hs : ∀ x, foldedSetIterable iter X.env x = pure x) :
    PS X (.Assign [.Name y py] (.ListComp elt [⟨tg, iter, ifs, 0⟩] scope pos) spos) (TSt X.K E fx (mSetS i (mLc fi (own.map (·.2)) ft tt te))) := by
  refine ⟨fun pins s σ H D I q => (ps_setLc (i := i) hc hN hy hyl hsw hi ok hg ht he hs).run pins s σ H D I ?_⟩
  obtain ⟨F, ρ, g, go⟩ := q
  exact tLc_of (E := E) (fun i hi hl => mem_butS.mpr ⟨by rw [← I.len]; exact hl, hi⟩) ⟨F, ρ, g, (mSetS_go hfx go).mono fun sv ρ1 F1 H1 q v hv => (q v hv).2⟩
end
end Pv

set_option maxRecDepth 100000
/-! Pv, part K: defs and their calls. -/
namespace Pv
open PySem PySem.Spec L2
/-- what a def's pure function answers: the value and what its changed arguments hold behind it -/
inductive Rf where
  | ok (sv : SV) (outs : List PyData)
  | exc (c : Str) (d : PyData)
  | bad
/-- io: which arguments are changed in place (owned by the caller) -/
structure FD where
  io : List Bool
  g : List PyData → Rf
section
variable {K : PySem.W.Frag} {F F' F0 F1 F2 W : Reg} {H H' H0 H1 H2 : Hp}
inductive Args (K : PySem.W.Frag) (F : Reg) (H : Hp) : List Bool → List V → List PyData → List Addr → Prop
  | nil : Args K F H [] [] [] []
  | fz {io : List Bool} {v : V} {vs : List V} {d : PyData} {ds : List PyData} {as : List Addr} : Rp K F H v d → Args K F H io vs ds as → Args K F H (false :: io) (v :: vs) (d :: ds) as
  | io {io : List Bool} {a : Addr} {vs : List V} {d : PyData} {ds : List PyData} {as : List Addr} : ¬ F a → Held K F H True a d → a ∉ as → Args K F H io vs ds as → Args K F H (true :: io) (.ref a :: vs) (d :: ds) (a :: as)
theorem Args.len {io : List Bool} {vs : List V} {ds : List PyData} {as : List Addr} (h : Args K F H io vs ds as) : vs.length = io.length ∧ ds.length = io.length := by
  induction h with
  | nil => exact ⟨rfl, rfl⟩
  | fz _ _ ih => exact ⟨congrArg (· + 1) ih.1, congrArg (· + 1) ih.2⟩
  | io _ _ _ _ ih => exact ⟨congrArg (· + 1) ih.1, congrArg (· + 1) ih.2⟩
/-- an exception of the program's own with one value, behind a call -/
def Eof (K : PySem.W.Frag) (cl : Str → Addr) (E : XK) : EK := fun c d F H => ∀ dd v, Rp K F H v d → H dd = some (.xd [("value", v)]) → E (.ref (cl c)) (some dd) H
/-- the promise of a def by its pure function -/
def spF (K : PySem.W.Frag) (cl : Str → Addr) (fd : FD) : Sp := fun vs H Q E => ∃ (F : Reg) (ds : List PyData) (as : List Addr), Args K F H fd.io vs ds as ∧ (∀ a, F a → H a ≠ none) ∧
  match fd.g ds with
  | .ok sv outs => ∀ v F' H', Step (fun a => a ∈ as) F H F' H' → (∀ a, F' a → H' a ≠ none) → Al (fun a d => ¬ F' a ∧ Held K F' H' True a d) as outs → Srep K F' H' v sv → sv.o ≠ .lk → (sv.o = .ow → ∀ a, v = .ref a → H a = none) → Q v H'
  | .exc c d => ∀ F' H', Step (fun a => a ∈ as) F H F' H' → (∀ a, F' a → H' a ≠ none) → Eof K cl E c d F' H'
  | .bad => False
theorem spF_len {cl : Str → Addr} {fd : FD} {n : Nat} (hn : fd.io.length = n) : ∀ vs H Q E, spF K cl fd vs H Q E → vs.length = n := fun vs H Q E h => by
  obtain ⟨F, ds, as, h, _⟩ := h
  exact h.len.1.trans hn
/-- a pure function that says more keeps the promise of one that says less -/
theorem spF_imp {cl : Str → Addr} {io : List Bool} {g g' : List PyData → Rf} (h : ∀ ds, g' ds ≠ .bad → g ds = g' ds) : ∀ vs H Q E, spF K cl ⟨io, g'⟩ vs H Q E → spF K cl ⟨io, g⟩ vs H Q E := fun vs H Q E ⟨F, ds, as, ha, al, q⟩ => by
  refine ⟨F, ds, as, ha, al, ?_⟩
  have e : g ds = g' ds := h ds fun z => by
    dsimp only at q
    rw [z] at q; exact q
  dsimp only at q ⊢
  rw [e]
  exact q
/-! ### a def's body -/
/-- the slots at a def's entry -/
def env0 : List Bool → List PyData → Nat → PEnv
  | io :: ios, d :: ds, n + 1 => some ⟨d, if io then .ow else .fr⟩ :: env0 ios ds n
  | _, _, n => List.replicate n none
/-- what the changed arguments hold at a def's end -/
def outsOf : List Bool → PEnv → Option (List PyData)
  | [], _ => some []
  | false :: ios, _ :: ρ => outsOf ios ρ
  | true :: ios, some ⟨d, .ow⟩ :: ρ => (outsOf ios ρ).map (d :: ·)
  | _, _ => none
def ioIx (io : List Bool) : List Nat := (List.range io.length).filter fun i => io.getD i false
@[irreducible] def runF (io : List Bool) (n : Nat) (body : M Fl) (ds : List PyData) : Rf :=
  match body (env0 io ds n) with
  | .ok (.rt sv) ρ => (match outsOf io ρ with | some outs => .ok sv outs | none => .bad)
  | .ok .nx ρ => (match outsOf io ρ with | some outs => .ok (frv .none) outs | none => .bad)
  | .exc c d => .exc c d
  | _ => .bad
theorem env0_length : ∀ (io : List Bool) (ds : List PyData) (n : Nat), (env0 io ds n).length = n
  | io :: ios, d :: ds, n + 1 => congrArg (· + 1) (env0_length ios ds n)
  | [], _, n => List.length_replicate
  | _ :: _, [], n => List.length_replicate
  | _ :: _, _ :: _, 0 => rfl
theorem env0_get : ∀ {io : List Bool} {ds : List PyData} {n i : Nat} {sv : SV}, (env0 io ds n)[i]? = some (some sv) → ∃ b d, io[i]? = some b ∧ ds[i]? = some d ∧ sv = ⟨d, if b then .ow else .fr⟩
  | io :: ios, d :: ds, n + 1, 0, sv, h => by
    have h : some (some (⟨d, if io then .ow else .fr⟩ : SV)) = some (some sv) := h
    cases h
    exact ⟨io, d, rfl, rfl, rfl⟩
  | io :: ios, d :: ds, n + 1, i + 1, sv, h => by
    have h : (env0 ios ds n)[i]? = some (some sv) := h
    exact env0_get (io := ios) (ds := ds) (n := n) (i := i) h
  | [], ds, n, i, sv, h => by
    have h : (List.replicate n (none : Option SV))[i]? = some (some sv) := by cases n <;> exact h
    rw [List.getElem?_replicate] at h
    split at h <;> cases h
  | _ :: _, [], n, i, sv, h => by
    have h : (List.replicate n (none : Option SV))[i]? = some (some sv) := by cases n <;> exact h
    rw [List.getElem?_replicate] at h
    split at h <;> cases h
  | _ :: _, _ :: _, 0, i, sv, h => by
    have h : ([] : PEnv)[i]? = some (some sv) := h
    cases i <;> cases h
def ArgIs (K : PySem.W.Frag) (F : Reg) (H : Hp) (as : List Addr) (d : PyData) (v : V) : Bool → Prop
  | true => ∃ a, v = .ref a ∧ a ∈ as ∧ ¬ F a ∧ Held K F H True a d
  | false => Rp K F H v d
theorem Args.at {io : List Bool} {vs : List V} {ds : List PyData} {as : List Addr} (h : Args K F H io vs ds as) : ∀ {i : Nat} {b : Bool} {d : PyData}, io[i]? = some b → ds[i]? = some d →
    ∃ v, vs[i]? = some v ∧ ArgIs K F H as d v b := by
  induction h with
  | nil => intro i b d e; simp at e
  | @fz io v vs d ds as r _ ih =>
    intro i b d' e1 e2
    cases i with
    | zero => cases e1; cases e2; exact ⟨v, rfl, r⟩
    | succ i => exact ih (i := i) (by simpa using e1) (by simpa using e2)
  | @io io a vs d ds as nf r na _ ih =>
    intro i b d' e1 e2
    cases i with
    | zero =>
      cases e1; cases e2
      have q : ArgIs K F H (a :: as) d (.ref a) true := ⟨a, rfl, List.mem_cons_self, nf, r⟩
      exact ⟨.ref a, rfl, q⟩
    | succ i =>
      obtain ⟨v, ev, q⟩ := ih (i := i) (by simpa using e1) (by simpa using e2)
      refine ⟨v, ev, ?_⟩
      cases b with
      | false => exact q
      | true =>
        obtain ⟨a', e, m, q⟩ := q
        exact ⟨a', e, List.mem_cons_of_mem _ m, q⟩
/-- an io argument's place is the only one with its address -/
theorem Args.inj {io : List Bool} {vs : List V} {ds : List PyData} {as : List Addr} (h : Args K F H io vs ds as) : ∀ {i j : Nat} {a : Addr}, io[i]? = some true → io[j]? = some true → vs[i]? = some (.ref a) → vs[j]? = some (.ref a) → i = j := by
  have mem : ∀ {io : List Bool} {vs : List V} {ds : List PyData} {as : List Addr}, Args K F H io vs ds as → ∀ {i : Nat} {a : Addr}, io[i]? = some true → vs[i]? = some (.ref a) → a ∈ as := by
    intro io vs ds as h
    induction h with
    | nil => intro i a e; simp at e
    | @fz io v vs d ds as r _ ih =>
      intro i a e1 e2
      cases i with
      | zero => cases e1
      | succ i => exact ih (i := i) (by simpa using e1) (by simpa using e2)
    | @io io a' vs d ds as nf r na _ ih =>
      intro i a e1 e2
      cases i with
      | zero => cases e2; exact List.mem_cons_self
      | succ i => exact List.mem_cons_of_mem _ (ih (i := i) (by simpa using e1) (by simpa using e2))
  induction h with
  | nil => intro i j a e; simp at e
  | @fz io v vs d ds as r h ih =>
    intro i j a e1 e2 e3 e4
    cases i with
    | zero => cases e1
    | succ i =>
      cases j with
      | zero => cases e2
      | succ j => exact congrArg (· + 1) (ih (by simpa using e1) (by simpa using e2) (by simpa using e3) (by simpa using e4))
  | @io io a' vs d ds as nf r na h ih =>
    intro i j a e1 e2 e3 e4
    cases i with
    | zero =>
      cases j with
      | zero => rfl
      | succ j =>
        cases e3
        exact absurd (mem h (i := j) (by simpa using e2) (by simpa using e4)) na
    | succ i =>
      cases j with
      | zero =>
        cases e4
        exact absurd (mem h (i := i) (by simpa using e1) (by simpa using e3)) na
      | succ j => exact congrArg (· + 1) (ih (by simpa using e1) (by simpa using e2) (by simpa using e3) (by simpa using e4))
/-- the addresses of the changed arguments, by place -/
theorem Args.outs {io : List Bool} {vs : List V} {ds : List PyData} {as : List Addr} (h : Args K F H io vs ds as) : ∀ {ρ : PEnv} {outs : List PyData} {P : Addr → PyData → Prop}, outsOf io ρ = some outs →
    (∀ (i : Nat) (a : Addr) (d : PyData), io[i]? = some true → vs[i]? = some (.ref a) → ρ[i]? = some (some ⟨d, .ow⟩) → P a d) → Al P as outs := by
  induction h with
  | nil => intro ρ outs P e _; cases e; exact .nil
  | @fz io v vs d ds as r h ih =>
    intro ρ outs P e hP
    cases ρ with
    | nil => cases e
    | cons o ρ => exact ih (ρ := ρ) (P := P) e fun i a d e1 e2 e3 => hP (i + 1) a d e1 e2 e3
  | @io io a vs d ds as nf r na h ih =>
    intro ρ outs P e hP
    cases ρ with
    | nil => cases e
    | cons o ρ =>
      cases o with
      | none => cases e
      | some sv =>
        obtain ⟨d', o⟩ := sv
        cases o with
        | fr => cases e
        | lk => cases e
        | ow =>
          simp only [outsOf, Option.map_eq_some_iff] at e
          obtain ⟨outs', e, rfl⟩ := e
          exact .cons (hP 0 a d' rfl rfl rfl) (ih (ρ := ρ) (P := P) e fun i a d e1 e2 e3 => hP (i + 1) a d e1 e2 e3)
theorem start_get {N : List Str} {vs : List V} {i : Nat} {v : V} (h : vs[i]? = some v) : (start N vs)[i]? = some (some v) := by
  unfold L2.start
  rw [List.getElem?_append_left (by rw [List.length_map]; exact (List.getElem?_eq_some_iff.mp h).1), List.getElem?_map, h]
  rfl
/-- the state at a def's entry -/
theorem entry_gd {N : List Str} {io : List Bool} {vs : List V} {ds : List PyData} {as : List Addr} (h : Args K F H io vs ds as) (al : ∀ a, F a → H a ≠ none) (hN : io.length ≤ N.length) :
    Gd K F H (start N vs) (env0 io ds N.length) ∧ (∀ a, Own (start N vs) (env0 io ds N.length) a → a ∈ as) ∧ (∀ a, Hold (start N vs) (env0 io ds N.length) a → a ∈ as) := by
  have hl : (start N vs).length = N.length := by
    unfold L2.start
    rw [List.length_append, List.length_map, List.length_replicate, h.len.1]; omega
  have hold : ∀ (i : Nat) (a : Addr), HoldAt (start N vs) (env0 io ds N.length) i a → io[i]? = some true ∧ vs[i]? = some (.ref a) ∧ a ∈ as := fun i a ⟨e1, sv, e2, e3⟩ => by
    obtain ⟨b, d, eb, ed, rfl⟩ := env0_get e2
    obtain ⟨v, ev, q⟩ := h.at eb ed
    cases b with
    | false => exact absurd rfl e3
    | true =>
      rw [start_get ev] at e1
      cases e1
      obtain ⟨a', e, m, _⟩ := q
      cases e
      exact ⟨eb, ev, m⟩
  refine ⟨⟨by rw [env0_length, hl], al, fun i sv e => ?_, fun i j a h1 h2 => ?_⟩, fun a ⟨i, z⟩ => (hold i a z.hold).2.2, fun a ⟨i, z⟩ => (hold i a z).2.2⟩
  · obtain ⟨b, d, eb, ed, rfl⟩ := env0_get e
    obtain ⟨v, ev, q⟩ := h.at eb ed
    refine ⟨v, start_get ev, ?_⟩
    cases b with
    | false => exact q
    | true =>
      obtain ⟨a, e, m, nf, hh⟩ := q
      exact ⟨a, e, nf, hh⟩
  · obtain ⟨b1, v1, _⟩ := hold i a h1
    obtain ⟨b2, v2, _⟩ := hold j a h2
    exact h.inj b1 b2 v1 v2
end
/-- THE RULE: a def of the text keeps the promise of the pure function that its body's reading is -/
theorem fnok_of {P : Program} {w : World} {K : PySem.W.Frag} {mg : Str → Option Value} {base : Heap} {x qual : Str} {st : Stmt} {f : Addr} {fd : FuncData} {N ps : List Str} {k : Nat} {cl : Str → Addr} {io : List Bool} {body : M Fl} {fx : List Nat}
    (T : Fun K x qual st f fd) (S : FnScope N ps (defScope st)) (hio : io.length = ps.length) (hfx : ∀ i, io[i]? = some true → i ∈ fx)
    (hbody : ∀ (cdv : Value) (A : Around) (outer : List Env) (s : Shared) (H : Hp) (E : XK), Room k (A.deeper (PyProof.Rows.envOfC qual (defScope st) s.heap.objs.size f cdv)) →
      PSs (cxOf (L2.CX P w) P w K mg base N qual (defScope st) f cdv A outer s H E) (defBody st) (TSt K (Eof K cl E) fx body)) :
    FnOk P w K mg base (L2.CX P w) (k + 1) f fd ps (spF K cl ⟨io, runF io N.length body⟩) := by
  have hpl : ps.length ≤ N.length := by have := congrArg List.length S.pre; rw [List.length_take] at this; omega
  refine Fun.okX T S (spF_len hio) fun cdv A outer s H vs Q E hr h => ⟨_, hbody cdv A outer s H E hr, ?_⟩
  obtain ⟨F, ds, as, ha, al, q⟩ := h
  obtain ⟨g0, own0, hold0⟩ := entry_gd (N := N) ha al (by show io.length ≤ _; omega)
  have low : ∀ {F' : Reg} {H' : Hp}, Step (Own (start N vs) (env0 io ds N.length)) F H F' H' → Step (fun a => a ∈ as) F H F' H' := fun s => s.weak own0
  refine ⟨F, _, g0, ?_⟩
  dsimp only at q
  unfold runF at q
  unfold GoS
  have some_of : ∀ a, a ∈ as → H a ≠ none := fun a m z => by
    have : ∀ {io : List Bool} {vs : List V} {ds : List PyData} {as : List Addr}, Args K F H io vs ds as → ∀ a ∈ as, H a ≠ none := by
      intro io vs ds as h
      induction h with
      | nil => intro a m; exact nomatch m
      | fz _ _ ih => exact ih
      | io _ hh _ _ ih =>
        intro a m
        rcases List.mem_cons.mp m with e | m
        · subst e; exact hh.knd.some
        · exact ih a m
    exact this ha a m z
  have fin : ∀ {sv : SV} {ρ' : PEnv} {outs : List PyData} {σ' : L2.St} {F' : Reg} {H' : Hp} {v : V}, outsOf io ρ' = some outs → StepS K fx (start N vs) (env0 io ds N.length) F H σ' ρ' F' H' → Srep K F' H' v sv → sv.o ≠ .lk →
      (sv.o = .ow → ∀ a, v = .ref a → ¬ Hold σ' ρ' a ∧ (H a = none ∨ Own (start N vs) (env0 io ds N.length) a)) →
      (∀ v F' H', Step (fun a => a ∈ as) F H F' H' → (∀ a, F' a → H' a ≠ none) → Al (fun a d => ¬ F' a ∧ Held K F' H' True a d) as outs → Srep K F' H' v sv → sv.o ≠ .lk → (sv.o = .ow → ∀ a, v = .ref a → H a = none) → Q v H') → Q v H' := by
    intro sv ρ' outs σ' F' H' v eo st r nl new q
    have at_ : ∀ (i : Nat) (a : Addr) (d : PyData), io[i]? = some true → vs[i]? = some (.ref a) → ρ'[i]? = some (some ⟨d, .ow⟩) → σ'[i]? = some (some (.ref a)) ∧ ¬ F' a ∧ Held K F' H' True a d := fun i a d e1 e2 e3 => by
      have eσ : σ'[i]? = some (some (.ref a)) := by rw [st.fix i (hfx i e1)]; exact start_get e2
      obtain ⟨v', ev, a', rfl, nf, hh⟩ := st.good.sl i _ e3
      rw [eσ] at ev; cases ev
      exact ⟨eσ, nf, hh⟩
    refine q v F' H' (low st.step) st.good.al (ha.outs eo fun i a d e1 e2 e3 => (at_ i a d e1 e2 e3).2) r nl fun ho a e => ?_
    obtain ⟨nh, c⟩ := new ho a e
    rcases c with c | c
    · exact c
    · exfalso
      -- an io argument itself is not handed back: its slot still holds it
      have m := own0 a c
      have : ∃ (i : Nat) (d : PyData), io[i]? = some true ∧ vs[i]? = some (.ref a) ∧ ρ'[i]? = some (some ⟨d, .ow⟩) := by
        have gen : ∀ {io : List Bool} {vs : List V} {ds : List PyData} {as : List Addr}, Args K F H io vs ds as → ∀ {ρ' : PEnv} {outs : List PyData}, outsOf io ρ' = some outs → a ∈ as → ∃ (i : Nat) (d : PyData), io[i]? = some true ∧ vs[i]? = some (.ref a) ∧ ρ'[i]? = some (some ⟨d, .ow⟩) := by
          intro io vs ds as h
          induction h with
          | nil => intro ρ' outs _ m; exact nomatch m
          | @fz io v vs d ds as r h ih =>
            intro ρ' outs e m
            cases ρ' with
            | nil => cases e
            | cons o ρ' =>
              obtain ⟨i, d, a1, a2, a3⟩ := ih (ρ' := ρ') e m
              exact ⟨i + 1, d, by simpa using a1, by simpa using a2, by simpa using a3⟩
          | @io io b vs d ds as nf r na h ih =>
            intro ρ' outs e m
            cases ρ' with
            | nil => cases e
            | cons o ρ' =>
              cases o with
              | none => cases e
              | some sv =>
                obtain ⟨d', o⟩ := sv
                cases o with
                | fr => cases e
                | lk => cases e
                | ow =>
                  simp only [outsOf, Option.map_eq_some_iff] at e
                  obtain ⟨outs', e, rfl⟩ := e
                  rcases List.mem_cons.mp m with z | m
                  · subst z
                    exact ⟨0, d', rfl, rfl, rfl⟩
                  · obtain ⟨i, d, a1, a2, a3⟩ := ih (ρ' := ρ') e m
                    exact ⟨i + 1, d, by simpa using a1, by simpa using a2, by simpa using a3⟩
        exact gen ha eo m
      obtain ⟨i, d, a1, a2, a3⟩ := this
      exact nh ⟨i, (at_ i a d a1 a2 a3).1, _, a3, fun z => nomatch z⟩
  cases e : body (env0 io ds N.length) with
  | bad => rw [e] at q; exact q
  | exc c d =>
    rw [e] at q
    exact fun F' H' st al' => q F' H' (low st) al'
  | ok fl ρ' =>
    rw [e] at q
    cases fl with
    | bk => exact q.elim
    | ct => exact q.elim
    | nx =>
      dsimp only at q ⊢
      intro σ' F' H' st
      cases eo : outsOf io ρ' with
      | none => rw [eo] at q; exact q.elim
      | some outs =>
        rw [eo] at q
        exact fin (sv := frv .none) (v := .non) eo st .non (fun z => nomatch z) (fun z => nomatch z) q
    | rt sv =>
      dsimp only at q ⊢
      intro σ' F' H' st v hv
      cases eo : outsOf io ρ' with
      | none => rw [eo] at q; exact q.elim
      | some outs =>
        rw [eo] at q
        exact fin eo st hv.rep hv.nl hv.new q
end Pv

set_option maxRecDepth 100000
/-! Pv, part L: calls of defs. -/
namespace Pv
open PySem PySem.Spec L2
inductive Arg where | fz (d : PyData) | io (i : Nat)
def argD (ρ : PEnv) : Bool → Arg → Option PyData
  | false, .fz d => some d
  | true, .io i => (match ρ[i]? with | some (some ⟨d, .ow⟩) => some d | _ => none)
  | _, _ => none
def argsD (ρ : PEnv) : List Bool → List Arg → Option (List PyData)
  | [], [] => some []
  | b :: io, a :: as => (match argD ρ b a with | some d => (argsD ρ io as).map (d :: ·) | none => none)
  | _, _ => none
def ioS : List Arg → List Nat
  | [] => []
  | .io i :: as => i :: ioS as
  | .fz _ :: as => ioS as
def putO : List Nat → List PyData → PEnv → Option PEnv
  | [], [], ρ => some ρ
  | i :: is, d :: ds, ρ => putO is ds (ρ.set i (some ⟨d, .ow⟩))
  | _, _, _ => none
def callF (fd : FD) (as : List Arg) : M SV := fun ρ =>
  match argsD ρ fd.io as with
  | none => .bad
  | some ds => if (ioS as).Nodup then
      match fd.g ds with
      | .ok sv outs => (match putO (ioS as) outs ρ with | some ρ' => if sv.o = .lk then .bad else .ok sv ρ' | none => .bad)
      | .exc c d => .exc c d
      | .bad => .bad
    else .bad
def mArgF (f : M PyData) : M Arg := do pure (.fz (← f))
def mArgI (i : Nat) : M Arg := fun ρ => match ρ[i]? with | some (some _) => .ok (.io i) ρ | _ => .bad
def mCallF (fd : FD) (fs : M (List Arg)) : M SV := do callF fd (← fs)
section
variable {K : PySem.W.Frag} {F F' F0 F1 F2 W : Reg} {H H' H0 H1 H2 : Hp} {σ σ' : L2.St} {ρ ρ' ρ0 ρ1 ρ2 : PEnv} {E : EK} {α β : Type} {C : β → PEnv → Reg → Hp → Prop}
/-- an argument's value -/
def AR (K : PySem.W.Frag) (F : Reg) (H : Hp) (σ : L2.St) (v : V) : Arg → Prop
  | .fz d => Rp K F H v d
  | .io i => σ[i]? = some (some v)
def TR (K : PySem.W.Frag) (E : EK) (f : M Arg) : TE := fun σ H Q => ∃ F ρ, Gd K F H σ ρ ∧ Go K E f σ F H ρ fun a _ F' H' => ∀ v, AR K F' H' σ v a → Q v H'
def TAR (K : PySem.W.Frag) (E : EK) (fs : M (List Arg)) : TA := fun σ H Q => ∃ F ρ, Gd K F H σ ρ ∧ Go K E fs σ F H ρ fun as _ F' H' => ∀ vs, Al (AR K F' H' σ) vs as → Q vs H'
theorem AR.stay {v : V} {a : Arg} (s : Stay F1 H1 F2 H2) (h : AR K F1 H1 σ v a) : AR K F2 H2 σ v a := by
  cases a with
  | fz d => exact Rp.stay s h
  | io i => exact h
theorem args_of (g : Gd K F H σ ρ) : ∀ {io : List Bool} {as : List Arg} {vs : List V} {ds : List PyData}, Al (AR K F H σ) vs as → argsD ρ io as = some ds → (ioS as).Nodup →
    ∃ adr, Args K F H io vs ds adr ∧ Al (fun a i => ∃ d, σ[i]? = some (some (.ref a)) ∧ ρ[i]? = some (some ⟨d, .ow⟩)) adr (ioS as)
  | [], [], _, ds, .nil, e, _ => by cases e; exact ⟨[], .nil, .nil⟩
  | [], a :: as, _, ds, _, e, _ => by cases e
  | b :: io, [], _, ds, _, e, _ => by cases e
  | b :: io, a :: as, _, ds, .cons h t, e, nd => by
    unfold argsD at e
    cases ea : argD ρ b a with
    | none => rw [ea] at e; cases e
    | some d =>
      rw [ea] at e
      dsimp only at e
      cases es : argsD ρ io as with
      | none => rw [es] at e; cases e
      | some ds' =>
        rw [es] at e
        cases e
        cases b with
        | false =>
          cases a with
          | io i => cases ea
          | fz d' =>
            cases ea
            obtain ⟨adr, h1, h2⟩ := args_of g t es nd
            exact ⟨adr, .fz h h1, h2⟩
        | true =>
          cases a with
          | fz d' => cases ea
          | io i =>
            have nd' : i ∉ ioS as ∧ (ioS as).Nodup := List.nodup_cons.mp nd
            obtain ⟨adr, h1, h2⟩ := args_of g t es nd'.2
            unfold argD at ea
            dsimp only at ea
            split at ea
            · rename_i d' er
              cases ea
              obtain ⟨v', ev, a, rfl, nf, hh⟩ := g.sl i _ er
              have h : σ[i]? = some (some _) := h
              rw [ev] at h
              cases h
              refine ⟨a :: adr, .io nf hh (fun m => ?_) h1, .cons ⟨_, ev, er⟩ h2⟩
              have : ∀ {adr : List Addr} {is : List Nat}, Al (fun a i => ∃ d, σ[i]? = some (some (.ref a)) ∧ ρ[i]? = some (some ⟨d, .ow⟩)) adr is → a ∈ adr → ∃ j ∈ is, ∃ d, σ[j]? = some (some (.ref a)) ∧ ρ[j]? = some (some ⟨d, .ow⟩) := by
                intro adr is h m
                induction h with
                | nil => cases m
                | cons h _ ih =>
                  rcases List.mem_cons.mp m with e | m
                  · subst e; exact ⟨_, List.mem_cons_self, h⟩
                  · obtain ⟨j, hj, q⟩ := ih m
                    exact ⟨j, List.mem_cons_of_mem _ hj, q⟩
              obtain ⟨j, hj, d2, q1, q2⟩ := this h2 m
              have : i = j := g.dis i j a ⟨ev, _, er, fun z => nomatch z⟩ ⟨q1, _, q2, fun z => nomatch z⟩
              exact nd'.1 (this ▸ hj)
            · cases ea
/-- the changed arguments, put back -/
theorem put_gd : ∀ {adr : List Addr} {is : List Nat} {outs : List PyData} {ρ ρ' : PEnv},
    Al (fun a i => ∃ d, σ[i]? = some (some (.ref a)) ∧ ρ[i]? = some (some ⟨d, .ow⟩)) adr is → Al (fun a d => ¬ F' a ∧ Held K F' H' True a d) adr outs → putO is outs ρ = some ρ' →
    ρ.length = σ.length → (∀ i j a, HoldAt σ ρ i a → HoldAt σ ρ j a → i = j) → (∀ (i : Nat) (sv : SV), ρ[i]? = some (some sv) → i ∉ is → ∃ v, σ[i]? = some (some v) ∧ Srep K F' H' v sv) →
    ρ'.length = σ.length ∧ (∀ i j a, HoldAt σ ρ' i a → HoldAt σ ρ' j a → i = j) ∧ (∀ (i : Nat) (sv : SV), ρ'[i]? = some (some sv) → ∃ v, σ[i]? = some (some v) ∧ Srep K F' H' v sv) ∧ Sub σ ρ ρ'
  | [], [], [], ρ, ρ', _, _, e, hl, hd, hs => by cases e; exact ⟨hl, hd, fun i sv e => hs i sv e (fun z => nomatch z), .refl⟩
  | [], [], _ :: _, ρ, ρ', _, h, e, hl, hd, hs => by cases e
  | _, i :: is, [], ρ, ρ', _, _, e, hl, hd, hs => by cases e
  | a :: adr, i :: is, d :: outs, ρ, ρ', .cons h1 t1, .cons h2 t2, e, hl, hd, hs => by
    obtain ⟨d0, eσ, eρ⟩ := h1
    have hi : i < ρ.length := (List.getElem?_eq_some_iff.mp eρ).1
    have e : putO is outs (ρ.set i (some ⟨d, .ow⟩)) = some ρ' := e
    have at_ : ∀ (j : Nat) (sv : SV), (ρ.set i (some ⟨d, .ow⟩))[j]? = some (some sv) → (j = i ∧ sv = ⟨d, .ow⟩) ∨ (j ≠ i ∧ ρ[j]? = some (some sv)) := fun j sv e => by
      by_cases z : i = j
      · subst z
        rw [List.getElem?_set_self hi] at e
        cases e
        exact .inl ⟨rfl, rfl⟩
      · rw [List.getElem?_set_ne z] at e
        exact .inr ⟨fun q => z q.symm, e⟩
    have hold : ∀ j a, HoldAt σ (ρ.set i (some ⟨d, .ow⟩)) j a → HoldAt σ ρ j a := fun j a ⟨e1, sv, e2, e3⟩ => by
      rcases at_ j sv e2 with ⟨rfl, rfl⟩ | ⟨_, q⟩
      · exact ⟨e1, _, eρ, fun z => nomatch z⟩
      · exact ⟨e1, sv, q, e3⟩
    have own : ∀ j a, OwnAt σ (ρ.set i (some ⟨d, .ow⟩)) j a → OwnAt σ ρ j a := fun j a ⟨e1, sv, e2, e3⟩ => by
      rcases at_ j sv e2 with ⟨rfl, rfl⟩ | ⟨_, q⟩
      · exact ⟨e1, _, eρ, rfl⟩
      · exact ⟨e1, sv, q, e3⟩
    have t1' : Al (fun a j => ∃ d', σ[j]? = some (some (.ref a)) ∧ (ρ.set i (some ⟨d, .ow⟩))[j]? = some (some ⟨d', .ow⟩)) adr is := t1.imp fun a j ⟨d', q1, q2⟩ => by
      by_cases z : i = j
      · subst z
        exact ⟨d, q1, List.getElem?_set_self hi⟩
      · exact ⟨d', q1, by rw [List.getElem?_set_ne z]; exact q2⟩
    obtain ⟨r1, r2, r3, r4⟩ := put_gd t1' t2 e (by rw [List.length_set]; exact hl) (fun j k a q1 q2 => hd j k a (hold j a q1) (hold k a q2)) fun j sv e nj => by
      rcases at_ j sv e with ⟨rfl, rfl⟩ | ⟨z, q⟩
      · exact ⟨_, eσ, a, rfl, h2.1, h2.2⟩
      · exact hs j sv q fun m => (List.mem_cons.mp m).elim z nj
    exact ⟨r1, r2, r3, .trans ⟨fun a ⟨j, z⟩ => ⟨j, own j a z⟩, fun a ⟨j, z⟩ => ⟨j, hold j a z⟩⟩ r4⟩
theorem Al.memL {α β : Type} {P : α → β → Prop} {as : List α} {bs : List β} (h : Al P as bs) {a : α} (m : a ∈ as) : ∃ b ∈ bs, P a b := by
  induction h with
  | nil => cases m
  | cons h _ ih =>
    rcases List.mem_cons.mp m with e | m
    · subst e; exact ⟨_, List.mem_cons_self, h⟩
    · obtain ⟨b, hb, q⟩ := ih m
      exact ⟨b, List.mem_cons_of_mem _ hb, q⟩
theorem call_sp {cl : Str → Addr} {fd : FD} {as : List Arg} {vs : List V} {Q : VK} {E' : XK} (gd : Gd K F1 H1 σ ρ1) (s1 : Step (Own σ ρ) F H F1 H1) (sub1 : Sub σ ρ ρ1)
    (hE : ∀ c d F H, E c d F H → Eof K cl E' c d F H) (hv : Al (AR K F1 H1 σ) vs as)
    (go : Go K E (callF fd as) σ F1 H1 ρ1 fun sv ρ' F' H' => ∀ v, VR K σ ρ H ρ' F' H' v sv → Q v H') : spF K cl fd vs H1 Q E' := by
  unfold Go callF at go
  cases ea : argsD ρ1 fd.io as with
  | none => rw [ea] at go; exact go.elim
  | some ds =>
    rw [ea] at go
    dsimp only at go
    by_cases hn : (ioS as).Nodup
    · rw [if_pos hn] at go
      obtain ⟨adr, hA, hO⟩ := args_of gd hv ea hn
      have ownA : ∀ a, a ∈ adr → Own σ ρ1 a := fun a m => by
        obtain ⟨i, _, d, q1, q2⟩ := hO.memL m
        exact ⟨i, q1, _, q2, rfl⟩
      refine ⟨F1, ds, adr, hA, gd.al, ?_⟩
      cases eg : fd.g ds with
      | bad => rw [eg] at go; exact go.elim
      | exc c d =>
        rw [eg] at go
        exact fun F' H' st al => hE _ _ _ _ (go F' H' (st.weak ownA) al)
      | ok sv outs =>
        rw [eg] at go
        dsimp only at go ⊢
        intro v F' H' st al ho hr nl new
        cases ep : putO (ioS as) outs ρ1 with
        | none => rw [ep] at go; exact go.elim
        | some ρ' =>
          rw [ep] at go
          dsimp only at go
          rw [if_neg nl] at go
          have st' : Step (Own σ ρ1) F1 H1 F' H' := st.weak ownA
          have sty := st'.stay gd.wok
          obtain ⟨r1, r2, r3, r4⟩ := put_gd hO ho ep gd.len gd.dis fun i sv' e ni => by
            obtain ⟨v', ev, r⟩ := gd.sl i sv' e
            refine ⟨v', ev, r.stay sty fun hof a ea => ?_⟩
            subst ea
            have na : a ∉ adr := fun m => by
              obtain ⟨j, hj, d, q1, q2⟩ := hO.memL m
              exact ni (gd.dis i j a ⟨ev, _, e, hof⟩ ⟨q1, _, q2, fun z => nomatch z⟩ ▸ hj)
            have hh : Hold σ ρ1 a := ⟨i, ev, _, e, hof⟩
            refine ⟨fun o q => st.keep a o q na, fun nf f => ?_⟩
            rcases st.nf a f with q | q | q
            · exact nf q
            · exact na q
            · exact (gd.hold hh).2.some q
          refine go F' H' st' ⟨r1, al, r3, r2⟩ r4 v ⟨hr, nl, fun e a ea => ⟨fun z => (gd.hold (r4.hold a z)).2.some (new e a ea), ?_⟩⟩
          cases e0 : H a with
          | none => exact .inl rfl
          | some o =>
            by_cases w : Own σ ρ a
            · exact .inr w
            · have q := s1.keep a o e0 w
              rw [new e a ea] at q; cases q
    · rw [if_neg hn] at go; exact go.elim
end
section
variable {X : Cx} {E : EK} {pos p : Pos} {e : Expr} {es : List Expr} {x : Str}
theorem qr_fz {f : M PyData} (h : PE X e (TF X.K E f)) : PE X e (TR X.K E (mArgF f)) := PE.imp h fun σ H Q ⟨F, ρ, g, go⟩ => by
  refine ⟨F, ρ, g, (Go.bind go).mono ?_⟩
  rintro d ρ1 F1 H1 ⟨g1, s1, sub1, go1⟩ v hv
  exact Go.pure go1 F1 H1 .refl g1 v hv
theorem qr_io {i : Nat} (h : PE X e (tVar i)) : PE X e (TR X.K E (mArgI i)) := PE.imp h fun σ H Q ⟨F, ρ, g, go⟩ => by
  unfold Go mArgI at go
  cases hρ : ρ[i]? with
  | none => rw [hρ] at go; exact go.elim
  | some o =>
    cases o with
    | none => rw [hρ] at go; exact go.elim
    | some sv =>
      rw [hρ] at go
      obtain ⟨v, ev, _⟩ := g.sl i _ hρ
      exact ⟨v, ev, go F H .refl g .refl v ev⟩
theorem qar_nil : PA X [] (TAR X.K E mnil) := PA.imp pa_nil fun σ H Q ⟨F, ρ, g, go⟩ => Go.pure go F H .refl g [] .nil
theorem qar_cons {f : M Arg} {fs : M (List Arg)} (he : PE X e (TR X.K E f)) (hs : PA X es (TAR X.K E fs)) (h1 : starEach (e :: es) X.env = (false, eval e X.env) :: starEach es X.env) : PA X (e :: es) (TAR X.K E (mcons f fs)) :=
  PA.imp (pa_cons he hs h1) fun σ H Q ⟨F, ρ, g, go⟩ => by
    refine ⟨F, ρ, g, (Go.bind go).mono ?_⟩
    rintro d ρ1 F1 H1 ⟨g1, s1, sub1, go1⟩ x hx
    refine ⟨F1, ρ1, g1, (Go.bind go1).mono ?_⟩
    rintro ds ρ2 F2 H2 ⟨g2, s2, sub2, go2⟩ vs hv
    exact Go.pure go2 F2 H2 .refl g2 (x :: vs) (.cons (hx.stay (s2.stay g1.wok)) hv)
/-- THE RULE: a call of a def -/
theorem qe_callF {k : Nat} {f : Addr} {fdt : FuncData} {ps : List Str} {cl : Str → Addr} {fd : FD} {fs : M (List Arg)} {E' : XK} (T : FnOk X.prog X.w X.K X.mg X.base (L2.CX X.prog X.w) k f fdt ps (spF X.K cl fd)) (hr : Room k X.A) (hg : Gl X x) (hm : X.mg x = some (.ref f))
    (hk : PySem.W.keepIn X.K (.ref f) = true) (hb : Binds X.K fdt ps []) (hx : Passes (L2.CX X.prog X.w) X E') (hE : ∀ c d F H, E c d F H → Eof X.K cl E' c d F H) (ha : PA X (e :: es) (TAR X.K E fs)) (hdb : (x == ("__debug__" : Str)) = false)
    (he : starEach (e :: es) X.env = (false, eval e X.env) :: starEach es X.env) (hpl : (backTo pos (starEach es X.env)).any (·.1) = false) : PE X (.Call (.Name x p) (e :: es) [] pos) (TV X.K E (mCallF fd fs)) :=
  PE.imp (pe_call T hr hg hm hk hb .nil hx ha hdb he hpl) fun σ H Q ⟨F, ρ, g, go⟩ => by
    refine ⟨F, ρ, g, (Go.bind go).mono ?_⟩
    rintro as ρ1 F1 H1 ⟨g1, s1, sub1, go1⟩ vs hv
    rw [List.append_nil]
    exact call_sp g1 s1 sub1 hE hv go1
/-- in a block nothing is let out -/
theorem qe_callB0 {k : Nat} {f : Addr} {fdt : FuncData} {ps : List Str} {cl : Str → Addr} {fd : FD} {fs : M (List Arg)} (T : FnOk X.prog X.w X.K X.mg X.base (L2.CX X.prog X.w) k f fdt ps (spF X.K cl fd)) (hr : Room k X.A) (hg : Gl X x) (hm : X.mg x = some (.ref f))
    (hk : PySem.W.keepIn X.K (.ref f) = true) (hb : Binds X.K fdt ps []) (ha : PA X (e :: es) (TAR X.K EF fs)) (hdb : (x == ("__debug__" : Str)) = false)
    (he : starEach (e :: es) X.env = (false, eval e X.env) :: starEach es X.env) (hpl : (backTo pos (starEach es X.env)).any (·.1) = false) : PE X (.Call (.Name x p) (e :: es) [] pos) (TV X.K EF (mCallF fd fs)) :=
  qe_callF T hr hg hm hk hb passL (fun _ _ _ _ z => z.elim) ha hdb he hpl
end
end Pv

set_option maxRecDepth 100000
/-! Pv, part M: enumerate, zip of two and of three, over lists and tuples. -/
namespace Pv
open PySem PySem.Spec L2
/-! ### one turn of an iterator of tuples -/
section
variable {P : Program} {w : World} {K : PySem.W.Frag}
theorem turn_walksT {elts : List Expr} {kk : Nat} {tpos : Pos} {I : Addr} {own : List Addr} {J : It} {tn : Nat → Heap → Prop} (hmem : I ∈ own)
    (hobj : ∀ i h, tn i h → ∀ b ∈ own, ∃ o, h.get? b = some o ∧ ∀ v, o.data ≠ .cell v) (hkeep : ∀ i h h', tn i h → (∀ b ∈ own, ∀ o, h.get? b = some o → h'.get? b = some o) → tn i h')
    (step : ∀ (X : Cx), X.prog = P → X.w = w → X.K = K → X.calm = true → ∀ (i : Nat) (pins : List (Addr × Obj)) (s : Shared) (σ : L2.St) (H : Hp), Inv X pins σ H s → tn i s.heap → (J.go i H ∨ J.stop i H) →
      ∃ (fp wr : List Addr) (n : Nat) (Pt : Nat → Array Value → Prop) (St : Nat → Heap → Prop) (Mid : Nat → Addr → Heap → Prop), WalksT X.prog X.w X.A I fp wr n Pt St Mid ∧ St i s.heap ∧ (∀ b ∈ wr, b ∈ own) ∧
        (J.go i H → i < n ∧ ∀ vals, Pt i vals → ∃ (vs : List V) (us : List Value), vals = us.toArray ∧ Vals vs us ∧ vs.length ≤ sizeLine ∧ ∀ T, H T = none → J.yld i H (.ref T) (upd H T (.tup vs))) ∧
        (J.stop i H → i = n) ∧ (∀ h, St (i + 1) h → tn (i + 1) h))
    (self : ∀ (A : Around) (i : Nat) (s : Shared) (Q : Value → Shared → Prop) (E : Value → Shared → Prop), tn i s.heap → Q (.ref I) s → wpAny (model P w) A (pyIter (.ref I)) Q E s) :
    Turn P w K (.Tuple elts kk tpos) J own I tn where
  mem := hmem
  obj := hobj
  keep := hkeep
  item := by
    intro X hP hw hK hc i pins s σ H E I0 hf st hg
    obtain ⟨fp, wr, n, Pt, St, Mid, W, hst, hwr, hgo, _, hnx⟩ := step X hP hw hK hc i pins s σ H I0 st (.inl hg)
    subst hP hw hK
    obtain ⟨hi, hv⟩ := hgo hg
    refine W.item i s _ E hi hst fun T vals h' tk hPt hT hIs hMid hk => ?_
    obtain ⟨vs, us, ev, rv, hl, hy⟩ := hv vals hPt
    subst ev
    refine ⟨_, rfl, W.go elts kk tpos i T { s with heap := h', toks := tk } _ E hMid fun h'' hst2 hk2 => ?_⟩
    have nT : T ∉ wr := W.apart i T h' hMid
    have hIs2 : h''.IsTuple T us.toArray := hIs.at fun o e => hk2 T o nT e
    obtain ⟨o2, ho2, hc2, n2, hd2⟩ := hIs2
    have new : ObjOk X.prog X.w (upd H T (.tup vs)) h'' T (.tup vs) := ⟨hl, us, rv, ⟨o2, ho2, hc2, n2, hd2⟩⟩
    have I1 : Inv X pins σ (upd H T (.tup vs)) { s with heap := h'', toks := tk } :=
      I0.turnedNew (ch := own) (fun b o hb e => hk2 b o (fun z => hb (hwr b z)) (hk b o (fun z => hb (hwr b z)) e)) hf hT new
    have nT' : H T = none := I0.hok.fresh hT
    refine ⟨.ref T, _, I1, rfl, hy T nT', hnx _ hst2, fun b hb => ?_⟩
    obtain ⟨ob, hob, _⟩ := hobj i s.heap st b hb
    have hlt : b < s.heap.objs.size := Heap.lt_size hob
    rw [upd_ne (Nat.ne_of_lt (Nat.lt_of_lt_of_le hlt hT))]
    exact (hf b hb).1
  done := by
    intro X hP hw hK hc i pins s σ H E I0 hf st hg
    obtain ⟨fp, wr, n, Pt, St, Mid, W, hst, hwr, _, hstop, _⟩ := step X hP hw hK hc i pins s σ H I0 st (.inr hg)
    subst hP hw hK
    have e := hstop hg
    subst e
    exact W.done s _ E hst fun h' tk hk => ⟨rfl, I0.turnedL (ch := own) (fun b o hb e => hk b o (fun z => hb (hwr b z)) e) hf⟩
  self := self
end
/-! ### a list, a tuple or a range, walked by an iterator object -/
inductive Kd where | l | t | r (lo hi : Int)
def RgB (lo hi : Int) : Prop := -(2 ^ 62) ≤ lo ∧ lo < 2 ^ 62 ∧ -(2 ^ 62) ≤ hi ∧ hi < 2 ^ 62
def SqB (K : PySem.W.Frag) (t : Kd) (H : Hp) (a : Addr) (xs : List V) : Prop := match t with | .t => SqT K H a xs | .l => SqL K H a xs | .r lo hi => H a = some (.rng lo hi) ∧ RgB lo hi ∧ xs = rgV lo hi
def IsIt (t : Kd) (h : Heap) (it a : Addr) (i : Nat) : Prop := match t with | .t => h.IsTupleIter it a i | .l => h.IsListIter it a i | .r lo hi => IsRangeIter h it (lo + (i : Nat) * 1) ((((hi - lo).toNat : Nat) : Int) - (i : Nat)) 1
def itO (t : Kd) (a : Addr) : Obj := match t with
  | .t => { cls := .type "tuple_iterator", data := .fields #[.ref a, .int 0 0] }
  | .l => { cls := .type "list_iterator", data := .fields #[.ref a, .int 0 0] }
  | .r lo hi => { cls := .type "range_iterator", data := .fields #[rawInt lo, rawInt (Builtin.Range.rangeSize lo hi 1), rawInt 1] }
theorem IsIt.mk {t : Kd} {h : Heap} {it a : Addr} (e : h.get? it = some (itO t a)) : IsIt t h it a 0 := by
  cases t with
  | l => exact ⟨_, e, rfl, rfl⟩
  | t => exact ⟨_, e, rfl, rfl⟩
  | r lo hi =>
    show IsRangeIter h it (lo + ((0 : Nat) : Int) * 1) ((((hi - lo).toNat : Nat) : Int) - ((0 : Nat) : Int)) 1
    have e1 : lo + ((0 : Nat) : Int) * 1 = lo := by simp
    have e2 : (((hi - lo).toNat : Nat) : Int) - ((0 : Nat) : Int) = Builtin.Range.rangeSize lo hi 1 := by rw [rangeSize_one]; split <;> omega
    rw [e1, e2]
    exact e
theorem IsIt.obj {t : Kd} {h : Heap} {it a : Addr} {i : Nat} (e : IsIt t h it a i) : ∃ o, h.get? it = some o ∧ ∀ v, o.data ≠ .cell v := by
  cases t with
  | l => exact let ⟨o, e, _, d⟩ := e; ⟨o, e, fun v q => by rw [d] at q; cases q⟩
  | t => exact let ⟨o, e, _, d⟩ := e; ⟨o, e, fun v q => by rw [d] at q; cases q⟩
  | r lo hi => exact ⟨_, e, fun v q => by
      have q' : Data.fields _ = Data.cell v := q
      cases q'⟩
theorem IsIt.at {t : Kd} {h h' : Heap} {it a : Addr} {i : Nat} (e : IsIt t h it a i) (k : ∀ o, h.get? it = some o → h'.get? it = some o) : IsIt t h' it a i := by
  cases t with
  | l => exact Heap.IsListIter.at e k
  | t => exact Heap.IsTupleIter.at e k
  | r lo hi => exact k _ e
theorem SqB.inj {X : Cx} {pins : List (Addr × Obj)} {σ : L2.St} {H : Hp} {s : Shared} {t : Kd} {a : Addr} {xs ys : List V} (I : Inv X pins σ H s) (h : SqB X.K t H a xs) (h' : SqB X.K t H a ys) : xs = ys := by
  cases t with
  | l => exact I.list_inj h h'
  | t => exact I.tuple_inj h h'
  | r lo hi => exact h.2.2.trans h'.2.2.symm
section
variable {prog : Program} {w : World} {A : Around} {E : Value → Shared → Prop} {s : Shared}
theorem nextOf_range_item {it : Addr} {x left step : Int} {Q : Value → Shared → Prop} (hit : IsRangeIter s.heap it x left step) (hleft : 0 < left)
    (hQ : ∀ h', IsRangeIter h' it (x + step) (left - 1) step → Heap.SameBut it s.heap h' → Q (.int x s.toks) { s with heap := h', toks := s.toks + 1 }) :
    wpAny (model prog w) A (Builtin.SmallTypes.nextOf (.ref it)) Q E s := by
  have hT : s.TypeIs (.ref it) "range_iterator" := ⟨_, hit, rfl⟩
  unfold Builtin.SmallTypes.nextOf
  refine wpAny_bind (wpAny_callSpecial?_slot (name := Str.ofString "__next__") hT F.slot_range_iterator_next
    (call_meets F.slot_range_iterator_next hT F.entry_range_iterator_next (F.args_range_iterator_next_1 _) (AutoRange.range_iterator___next___range_iterator_1 it x left step (by omega)) ⟨hit, ?_⟩))
  exact wpAny_pure (hQ _ (Heap.get?_update_self _ (Heap.get?_update_self _ hit rfl) rfl) ((Heap.SameBut.update ..).trans (Heap.SameBut.update ..)))
theorem nextOf_range_end {it : Addr} {x left step : Int} {Q : Value → Shared → Prop} (hh : A.handled = none) (hit : IsRangeIter s.heap it x left step) (hleft : left ≤ 0)
    (hE : ∀ h' e, Heap.ExtBut it s.heap h' → (∃ o, h'.get? e = some o ∧ o.cls = .type "StopIteration") → E (.ref e) { s with heap := h' }) :
    wpAny (model prog w) A (Builtin.SmallTypes.nextOf (.ref it)) Q E s := by
  have hT : s.TypeIs (.ref it) "range_iterator" := ⟨_, hit, rfl⟩
  unfold Builtin.SmallTypes.nextOf
  refine wpAny_bind (wpAny_callSpecial?_slot (name := Str.ofString "__next__") hT F.slot_range_iterator_next
    (wpAny_call_entry F.slot_range_iterator_next hT F.entry_range_iterator_next ?_ (F.args_range_iterator_next_1 _)))
  show wpAny _ _ (field (.ref it) 0 >>= _) _ _ s
  refine wpAny_bind (wpAny_field hit rfl (x := rawInt x) rfl ?_)
  show wpAny _ _ (field (.ref it) 1 >>= _) _ _ s
  refine wpAny_bind (wpAny_field hit rfl (x := rawInt left) rfl ?_)
  show wpAny _ _ (field (.ref it) 2 >>= _) _ _ s
  refine wpAny_bind (wpAny_field hit rfl (x := rawInt step) rfl ?_)
  show wpAny _ _ (if left ≤ 0 then _ else _) _ _ s
  rw [if_pos hleft]
  refine wpAny_bind (wpAny_rule ?_)
  refine wpAny_bind ?_
  show wpAny _ _ (newExc (.type "StopIteration") [] >>= _) _ _ _
  refine wpAny_bind ?_
  simp only [newExc, newTuple]
  refine wpAny_bind (wpAny_newObj_type ?_ (by size_fits))
  refine wpAny_bind (m := firstArgMember _ _) (wpAny_of_eq (a := Value.none) (by first | rfl | (simp only [firstArgMember]; rfl)) ?_)
  refine wpAny_newObj_type ?_ (by size_fits)
  simp only [raiseNew]
  refine wpAny_bind (wpAny_handled ?_)
  first | rw [show A.in1.handled = none from hh] | rw [hh]
  refine wpAny_bind (wpAny_pure (wpAny_throw ?_))
  exact hE _ _ (((Heap.ExtBut.refl it s.heap).push _).push _) ⟨_, Heap.get?_push_size _ rfl, rfl⟩
end
theorem Draws.range {prog : Program} {w : World} {A : Around} (hh : A.handled = none) (it : Addr) (lo : Int) (n : Nat) (fp : List Addr) (hm : it ∈ fp) :
    Draws prog w A it fp n (fun i v => ∃ t, v = .int (lo + (i : Nat) * 1) t) (fun i h => IsRangeIter h it (lo + (i : Nat) * 1) ((n : Int) - (i : Nat)) 1) where
  live := fun _ _ st => ⟨_, st⟩
  frame := fun _ _ _ st hk => hk it hm _ st
  item := fun i s Q E hi st hQ => by
    refine nextOf_range_item st (by omega) fun h' hit' hs' => ?_
    refine hQ _ h' _ ⟨_, rfl⟩ ?_ hs'
    have e1 : lo + ((i + 1 : Nat) : Int) * 1 = lo + (i : Int) * 1 + 1 := by push_cast; omega
    have e2 : (n : Int) - ((i + 1 : Nat) : Int) = (n : Int) - (i : Int) - 1 := by push_cast; omega
    rw [e1, e2]; exact hit'
  done := fun s Q E st hE => nextOf_range_end hh st (by omega) hE
theorem rgV_get {lo hi : Int} {i : Nat} (h : i < (hi - lo).toNat) : (rgV lo hi)[i]? = some (.int (lo + (i : Nat))) := by
  unfold rgV
  rw [List.getElem?_map, List.getElem?_range h]; rfl
/-- its draws -/
theorem SqB.drawsA {X : Cx} {pins : List (Addr × Obj)} {σ : L2.St} {H : Hp} {s : Shared} {t : Kd} {a it : Addr} {xs : List V} (I : Inv X pins σ H s) (h : SqB X.K t H a xs) (hne : a ≠ it) :
    ∃ (P : Nat → Value → Prop) (St : Nat → Heap → Prop), (∀ A : Around, A.handled = none → Draws X.prog X.w A it [it, a] xs.length P St) ∧ (∀ i u, i < xs.length → P i u → ∃ x, xs[i]? = some x ∧ RelV x u) ∧ (∀ i, IsIt t s.heap it a i → St i s.heap) ∧ (∀ i h, St i h → IsIt t h it a i) := by
  cases t with
  | l =>
    obtain ⟨its, rv, p, hz⟩ := I.list h
    have hl := rv.length
    have e : its.toArray.size = xs.length := by simpa using hl.symm
    refine ⟨fun i v => its.toArray[i]? = some v, fun i h => h.IsListIter it a i ∧ h.IsList a its.toArray, fun A hh => by rw [← e]; exact Draws.list (prog := X.prog) (w := X.w) hh it a hne its.toArray, fun i u hi q => ?_, fun i q => ⟨q, p.isList⟩, fun i h q => q.1⟩
    have q : its.toArray[i]? = some u := q
    obtain ⟨u', hu, ru⟩ := rv.get (List.getElem?_eq_getElem hi)
    have : u' = u := by
      have : its.toArray[i]? = some u' := by simpa using hu
      rw [this] at q; exact Option.some.inj q
    subst this
    exact ⟨_, List.getElem?_eq_getElem hi, ru⟩
  | t =>
    obtain ⟨its, rv, p, hz⟩ := I.tuple h
    have hl := rv.length
    have e : its.toArray.size = xs.length := by simpa using hl.symm
    refine ⟨fun i v => its.toArray[i]? = some v, fun i h => h.IsTupleIter it a i ∧ h.IsTuple a its.toArray, fun A hh => by rw [← e]; exact Draws.tuple (prog := X.prog) (w := X.w) hh it a hne its.toArray, fun i u hi q => ?_, fun i q => ⟨q, p⟩, fun i h q => q.1⟩
    have q : its.toArray[i]? = some u := q
    obtain ⟨u', hu, ru⟩ := rv.get (List.getElem?_eq_getElem hi)
    have : u' = u := by
      have : its.toArray[i]? = some u' := by simpa using hu
      rw [this] at q; exact Option.some.inj q
    subst this
    exact ⟨_, List.getElem?_eq_getElem hi, ru⟩
  | r lo hi =>
    obtain ⟨ha, hb, ex⟩ := h
    have hl : xs.length = (hi - lo).toNat := by rw [ex, rgV_length]
    rw [hl]
    refine ⟨_, _, fun A hh => Draws.range (prog := X.prog) (w := X.w) hh it lo (hi - lo).toNat [it, a] (by simp), fun i u hi' q => ?_, fun i q => q, fun i h q => q⟩
    obtain ⟨t, rfl⟩ := q
    rw [ex]
    exact ⟨_, rgV_get hi', ⟨t, by rw [Int.mul_one]⟩⟩
theorem SqB.draws {X : Cx} {pins : List (Addr × Obj)} {σ : L2.St} {H : Hp} {s : Shared} {t : Kd} {a it : Addr} {xs : List V} (I : Inv X pins σ H s) (hc : X.calm = true) (h : SqB X.K t H a xs) (hne : a ≠ it) :
    ∃ (P : Nat → Value → Prop) (St : Nat → Heap → Prop), Draws X.prog X.w X.A.in1 it [it, a] xs.length P St ∧ (∀ i u, i < xs.length → P i u → ∃ x, xs[i]? = some x ∧ RelV x u) ∧ (∀ i, IsIt t s.heap it a i → St i s.heap) ∧ (∀ i h, St i h → IsIt t h it a i) := by
  obtain ⟨P, St, D, r⟩ := SqB.drawsA I h hne
  exact ⟨P, St, D _ (I.ok.hd hc), r⟩
/-- its iterator begins -/
theorem SqB.begins {X : Cx} {pins : List (Addr × Obj)} {σ : L2.St} {H : Hp} {s : Shared} {t : Kd} {a : Addr} {xs : List V} (I : Inv X pins σ H s) (h : SqB X.K t H a xs) :
    a < s.heap.objs.size ∧ ∃ G : Heap → Prop, Begins (.ref a) (itO t a) G ∧ G s.heap := by
  cases t with
  | l =>
    obtain ⟨its, rv, p, hz⟩ := I.list h
    exact ⟨p.lt, _, begins_list a its.toArray, p.isList⟩
  | t =>
    obtain ⟨its, rv, p, hz⟩ := I.tuple h
    obtain ⟨o, ho, _⟩ := id p
    exact ⟨Heap.lt_size ho, _, begins_tuple a its.toArray, p⟩
  | r lo hi =>
    obtain ⟨ha, hb, ex⟩ := h
    obtain ⟨t, u, v, e⟩ := (show ObjOk X.prog X.w H s.heap a (.rng lo hi) from I.hok a _ ha)
    refine ⟨Heap.lt_size e, fun h => h.get? a = some { cls := .type "range", data := .fields #[.int lo t, .int hi u, .int 1 v] }, ⟨fun prog w A E s Q hG q => ?_, fun h h' g k => k _ _ g, rfl⟩, e⟩
    exact wpAny_pyIter_range (t := t) (u := u) (v := v) hG (small_one hb.1 hb.2.1 hb.2.2.1 hb.2.2.2) q
/-! ### enumerate -/
def ItE (K : PySem.W.Frag) (t : Kd) (a : Addr) : It :=
  ⟨fun i H => ∃ xs, SqB K t H a xs ∧ i < xs.length, fun i H v H' => ∃ T x, v = .ref T ∧ H T = none ∧ H' = upd H T (.tup [.int (i : Nat), x]) ∧ ∀ xs, SqB K t H a xs → xs[i]? = some x, fun i H => ∃ xs : List V, SqB K t H a xs ∧ xs.length = i⟩
theorem turn_en {P : Program} {w : World} {K : PySem.W.Frag} {elts : List Expr} {kk : Nat} {tpos : Pos} {t : Kd} {a e it : Addr} (h1 : a ≠ it) (h2 : e ≠ it) (h3 : e ≠ a) :
    Turn P w K (.Tuple elts kk tpos) (ItE K t a) [e, it] e (fun i h => (∃ old, IsEnum h e it ((i : Nat) : Int) old) ∧ IsIt t h it a i) := by
  refine turn_walksT (by simp) (fun i h st b hb => ?_) (fun i h h' st k => ?_) (fun X hP hw hK hc i pins s σ H I st hg => ?_) (fun A i s Q E st h => let ⟨⟨_, he⟩, _⟩ := st; wpAny_pyIter_enum he h)
  · obtain ⟨⟨old, he⟩, hit⟩ := st
    have e' : b = e ∨ b = it := by simpa using hb
    rcases e' with z | z
    · rw [z]; exact ⟨_, he, fun v q => nomatch q⟩
    · rw [z]; exact hit.obj
  · obtain ⟨⟨old, he⟩, hit⟩ := st
    exact ⟨⟨old, k e (by simp) _ he⟩, hit.at fun o q => k it (by simp) o q⟩
  · subst hK
    obtain ⟨⟨old, he⟩, hit⟩ := st
    obtain ⟨xs, hq⟩ : ∃ xs, SqB X.K t H a xs := by
      rcases hg with ⟨xs, q, _⟩ | ⟨xs, q, _⟩
      · exact ⟨xs, q⟩
      · exact ⟨xs, q⟩
    obtain ⟨Pd, St, D, dP, dS, dT⟩ := SqB.draws I hc hq h1
    have W := WalksT.enumFrom 0 D e h2 (by simp; exact ⟨h2, h3⟩) (by simp)
    refine ⟨_, _, _, _, _, _, W, ⟨⟨old, by rw [Int.zero_add]; exact he⟩, dS i hit⟩, fun b hb => hb, fun ⟨ys, q, hi⟩ => ?_, fun ⟨ys, q, hi⟩ => ?_, fun h q => ?_⟩
    · rw [SqB.inj I hq q]
      refine ⟨hi, fun vals ⟨tk, x, hp, ev⟩ => ?_⟩
      obtain ⟨y, ey, ry⟩ := dP i x (by rw [SqB.inj I hq q]; exact hi) hp
      refine ⟨[.int (i : Nat), y], [.int (0 + (i : Int)) tk, x], by rw [ev], .cons ⟨tk, by rw [Int.zero_add]⟩ (.cons ry .nil), by show 2 ≤ sizeLine; decide, fun T nT => ⟨T, y, rfl, nT, rfl, fun zs hz => ?_⟩⟩
      rw [SqB.inj I hz hq]; exact ey
    · rw [SqB.inj I hq q]; exact hi.symm
    · obtain ⟨⟨old, he'⟩, q2⟩ := q
      rw [Int.zero_add] at he'
      exact ⟨⟨old, he'⟩, dT _ _ q2⟩

set_option maxHeartbeats 1000000 in
theorem meets_enumerate_newB1 {v : Value} {o : Obj} {G : Heap → Prop} (B : Begins v o G) :
    Meets (Builtin.«enumerate.__new__» ⟨[.type "enumerate", v], []⟩) (fun _ R s => G s.heap ∧
      R (.ok (.ret (.ref (s.heap.push o).objs.size))) { s with heap := (s.heap.push o).push { cls := .type "enumerate", data := .fields #[.none, .bool false, .ref s.heap.objs.size, rawInt 0, .none, .none] } }) :=
  .of_wp fun prog w A R s h => by
    obtain ⟨hp, g, d, tk, os⟩ := s; obtain ⟨h1, h⟩ := h
    have hsub := sub_enumerate
    have q1 : ∀ {A' : Around} {E : Value → Shared → Prop} {Q : Value → Shared → Prop}, Q (.ref hp.objs.size) ⟨hp.push o, g, d, tk, os⟩ → wpAny (model prog w) A' (pyIter v) Q E ⟨hp, g, d, tk, os⟩ :=
      fun q => B.iter prog w _ _ ⟨hp, g, d, tk, os⟩ _ h1 q
    wp_walk using q1
    refine wpAny_stack_any fun st => wpAny_pure ?_
    split
    · rename_i c _ _ _ _ _
      cases (c == Value.type "enumerate")
      · wp_walk using q1
        exact ⟨_, rfl, h⟩
      · wp_walk using q1
        exact ⟨_, rfl, h⟩
    · wp_walk using q1
      exact ⟨_, rfl, h⟩
theorem call_enumerate_B {prog : Program} {w : World} {A : Around} {E : Value → Shared → Prop} {s : Shared} {v : Value} {o : Obj} {G : Heap → Prop} {Q : Value → Shared → Prop} (B : Begins v o G) (h1 : G s.heap)
    (h : ∀ h', IsEnum h' (s.heap.objs.size + 1) s.heap.objs.size 0 .none → h'.get? s.heap.objs.size = some o → h'.objs.size = s.heap.objs.size + 2 →
      (∀ b o, s.heap.get? b = some o → h'.get? b = some o) → Q (.ref (s.heap.objs.size + 1)) { s with heap := h' }) :
    wpAny (model prog w) A (call (.type "enumerate") [v]) Q E s := by
  refine callType_new F.called_enumerate (by decide) (F.typeCall_enumerate_1 _) (F.newCall_enumerate_1 _) (fun obj => F.args_object_init_2 obj _) F.entry_enumerate_new
    (meets_enumerate_newB1 B) ⟨h1, ?_⟩
  have hz : (s.heap.push o).objs.size = s.heap.objs.size + 1 := Heap.size_push ..
  show _ ∧ _
  rw [hz]
  have he : IsEnum ((s.heap.push o).push { cls := .type "enumerate", data := .fields #[.none, .bool false, .ref s.heap.objs.size, rawInt 0, .none, .none] }) (s.heap.objs.size + 1) s.heap.objs.size 0 .none := by
    have := Heap.get?_push_size (s.heap.push o) (o := { cls := .type "enumerate", data := .fields #[.none, .bool false, .ref s.heap.objs.size, rawInt 0, .none, .none] }) rfl
    rw [hz] at this; exact this
  exact ⟨⟨_, he, rfl⟩, h _ he (Heap.get?_push_of_some _ (Heap.get?_push_size _ B.free)) (by rw [Heap.size_push, hz]) fun b o x => Heap.get?_push_of_some _ (Heap.get?_push_of_some _ x)⟩
def iEn (K : PySem.W.Frag) (ta : TA) : TI := fun σ H R => ta σ H fun vs H1 => ∃ t a xs, vs = [.ref a] ∧ SqB K t H1 a xs ∧ R (ItE K t a) H1
theorem pi_en {X : Cx} {e : Expr} {ta : TA} {p pos tpos : Pos} {elts : List Expr} {kk : Nat} (hg : Gl X "enumerate") (hm : X.mg "enumerate" = none) (ha : PA X [e] ta) (hs : starEach [e] X.env = [(false, eval e X.env)]) :
    PI X (.Tuple elts kk tpos) (.Call (.Name "enumerate" p) [e] [] pos) (iEn X.K ta) := by
  refine ⟨fun pins s σ H R I h => ?_⟩
  refine PyProof.Rows.Call_ (ld_blt I hg hm PyProof.Rows.boot_enumerate (PyProof.Rows.callWith_type1 (thn (ha.run pos pins s σ H _ I h) fun us s1 ⟨vs, H1, I1, r1, q1⟩ => ?_) hs rfl))
  obtain ⟨t, a, xs, ex, hq, q⟩ := q1
  subst ex
  cases r1 with
  | cons r rr =>
    cases rr
    cases r
    obtain ⟨la, G, B, hG⟩ := SqB.begins I1 hq
    refine call_enumerate_B B hG fun h' he hit hsz hk => wpAny_pyIter_enum he ?_
    have I2 : Inv X pins σ H1 { s1 with heap := h' } := I1.kept (t' := s1.toks) hk
    refine ⟨s1.heap.objs.size + 1, [s1.heap.objs.size + 1, s1.heap.objs.size], _, _, H1, rfl, I2, turn_en (t := t) (a := a) (e := s1.heap.objs.size + 1) (it := s1.heap.objs.size) (Nat.ne_of_lt la) (Nat.succ_ne_self _) (Nat.ne_of_gt (Nat.lt_succ_of_lt la)), ⟨⟨.none, he⟩, .mk hit⟩, fun b hb => ?_, q⟩
    have e' : b = s1.heap.objs.size + 1 ∨ b = s1.heap.objs.size := by simpa using hb
    have hle : s1.heap.objs.size ≤ b := by
      rcases e' with z | z
      · rw [z]; exact Nat.le_add_right _ _
      · rw [z]; exact Nat.le_refl _
    exact I1.fpOk hle (I1.hok.fresh hle)
/-! ### zip of two -/
def ItZ (K : PySem.W.Frag) (t u : Kd) (a b : Addr) : It :=
  ⟨fun i H => ∃ xs ys, SqB K t H a xs ∧ SqB K u H b ys ∧ i < min xs.length ys.length,
    fun i H v H' => ∃ T x y, v = .ref T ∧ H T = none ∧ H' = upd H T (.tup [x, y]) ∧ (∀ xs, SqB K t H a xs → xs[i]? = some x) ∧ ∀ ys, SqB K u H b ys → ys[i]? = some y,
    fun i H => ∃ xs ys : List V, SqB K t H a xs ∧ SqB K u H b ys ∧ min xs.length ys.length = i⟩
theorem IsTupOf2.cell {h : Heap} {T : Addr} {a1 a2 : Value} (e : IsTupOf2 h T a1 a2) : ∃ o, h.get? T = some o ∧ ∀ v, o.data ≠ .cell v := ⟨_, e, fun v q => nomatch q⟩
theorem turn_zi {P : Program} {w : World} {K : PySem.W.Frag} {elts : List Expr} {kk : Nat} {tpos : Pos} {t u : Kd} {a b N : Addr} (ha : a < N) (hb : b < N) :
    Turn P w K (.Tuple elts kk tpos) (ItZ K t u a b) [N + 4, N + 2, N + 3, N, N + 1] (N + 4) (fun i h => IsZip h (N + 4) (N + 2) (N + 3) .none ∧ IsTupOf2 h (N + 2) (.ref N) (.ref (N + 1)) ∧ (∃ a1 a2, IsTupOf2 h (N + 3) a1 a2) ∧ IsIt t h N a i ∧ IsIt u h (N + 1) b i) := by
  refine turn_walksT (by simp) (fun i h st c hc => ?_) (fun i h h' st k => ?_) (fun X hP hw hK hc i pins s σ H I st hg => ?_) (fun A i s Q E st h => wpAny_pyIter_zip st.1 h)
  · obtain ⟨hz, hTI, ⟨x, y, hTO⟩, h1, h2⟩ := st
    have e' : c = N + 4 ∨ c = N + 2 ∨ c = N + 3 ∨ c = N ∨ c = N + 1 := by simpa using hc
    rcases e' with q | q | q | q | q
    · rw [q]; exact ⟨_, hz, fun v q => nomatch q⟩
    · rw [q]; exact IsTupOf2.cell hTI
    · rw [q]; exact IsTupOf2.cell hTO
    · rw [q]; exact h1.obj
    · rw [q]; exact h2.obj
  · obtain ⟨hz, hTI, ⟨x, y, hTO⟩, h1, h2⟩ := st
    exact ⟨k (N + 4) (by simp) _ hz, k (N + 2) (by simp) _ hTI, ⟨x, y, k (N + 3) (by simp) _ hTO⟩, h1.at fun o q => k N (by simp) o q, h2.at fun o q => k (N + 1) (by simp) o q⟩
  · subst hK
    obtain ⟨hz, hTI, hTO, h1, h2⟩ := st
    obtain ⟨xs, ys, hq, hr⟩ : ∃ xs ys, SqB X.K t H a xs ∧ SqB X.K u H b ys := by
      rcases hg with ⟨xs, ys, q, r, _⟩ | ⟨xs, ys, q, r, _⟩
      · exact ⟨xs, ys, q, r⟩
      · exact ⟨xs, ys, q, r⟩
    obtain ⟨Pd, St, D, dP, dS, dT⟩ := SqB.draws (it := N) I hc hq (Nat.ne_of_lt ha)
    obtain ⟨Pd2, St2, D2, dP2, dS2, dT2⟩ := SqB.draws (it := N + 1) I hc hr (Nat.ne_of_lt (Nat.lt_succ_of_lt hb))
    have S := zip_sep2 (N := N) (fp1 := [a]) (fp2 := [b]) (by simpa using ha) (by simpa using hb)
    have W := WalksT.zipD2 S D D2
    refine ⟨_, _, _, _, _, _, W, ⟨hz, hTI, hTO, dS i h1, dS2 i h2⟩, fun c hcm => ?_, fun ⟨xs', ys', q, r, hi⟩ => ?_, fun ⟨xs', ys', q, r, hi⟩ => ?_, fun h q => ?_⟩
    · have e' : c = N + 4 ∨ c = N + 3 ∨ c = N ∨ c = N + 1 := by simpa using hcm
      rcases e' with q | q | q | q <;> (rw [q]; simp)
    · rw [SqB.inj I hq q, SqB.inj I hr r]
      refine ⟨hi, fun vals ⟨x1, x2, hp1, hp2, ev⟩ => ?_⟩
      obtain ⟨y1, ey1, ry1⟩ := dP i x1 (by rw [SqB.inj I hq q]; omega) hp1
      obtain ⟨y2, ey2, ry2⟩ := dP2 i x2 (by rw [SqB.inj I hr r]; omega) hp2
      exact ⟨[y1, y2], [x1, x2], by rw [ev], .cons ry1 (.cons ry2 .nil), by show 2 ≤ sizeLine; decide, fun T nT => ⟨T, y1, y2, rfl, nT, rfl, fun zs hz => by rw [SqB.inj I hz hq]; exact ey1, fun zs hz => by rw [SqB.inj I hz hr]; exact ey2⟩⟩
    · rw [SqB.inj I hq q, SqB.inj I hr r]; exact hi.symm
    · obtain ⟨q1, q2, q3, q4, q5⟩ := q
      exact ⟨q1, q2, q3, dT _ _ q4, dT2 _ _ q5⟩
def iZi (K : PySem.W.Frag) (ta : TA) : TI := fun σ H R => ta σ H fun vs H1 => ∃ t u a b xs ys, vs = [.ref a, .ref b] ∧ SqB K t H1 a xs ∧ SqB K u H1 b ys ∧ R (ItZ K t u a b) H1
theorem pi_zi {X : Cx} {e e2 : Expr} {ta : TA} {p pos tpos : Pos} {elts : List Expr} {kk : Nat} (hg : Gl X "zip") (hm : X.mg "zip" = none) (ha : PA X [e, e2] ta)
    (hs : starEach [e, e2] X.env = (false, eval e X.env) :: starEach [e2] X.env) (hpl : (backTo pos (starEach [e2] X.env)).any (·.1) = false) :
    PI X (.Tuple elts kk tpos) (.Call (.Name "zip" p) [e, e2] [] pos) (iZi X.K ta) := by
  refine ⟨fun pins s σ H R I h => ?_⟩
  refine PyProof.Rows.Call_ (ld_blt I hg hm PyProof.Rows.boot_zip (PyProof.Rows.callWith_type1 (thn (ha.run pos pins s σ H _ I h) fun us s1 ⟨vs, H1, I1, r1, q1⟩ => ?_) hs hpl))
  obtain ⟨t, u, a, b, xs, ys, ex, hqx, hqy, q⟩ := q1
  subst ex
  cases r1 with
  | cons r rr =>
    cases rr with
    | cons r' rr =>
      cases rr
      cases r
      cases r'
      obtain ⟨la, G, B, hG⟩ := SqB.begins I1 hqx
      obtain ⟨lb, G2, B2, hG2⟩ := SqB.begins I1 hqy
      refine zip_begins2 B B2 hG hG2 fun h' hz hTI hTO h1 h2 hsz hk => wpAny_pyIter_zip hz ?_
      have I2 : Inv X pins σ H1 { s1 with heap := h' } := I1.kept (t' := s1.toks) hk
      refine ⟨s1.heap.objs.size + 4, [s1.heap.objs.size + 4, s1.heap.objs.size + 2, s1.heap.objs.size + 3, s1.heap.objs.size, s1.heap.objs.size + 1], _, _, H1, rfl, I2, turn_zi la lb, ⟨hz, hTI, ⟨_, _, hTO⟩, .mk h1, .mk h2⟩, fun c hcm => ?_, q⟩
      have e' : c = s1.heap.objs.size + 4 ∨ c = s1.heap.objs.size + 2 ∨ c = s1.heap.objs.size + 3 ∨ c = s1.heap.objs.size ∨ c = s1.heap.objs.size + 1 := by simpa using hcm
      have hle : s1.heap.objs.size ≤ c := by
        rcases e' with z | z | z | z | z
        · rw [z]; exact Nat.le_add_right _ _
        · rw [z]; exact Nat.le_add_right _ _
        · rw [z]; exact Nat.le_add_right _ _
        · rw [z]; exact Nat.le_refl _
        · rw [z]; exact Nat.le_add_right _ _
      exact I1.fpOk hle (I1.hok.fresh hle)
/-! ### zip of three -/
def ItZ3 (K : PySem.W.Frag) (t u w : Kd) (a b c : Addr) : It :=
  ⟨fun i H => ∃ xs ys zs, SqB K t H a xs ∧ SqB K u H b ys ∧ SqB K w H c zs ∧ i < min (min xs.length ys.length) zs.length,
    fun i H v H' => ∃ T x y z, v = .ref T ∧ H T = none ∧ H' = upd H T (.tup [x, y, z]) ∧ (∀ xs, SqB K t H a xs → xs[i]? = some x) ∧ (∀ ys, SqB K u H b ys → ys[i]? = some y) ∧ ∀ zs, SqB K w H c zs → zs[i]? = some z,
    fun i H => ∃ xs ys zs : List V, SqB K t H a xs ∧ SqB K u H b ys ∧ SqB K w H c zs ∧ min (min xs.length ys.length) zs.length = i⟩
theorem IsTupOf3.cell {h : Heap} {T : Addr} {a1 a2 a3 : Value} (e : IsTupOf3 h T a1 a2 a3) : ∃ o, h.get? T = some o ∧ ∀ v, o.data ≠ .cell v := ⟨_, e, fun v q => nomatch q⟩
theorem turn_zi3 {P : Program} {w : World} {K : PySem.W.Frag} {elts : List Expr} {kk : Nat} {tpos : Pos} {t u m : Kd} {a b c N : Addr} (ha : a < N) (hb : b < N) (hc3 : c < N) :
    Turn P w K (.Tuple elts kk tpos) (ItZ3 K t u m a b c) [N + 5, N + 3, N + 4, N, N + 1, N + 2] (N + 5) (fun i h => IsZip h (N + 5) (N + 3) (N + 4) .none ∧ IsTupOf3 h (N + 3) (.ref N) (.ref (N + 1)) (.ref (N + 2)) ∧ (∃ a1 a2 a3, IsTupOf3 h (N + 4) a1 a2 a3) ∧ IsIt t h N a i ∧ IsIt u h (N + 1) b i ∧ IsIt m h (N + 2) c i) := by
  refine turn_walksT (by simp) (fun i h st c hc => ?_) (fun i h h' st k => ?_) (fun X hP hw hK hc i pins s σ H I st hg => ?_) (fun A i s Q E st h => wpAny_pyIter_zip st.1 h)
  · obtain ⟨hz, hTI, ⟨x, y, x3, hTO⟩, h1, h2, h3⟩ := st
    have e' : c = N + 5 ∨ c = N + 3 ∨ c = N + 4 ∨ c = N ∨ c = N + 1 ∨ c = N + 2 := by simpa using hc
    rcases e' with q | q | q | q | q | q
    · rw [q]; exact ⟨_, hz, fun v q => nomatch q⟩
    · rw [q]; exact IsTupOf3.cell hTI
    · rw [q]; exact IsTupOf3.cell hTO
    · rw [q]; exact h1.obj
    · rw [q]; exact h2.obj
    · rw [q]; exact h3.obj
  · obtain ⟨hz, hTI, ⟨x, y, x3, hTO⟩, h1, h2, h3⟩ := st
    exact ⟨k (N + 5) (by simp) _ hz, k (N + 3) (by simp) _ hTI, ⟨x, y, x3, k (N + 4) (by simp) _ hTO⟩, h1.at fun o q => k N (by simp) o q, h2.at fun o q => k (N + 1) (by simp) o q, h3.at fun o q => k (N + 2) (by simp) o q⟩
  · subst hK
    obtain ⟨hz, hTI, hTO, h1, h2, h3⟩ := st
    obtain ⟨xs, ys, zs, hq, hr, hv⟩ : ∃ xs ys zs, SqB X.K t H a xs ∧ SqB X.K u H b ys ∧ SqB X.K m H c zs := by
      rcases hg with ⟨xs, ys, zs, q, r, v, _⟩ | ⟨xs, ys, zs, q, r, v, _⟩
      · exact ⟨xs, ys, zs, q, r, v⟩
      · exact ⟨xs, ys, zs, q, r, v⟩
    obtain ⟨Pd, St, D, dP, dS, dT⟩ := SqB.draws (it := N) I hc hq (Nat.ne_of_lt ha)
    obtain ⟨Pd2, St2, D2, dP2, dS2, dT2⟩ := SqB.draws (it := N + 1) I hc hr (Nat.ne_of_lt (Nat.lt_succ_of_lt hb))
    obtain ⟨Pd3, St3, D3, dP3, dS3, dT3⟩ := SqB.draws (it := N + 2) I hc hv (Nat.ne_of_lt (Nat.lt_succ_of_lt (Nat.lt_succ_of_lt hc3)))
    have S := zip_sep3 (N := N) (fp1 := [a]) (fp2 := [b]) (fp3 := [c]) (by simpa using ha) (by simpa using hb) (by simpa using hc3)
    have W := WalksT.zipD3 S D D2 D3
    refine ⟨_, _, _, _, _, _, W, ⟨hz, hTI, hTO, dS i h1, dS2 i h2, dS3 i h3⟩, fun c hcm => ?_, fun ⟨xs', ys', zs', q, r, v, hi⟩ => ?_, fun ⟨xs', ys', zs', q, r, v, hi⟩ => ?_, fun h q => ?_⟩
    · have e' : c = N + 5 ∨ c = N + 4 ∨ c = N ∨ c = N + 1 ∨ c = N + 2 := by simpa using hcm
      rcases e' with q | q | q | q | q <;> (rw [q]; simp)
    · rw [SqB.inj I hq q, SqB.inj I hr r, SqB.inj I hv v]
      refine ⟨hi, fun vals ⟨x1, x2, x3, hp1, hp2, hp3, ev⟩ => ?_⟩
      obtain ⟨y1, ey1, ry1⟩ := dP i x1 (by rw [SqB.inj I hq q]; omega) hp1
      obtain ⟨y2, ey2, ry2⟩ := dP2 i x2 (by rw [SqB.inj I hr r]; omega) hp2
      obtain ⟨y3, ey3, ry3⟩ := dP3 i x3 (by rw [SqB.inj I hv v]; omega) hp3
      exact ⟨[y1, y2, y3], [x1, x2, x3], by rw [ev], .cons ry1 (.cons ry2 (.cons ry3 .nil)), by show 3 ≤ sizeLine; decide, fun T nT => ⟨T, y1, y2, y3, rfl, nT, rfl, fun zs hz => by rw [SqB.inj I hz hq]; exact ey1, fun zs hz => by rw [SqB.inj I hz hr]; exact ey2, fun zs hz => by rw [SqB.inj I hz hv]; exact ey3⟩⟩
    · rw [SqB.inj I hq q, SqB.inj I hr r, SqB.inj I hv v]; exact hi.symm
    · obtain ⟨q1, q2, q3, q4, q5, q6⟩ := q
      exact ⟨q1, q2, q3, dT _ _ q4, dT2 _ _ q5, dT3 _ _ q6⟩
def iZi3 (K : PySem.W.Frag) (ta : TA) : TI := fun σ H R => ta σ H fun vs H1 => ∃ t u m a b c xs ys zs, vs = [.ref a, .ref b, .ref c] ∧ SqB K t H1 a xs ∧ SqB K u H1 b ys ∧ SqB K m H1 c zs ∧ R (ItZ3 K t u m a b c) H1
theorem pi_zi3 {X : Cx} {e e2 e3 : Expr} {ta : TA} {p pos tpos : Pos} {elts : List Expr} {kk : Nat} (hg : Gl X "zip") (hm : X.mg "zip" = none) (ha : PA X [e, e2, e3] ta)
    (hs : starEach [e, e2, e3] X.env = (false, eval e X.env) :: starEach [e2, e3] X.env) (hpl : (backTo pos (starEach [e2, e3] X.env)).any (·.1) = false) :
    PI X (.Tuple elts kk tpos) (.Call (.Name "zip" p) [e, e2, e3] [] pos) (iZi3 X.K ta) := by
  refine ⟨fun pins s σ H R I h => ?_⟩
  refine PyProof.Rows.Call_ (ld_blt I hg hm PyProof.Rows.boot_zip (PyProof.Rows.callWith_type1 (thn (ha.run pos pins s σ H _ I h) fun us s1 ⟨vs, H1, I1, r1, q1⟩ => ?_) hs hpl))
  obtain ⟨t, u, m, a, b, c, xs, ys, zs, ex, hqx, hqy, hqz, q⟩ := q1
  subst ex
  cases r1 with
  | cons r rr =>
    cases rr with
    | cons r' rr =>
      cases rr with
      | cons r'' rr =>
        cases rr
        cases r
        cases r'
        cases r''
        obtain ⟨la, G, B, hG⟩ := SqB.begins I1 hqx
        obtain ⟨lb, G2, B2, hG2⟩ := SqB.begins I1 hqy
        obtain ⟨lc, G3, B3, hG3⟩ := SqB.begins I1 hqz
        refine zip_begins3 B B2 B3 hG hG2 hG3 fun h' hz hTI hTO h1 h2 h3 hsz hk => wpAny_pyIter_zip hz ?_
        have I2 : Inv X pins σ H1 { s1 with heap := h' } := I1.kept (t' := s1.toks) hk
        refine ⟨s1.heap.objs.size + 5, [s1.heap.objs.size + 5, s1.heap.objs.size + 3, s1.heap.objs.size + 4, s1.heap.objs.size, s1.heap.objs.size + 1, s1.heap.objs.size + 2], _, _, H1, rfl, I2, turn_zi3 la lb lc, ⟨hz, hTI, ⟨_, _, _, hTO⟩, .mk h1, .mk h2, .mk h3⟩, fun d hcm => ?_, q⟩
        have e' : d = s1.heap.objs.size + 5 ∨ d = s1.heap.objs.size + 3 ∨ d = s1.heap.objs.size + 4 ∨ d = s1.heap.objs.size ∨ d = s1.heap.objs.size + 1 ∨ d = s1.heap.objs.size + 2 := by simpa using hcm
        have hle : s1.heap.objs.size ≤ d := by
          rcases e' with z | z | z | z | z | z
          · rw [z]; exact Nat.le_add_right _ _
          · rw [z]; exact Nat.le_add_right _ _
          · rw [z]; exact Nat.le_add_right _ _
          · rw [z]; exact Nat.le_refl _
          · rw [z]; exact Nat.le_add_right _ _
          · rw [z]; exact Nat.le_add_right _ _
        exact I1.fpOk hle (I1.hok.fresh hle)
end Pv

set_option maxRecDepth 100000
/-! Pv, part N: what is walked, as pure lists. -/
namespace Pv
open PySem PySem.Spec L2
def srcD : PyData → Option (List PyData)
  | .list ds => some ds
  | .tuple ds => some ds
  | _ => none
def mIt (f : M PyData) : M (List PyData) := do
  let d ← f
  lift (srcD d)
def enumD (i : Nat) : List PyData → List PyData
  | [] => []
  | d :: ds => .tuple [.int (i : Nat), d] :: enumD (i + 1) ds
def zipD (xs ys : List PyData) : List PyData := List.zipWith (fun x y => .tuple [x, y]) xs ys
def zip3D : List PyData → List PyData → List PyData → List PyData
  | x :: xs, y :: ys, z :: zs => .tuple [x, y, z] :: zip3D xs ys zs
  | _, _, _ => []
def rg1 : List PyData → Option (List PyData)
  | [.int j] => if -(2 ^ 62) ≤ j ∧ j < 2 ^ 62 then some (rgD 0 j.toNat) else none
  | _ => none
def rg2 : List PyData → Option (List PyData)
  | [.int i, .int j] => if -(2 ^ 62) ≤ i ∧ i < 2 ^ 62 ∧ -(2 ^ 62) ≤ j ∧ j < 2 ^ 62 then some (rgD i (j - i).toNat) else none
  | _ => none
def mRg (g : List PyData → Option (List PyData)) (fs : M (List Opd)) : M (List PyData) := do
  let os ← fs
  let ds ← rslvs os
  lift (g ds)
def mSrcR (g : List PyData → Option (List PyData)) (fs : M (List Opd)) : M (List PyData) := do
  let os ← fs
  let ds ← rslvs os
  lift (g ds)
def mEn (f : M (List PyData)) : M (List PyData) := do
  let ds ← f
  pure (enumD 0 ds)
def mZi2 (f g : M (List PyData)) : M (List PyData) := do
  let xs ← f
  let ys ← g
  pure (zipD xs ys)
def mZi3 (f g h : M (List PyData)) : M (List PyData) := do
  let xs ← f
  let ys ← g
  let zs ← h
  pure (zip3D xs ys zs)
theorem enumD_get : ∀ (ds : List PyData) (k i : Nat) (d : PyData), ds[i]? = some d → (enumD k ds)[i]? = some (.tuple [.int ((k + i : Nat) : Int), d])
  | [], _, _, _, h => by simp at h
  | x :: ds, k, 0, d, h => by cases h; rfl
  | x :: ds, k, i + 1, d, h => by
    have := enumD_get ds (k + 1) i d (by simpa using h)
    rw [show k + 1 + i = k + (i + 1) by omega] at this
    exact this
theorem enumD_length : ∀ (ds : List PyData) (k : Nat), (enumD k ds).length = ds.length
  | [], _ => rfl
  | _ :: ds, k => congrArg (· + 1) (enumD_length ds (k + 1))
theorem zip3D_length : ∀ xs ys zs : List PyData, (zip3D xs ys zs).length = min (min xs.length ys.length) zs.length
  | x :: xs, y :: ys, z :: zs => by
    show (zip3D xs ys zs).length + 1 = _
    rw [zip3D_length xs ys zs]; simp only [List.length_cons]; omega
  | [], _, _ => by simp [zip3D]
  | _ :: _, [], _ => by simp [zip3D]
  | _ :: _, _ :: _, [] => by simp [zip3D]
theorem zip3D_get : ∀ (xs ys zs : List PyData) (i : Nat) (a b c : PyData), xs[i]? = some a → ys[i]? = some b → zs[i]? = some c → (zip3D xs ys zs)[i]? = some (.tuple [a, b, c])
  | x :: xs, y :: ys, z :: zs, 0, a, b, c, h1, h2, h3 => by cases h1; cases h2; cases h3; rfl
  | x :: xs, y :: ys, z :: zs, i + 1, a, b, c, h1, h2, h3 => zip3D_get xs ys zs i a b c (by simpa using h1) (by simpa using h2) (by simpa using h3)
  | [], _, _, _, _, _, _, h, _, _ => by simp at h
  | _ :: _, [], _, _, _, _, _, _, h, _ => by simp at h
  | _ :: _, _ :: _, [], _, _, _, _, _, _, h => by simp at h
section
variable {K : PySem.W.Frag} {F F' F0 F1 F2 W : Reg} {H H' H0 H1 H2 : Hp} {a b c : Addr} {xs ys zs : List V} {ds es fs : List PyData}
/-- a source's value: it is walked later -/
inductive SR (K : PySem.W.Frag) (F : Reg) (H : Hp) : V → List PyData → Prop
  | l {a : Addr} {xs : List V} {ds : List PyData} : LsK K F H a xs → RpL K F H xs ds → SR K F H (.ref a) ds
  | t {a : Addr} {xs : List V} {ds : List PyData} : H a = some (.tup xs) → RpL K F H xs ds → SR K F H (.ref a) ds
  | r {a : Addr} {lo hi : Int} : H a = some (.rng lo hi) → RgB lo hi → SR K F H (.ref a) (rgD lo (hi - lo).toNat)
theorem SR.step {v : V} (h : SR K F H v ds) (w : Wok W F H) (s : Step W F H F' H') : SR K F' H' v ds := by
  cases h with
  | l h r => exact .l ((s.stay w).lsk h) (r.stay (s.stay w))
  | t h r => exact .t ((s.stay w).tup _ _ h) (r.stay (s.stay w))
  | r h b => exact .r (s.keep _ _ h fun z => by
      have k := (w _ z).2
      rcases k with ⟨_, k⟩ | ⟨_, k | ⟨_, k⟩⟩ | ⟨_, k | ⟨_, k⟩⟩ <;> (rw [h] at k; cases k)) b
theorem rgV_rp {a b : Int} : RpL K F H (rgV a b) (rgD a (b - a).toNat) := by
  have gen : ∀ l : List Nat, RpL K F H (l.map fun i => V.int (a + (i : Nat))) (l.map fun (i : Nat) => PyData.int (a + i)) := by
    intro l
    induction l with
    | nil => exact .nil
    | cons x l ih => exact .cons (.int _) ih
  exact gen _
theorem SR.of {v : V} (h : SR K F H v ds) : ∃ t a xs, v = .ref a ∧ RpL K F H xs ds ∧ ∀ W F' H', Wok W F H → Step W F H F' H' → SqB K t H' a xs := by
  cases h with
  | l h r => exact ⟨.l, _, _, rfl, r, fun W F' H' w s => ((s.stay w).lsk (K := K) h).sql⟩
  | t h r => exact ⟨.t, _, _, rfl, r, fun W F' H' w s => .inl (.inl ((s.stay w).tup _ _ h))⟩
  | @r a lo hi h b => exact ⟨.r lo hi, _, _, rfl, rgV_rp, fun W F' H' w s => ⟨s.keep _ _ h fun z => by
      have k := (w _ z).2
      rcases k with ⟨_, k⟩ | ⟨_, k | ⟨_, k⟩⟩ | ⟨_, k | ⟨_, k⟩⟩ <;> (rw [h] at k; cases k), b, rfl⟩⟩
theorem SR.d {v : V} {d : PyData} (r : Rp K F H v d) (e : srcD d = some ds) : SR K F H v ds := by
  cases d with
  | list ds' =>
    cases e
    cases r with
    | lst h r => exact .l h r
  | tuple ds' =>
    cases e
    cases r with
    | tup h r => exact .t h r
  | _ => cases e
def ItS (K : PySem.W.Frag) (t : Kd) (a : Addr) : It := match t with | .t => Itt K a | .l => Itl K a | .r lo hi => Itr lo (hi - lo).toNat
theorem itr_seq {t : Bool} (r : RpL K F1 H1 xs ds) (w : Wok W F1 H1) (q : ∀ F' H', Step W F1 H1 F' H' → SqB K (if t then .t else .l) H' a xs) : Wk K W (ItS K (if t then .t else .l) a) F1 H1 ds := by
  cases t with
  | false =>
    refine ⟨fun H => SqL K H a xs, YAt xs, r.length ▸ walk_list, fun F H s => q F H s, fun i F H x H' hi s al y => ?_⟩
    obtain ⟨rfl, e⟩ := y
    exact ⟨.refl, RpL.get (r.stay (s.stay w)) e⟩
  | true =>
    refine ⟨fun H => SqT K H a xs, YAt xs, r.length ▸ walk_tup, fun F H s => q F H s, fun i F H x H' hi s al y => ?_⟩
    obtain ⟨rfl, e⟩ := y
    exact ⟨.refl, RpL.get (r.stay (s.stay w)) e⟩
theorem itr_en {t : Kd} (r : RpL K F1 H1 xs ds) (w : Wok W F1 H1) (q : ∀ F' H', Step W F1 H1 F' H' → SqB K t H' a xs) : Wk K W (ItE K t a) F1 H1 (enumD 0 ds) := by
  have hl : xs.length = ds.length := r.length
  refine ⟨fun H => SqB K t H a xs, fun i H v H' => ∃ T x, v = .ref T ∧ H T = none ∧ H' = upd H T (.tup [.int (i : Nat), x]) ∧ xs[i]? = some x, ⟨fun i H hi g => ⟨xs, g, ?_⟩, fun H g => ⟨xs, g, ?_⟩, fun i H x H' hi g y => ?_⟩, fun F H s => q F H s, fun i F H x H' hi s al y => ?_⟩
  · rw [enumD_length] at hi; omega
  · rw [enumD_length]; exact hl
  · obtain ⟨T, y, e1, e2, e3, e4⟩ := y
    exact ⟨T, y, e1, e2, e3, e4 xs g⟩
  · obtain ⟨T, y, rfl, n, rfl, ey⟩ := y
    obtain ⟨d, ed, rd⟩ := RpL.get (r.stay (s.stay w)) ey
    have st := (Step.alloc (F := F) (o := .tup [.int (i : Nat), y]) n).stay .nil
    refine ⟨.alloc n, _, enumD_get ds 0 i d ed, ?_⟩
    rw [Nat.zero_add]
    exact .tup upd_same (.cons (.int _) (.cons (rd.stay st) .nil))
theorem itr_zi {t u : Kd} (r : RpL K F1 H1 xs ds) (r2 : RpL K F1 H1 ys es) (w : Wok W F1 H1) (q : ∀ F' H', Step W F1 H1 F' H' → SqB K t H' a xs) (q2 : ∀ F' H', Step W F1 H1 F' H' → SqB K u H' b ys) : Wk K W (ItZ K t u a b) F1 H1 (zipD ds es) := by
  have hl : xs.length = ds.length := r.length
  have hl2 : ys.length = es.length := r2.length
  have hz : (zipD ds es).length = min ds.length es.length := List.length_zipWith
  refine ⟨fun H => SqB K t H a xs ∧ SqB K u H b ys, fun i H v H' => ∃ T x y, v = .ref T ∧ H T = none ∧ H' = upd H T (.tup [x, y]) ∧ xs[i]? = some x ∧ ys[i]? = some y, ⟨fun i H hi g => ⟨xs, ys, g.1, g.2, ?_⟩, fun H g => ⟨xs, ys, g.1, g.2, ?_⟩, fun i H x H' hi g y => ?_⟩, fun F H s => ⟨q F H s, q2 F H s⟩, fun i F H x H' hi s al y => ?_⟩
  · omega
  · omega
  · obtain ⟨T, y, z, e1, e2, e3, e4, e5⟩ := y
    exact ⟨T, y, z, e1, e2, e3, e4 xs g.1, e5 ys g.2⟩
  · obtain ⟨T, y, z, rfl, n, rfl, ey, ez⟩ := y
    obtain ⟨d, ed, rd⟩ := RpL.get (r.stay (s.stay w)) ey
    obtain ⟨d2, ed2, rd2⟩ := RpL.get (r2.stay (s.stay w)) ez
    have st := (Step.alloc (F := F) (o := .tup [y, z]) n).stay .nil
    refine ⟨.alloc n, .tuple [d, d2], ?_, ?_⟩
    · unfold zipD
      rw [List.getElem?_zipWith, ed, ed2]
    · exact .tup upd_same (.cons (rd.stay st) (.cons (rd2.stay st) .nil))
theorem itr_zi3 {t u m : Kd} (r : RpL K F1 H1 xs ds) (r2 : RpL K F1 H1 ys es) (r3 : RpL K F1 H1 zs fs) (w : Wok W F1 H1) (q : ∀ F' H', Step W F1 H1 F' H' → SqB K t H' a xs) (q2 : ∀ F' H', Step W F1 H1 F' H' → SqB K u H' b ys) (q3 : ∀ F' H', Step W F1 H1 F' H' → SqB K m H' c zs) :
    Wk K W (ItZ3 K t u m a b c) F1 H1 (zip3D ds es fs) := by
  have hl : xs.length = ds.length := r.length
  have hl2 : ys.length = es.length := r2.length
  have hl3 : zs.length = fs.length := r3.length
  have hz : (zip3D ds es fs).length = min (min ds.length es.length) fs.length := zip3D_length _ _ _
  refine ⟨fun H => SqB K t H a xs ∧ SqB K u H b ys ∧ SqB K m H c zs, fun i H v H' => ∃ T x y z, v = .ref T ∧ H T = none ∧ H' = upd H T (.tup [x, y, z]) ∧ xs[i]? = some x ∧ ys[i]? = some y ∧ zs[i]? = some z, ⟨fun i H hi g => ⟨xs, ys, zs, g.1, g.2.1, g.2.2, ?_⟩, fun H g => ⟨xs, ys, zs, g.1, g.2.1, g.2.2, ?_⟩, fun i H x H' hi g y => ?_⟩, fun F H s => ⟨q F H s, q2 F H s, q3 F H s⟩, fun i F H x H' hi s al y => ?_⟩
  · omega
  · omega
  · obtain ⟨T, x, y, z, e1, e2, e3, e4, e5, e6⟩ := y
    exact ⟨T, x, y, z, e1, e2, e3, e4 xs g.1, e5 ys g.2.1, e6 zs g.2.2⟩
  · obtain ⟨T, x, y, z, rfl, n, rfl, ex, ey, ez⟩ := y
    obtain ⟨d, ed, rd⟩ := RpL.get (r.stay (s.stay w)) ex
    obtain ⟨d2, ed2, rd2⟩ := RpL.get (r2.stay (s.stay w)) ey
    obtain ⟨d3, ed3, rd3⟩ := RpL.get (r3.stay (s.stay w)) ez
    have st := (Step.alloc (F := F) (o := .tup [x, y, z]) n).stay .nil
    exact ⟨.alloc n, .tuple [d, d2, d3], zip3D_get _ _ _ _ _ _ _ ed ed2 ed3, .tup upd_same (.cons (rd.stay st) (.cons (rd2.stay st) (.cons (rd3.stay st) .nil)))⟩
end
section
variable {X : Cx} {E : EK} {p pos tpos : Pos} {tg e e2 e3 : Expr} {elts : List Expr} {kk : Nat}
theorem qi_seq {f : M PyData} (h : PE X e (TF X.K E f)) : PI X tg e (TIt X.K E (mIt f)) := by
  refine ⟨fun pins s σ H R I q => ?_⟩
  obtain ⟨F, ρ, g, go⟩ := q
  let Q : VK := fun v H1 => ∃ (t : Bool) (a : Addr) (xs : List V), v = .ref a ∧ SqB X.K (if t then .t else .l) H1 a xs ∧ R (ItS X.K (if t then .t else .l) a) H1
  refine thn (h.run pins s σ H Q I ⟨F, ρ, g, (Go.bind go).mono ?_⟩) fun v s1 ⟨x, H1, I1, r1, q1⟩ => ?_
  · rintro d ρ1 F1 H1 ⟨g1, s1, sub1, go1⟩ v hv
    obtain ⟨ds, e, fin⟩ := Go.lift go1
    have key : ∃ (t : Bool) (a : Addr) (xs : List V), v = .ref a ∧ RpL X.K F1 H1 xs ds ∧ ∀ W F' H', Wok W F1 H1 → Step W F1 H1 F' H' → SqB X.K (if t then .t else .l) H' a xs := by
      cases d with
      | list ds' =>
        cases e
        cases hv with
        | lst h r => exact ⟨false, _, _, rfl, r, fun W F' H' w s => ((s.stay w).lsk (K := X.K) h).sql⟩
      | tuple ds' =>
        cases e
        cases hv with
        | tup h r => exact ⟨true, _, _, rfl, r, fun W F' H' w s => .inl (.inl ((s.stay w).tup _ _ h))⟩
      | _ => cases e
    obtain ⟨t, a, xs, rfl, r, q⟩ := key
    exact ⟨t, a, xs, rfl, q W0 F1 H1 .nil .refl, fin F1 H1 .refl g1 _ (itr_seq r g1.wok fun F' H' s => q _ F' H' g1.wok s)⟩
  · obtain ⟨t, a, xs, ex, hq, q⟩ := q1
    subst ex
    cases r1
    cases t with
    | false =>
      obtain ⟨its, rv, p, hz⟩ := I1.list hq
      refine wpAny_pyIter_list p.isList ?_
      refine ⟨s1.heap.objs.size, [s1.heap.objs.size], _, _, H1, rfl, I1.kept (t' := s1.toks) fun b o e => Heap.get?_push_of_some _ e, turn_list a _, ⟨_, Heap.get?_push_size _ rfl, rfl, rfl⟩, fun b hb => ?_, q⟩
      have e : b = s1.heap.objs.size := by simpa using hb
      subst e
      exact I1.fpOk (Nat.le_refl _) (I1.hok.fresh (Nat.le_refl _))
    | true =>
      obtain ⟨its, rv, p, hz⟩ := I1.tuple hq
      refine wpAny_pyIter_tuple (show s1.heap.IsTuple a its.toArray from p) ?_
      refine ⟨s1.heap.objs.size, [s1.heap.objs.size], _, _, H1, rfl, I1.kept (t' := s1.toks) fun b o e => Heap.get?_push_of_some _ e, turn_tuple a _, ⟨_, Heap.get?_push_size _ rfl, rfl, rfl⟩, fun b hb => ?_, q⟩
      have e : b = s1.heap.objs.size := by simpa using hb
      subst e
      exact I1.fpOk (Nat.le_refl _) (I1.hok.fresh (Nat.le_refl _))
/-- a source -/
def TSr (K : PySem.W.Frag) (E : EK) (f : M (List PyData)) : TE := fun σ H Q => ∃ F ρ, Gd K F H σ ρ ∧ Go K E f σ F H ρ fun ds _ F' H' => ∀ v, SR K F' H' v ds → Q v H'
theorem qsr_seq {f : M PyData} (h : PE X e (TF X.K E f)) : PE X e (TSr X.K E (mIt f)) := PE.imp h fun σ H Q ⟨F, ρ, g, go⟩ => by
  refine ⟨F, ρ, g, (Go.bind go).mono ?_⟩
  rintro d ρ1 F1 H1 ⟨g1, s1, sub1, go1⟩ v hv
  obtain ⟨ds, e, fin⟩ := Go.lift go1
  exact fin F1 H1 .refl g1 v (.d hv e)
theorem qsr_range2 {fs : M (List Opd)} (hg : Gl X "range") (hm : X.mg "range" = none) (ha : PA X [e, e2] (TAO X.K E fs)) (hs : starEach [e, e2] X.env = (false, eval e X.env) :: starEach [e2] X.env) (hpl : (backTo pos (starEach [e2] X.env)).any (·.1) = false) :
    PE X (.Call (.Name "range" p) [e, e2] [] pos) (TSr X.K E (mSrcR rg2 fs)) := PE.imp (pe_callTy cr_range2 hg hm PyProof.Rows.boot_range ha (by decide) (by decide) hs hpl) fun σ H Q ⟨F, ρ, g, go⟩ => by
  refine ⟨F, ρ, g, (Go.bind go).mono ?_⟩
  rintro os ρ1 F1 H1 ⟨g1, s1, sub1, go1⟩ vs hv
  obtain ⟨ds, e, go2⟩ := Go.rsls go1
  obtain ⟨rs, e2, fin⟩ := Go.lift go2
  have ro := roL_of g1 hv e
  unfold rg2 at e2
  split at e2
  · rename_i i j
    split at e2
    · rename_i hj
      cases e2
      cases ro with
      | cons h t =>
        cases t with
        | cons h2 t =>
          cases t
          have := h.int
          subst this
          have := h2.int
          subst this
          refine ⟨i, j, rfl, fun p n => ?_⟩
          have st : Step (Own σ ρ1) F1 H1 F1 (upd H1 p (.rng i j)) := (Step.alloc n).of0
          exact fin F1 _ st (g1.alloc n) _ (.r upd_same hj)
    · cases e2
  · cases e2
theorem qi_range1 {fs : M (List Opd)} (hg : Gl X "range") (hm : X.mg "range" = none) (ha : PA X [e] (TAO X.K E fs)) (hs : starEach [e] X.env = [(false, eval e X.env)]) : PI X tg (.Call (.Name "range" p) [e] [] pos) (TIt X.K E (mRg rg1 fs)) :=
  PI.imp (pi_range1 hg hm ha hs) fun σ H R ⟨F, ρ, g, go⟩ => by
    refine ⟨F, ρ, g, (Go.bind go).mono ?_⟩
    rintro os ρ1 F1 H1 ⟨g1, s1, sub1, go1⟩ vs hv
    obtain ⟨ds, e, go2⟩ := Go.rsls go1
    obtain ⟨rs, e2, fin⟩ := Go.lift go2
    have ro := roL_of g1 hv e
    unfold rg1 at e2
    split at e2
    · rename_i j
      split at e2
      · rename_i hj
        cases e2
        cases ro with
        | cons h t =>
          cases t
          have := h.int
          subst this
          exact ⟨j, rfl, hj.1, hj.2, fin F1 H1 .refl g1 _ itr_range⟩
      · cases e2
    · cases e2
theorem qi_range2 {fs : M (List Opd)} (hg : Gl X "range") (hm : X.mg "range" = none) (ha : PA X [e, e2] (TAO X.K E fs)) (hs : starEach [e, e2] X.env = [(false, eval e X.env), (false, eval e2 X.env)]) (hs2 : starEach [e2] X.env = [(false, eval e2 X.env)]) :
    PI X tg (.Call (.Name "range" p) [e, e2] [] pos) (TIt X.K E (mRg rg2 fs)) :=
  PI.imp (pi_range2 hg hm ha hs hs2) fun σ H R ⟨F, ρ, g, go⟩ => by
    refine ⟨F, ρ, g, (Go.bind go).mono ?_⟩
    rintro os ρ1 F1 H1 ⟨g1, s1, sub1, go1⟩ vs hv
    obtain ⟨ds, e, go2⟩ := Go.rsls go1
    obtain ⟨rs, e2, fin⟩ := Go.lift go2
    have ro := roL_of g1 hv e
    unfold rg2 at e2
    split at e2
    · rename_i i j
      split at e2
      · rename_i hj
        cases e2
        cases ro with
        | cons h t =>
          cases t with
          | cons h2 t =>
            cases t
            have := h.int
            subst this
            have := h2.int
            subst this
            exact ⟨i, j, rfl, hj, fin F1 H1 .refl g1 _ itr_range⟩
      · cases e2
    · cases e2
theorem qi_enum {f : M (List PyData)} (hg : Gl X "enumerate") (hm : X.mg "enumerate" = none) (ha : PE X e (TSr X.K E f)) (hs : starEach [e] X.env = (false, eval e X.env) :: starEach [] X.env) :
    PI X (.Tuple elts kk tpos) (.Call (.Name "enumerate" p) [e] [] pos) (TIt X.K E (mEn f)) :=
  PI.imp (pi_en hg hm (pa_cons ha pa_nil hs) hs) fun σ H R ⟨F, ρ, g, go⟩ => by
    refine ⟨F, ρ, g, (Go.bind go).mono ?_⟩
    rintro ds ρ1 F1 H1 ⟨g1, s1, sub1, go1⟩ v hv
    obtain ⟨t, a, xs, rfl, r, q⟩ := hv.of
    exact ⟨t, a, xs, rfl, q W0 F1 H1 .nil .refl, Go.pure go1 F1 H1 .refl g1 _ (itr_en r g1.wok fun F' H' s => q _ F' H' g1.wok s)⟩
theorem qi_zip2 {f f2 : M (List PyData)} (hg : Gl X "zip") (hm : X.mg "zip" = none) (ha : PE X e (TSr X.K E f)) (ha2 : PE X e2 (TSr X.K E f2)) (hs : starEach [e, e2] X.env = (false, eval e X.env) :: starEach [e2] X.env) (hs2 : starEach [e2] X.env = (false, eval e2 X.env) :: starEach [] X.env)
    (hpl : (backTo pos (starEach [e2] X.env)).any (·.1) = false) : PI X (.Tuple elts kk tpos) (.Call (.Name "zip" p) [e, e2] [] pos) (TIt X.K E (mZi2 f f2)) :=
  PI.imp (pi_zi hg hm (pa_cons ha (pa_cons ha2 pa_nil hs2) hs) hs hpl) fun σ H R ⟨F, ρ, g, go⟩ => by
    refine ⟨F, ρ, g, (Go.bind go).mono ?_⟩
    rintro ds ρ1 F1 H1 ⟨g1, s1, sub1, go1⟩ v hv
    refine ⟨F1, ρ1, g1, (Go.bind go1).mono ?_⟩
    rintro ds2 ρ2 F2 H2 ⟨g2, s2, sub2, go2⟩ v2 hv2
    obtain ⟨t1, a1, xs1, rfl, r1, q1⟩ := (hv.step g1.wok s2).of
    obtain ⟨t2, a2, xs2, rfl, r2, q2⟩ := hv2.of
    exact ⟨t1, t2, a1, a2, xs1, xs2, rfl, q1 W0 F2 H2 .nil .refl, q2 W0 F2 H2 .nil .refl, Go.pure go2 F2 H2 .refl g2 _ (itr_zi r1 r2 g2.wok (fun F' H' s => q1 _ F' H' g2.wok s) fun F' H' s => q2 _ F' H' g2.wok s)⟩
theorem qi_zip3 {f f2 f3 : M (List PyData)} (hg : Gl X "zip") (hm : X.mg "zip" = none) (ha : PE X e (TSr X.K E f)) (ha2 : PE X e2 (TSr X.K E f2)) (ha3 : PE X e3 (TSr X.K E f3)) (hs : starEach [e, e2, e3] X.env = (false, eval e X.env) :: starEach [e2, e3] X.env)
    (hs2 : starEach [e2, e3] X.env = (false, eval e2 X.env) :: starEach [e3] X.env) (hs3 : starEach [e3] X.env = (false, eval e3 X.env) :: starEach [] X.env) (hpl : (backTo pos (starEach [e2, e3] X.env)).any (·.1) = false) :
    PI X (.Tuple elts kk tpos) (.Call (.Name "zip" p) [e, e2, e3] [] pos) (TIt X.K E (mZi3 f f2 f3)) :=
  PI.imp (pi_zi3 hg hm (pa_cons ha (pa_cons ha2 (pa_cons ha3 pa_nil hs3) hs2) hs) hs hpl) fun σ H R ⟨F, ρ, g, go⟩ => by
    refine ⟨F, ρ, g, (Go.bind go).mono ?_⟩
    rintro ds ρ1 F1 H1 ⟨g1, s1, sub1, go1⟩ v hv
    refine ⟨F1, ρ1, g1, (Go.bind go1).mono ?_⟩
    rintro ds2 ρ2 F2 H2 ⟨g2, s2, sub2, go2⟩ v2 hv2
    refine ⟨F2, ρ2, g2, (Go.bind go2).mono ?_⟩
    rintro ds3 ρ3 F3 H3 ⟨g3, s3, sub3, go3⟩ v3 hv3
    obtain ⟨t1, a1, xs1, rfl, r1, q1⟩ := ((hv.step g1.wok s2).step g2.wok s3).of
    obtain ⟨t2, a2, xs2, rfl, r2, q2⟩ := (hv2.step g2.wok s3).of
    obtain ⟨t3, a3, xs3, rfl, r3, q3⟩ := hv3.of
    exact ⟨t1, t2, t3, a1, a2, a3, xs1, xs2, xs3, rfl, q1 W0 F3 H3 .nil .refl, q2 W0 F3 H3 .nil .refl, q3 W0 F3 H3 .nil .refl,
      Go.pure go3 F3 H3 .refl g3 _ (itr_zi3 r1 r2 r3 g3.wok (fun F' H' s => q1 _ F' H' g3.wok s) (fun F' H' s => q2 _ F' H' g3.wok s) fun F' H' s => q3 _ F' H' g3.wok s)⟩
end
end Pv

set_option maxRecDepth 100000
/-! Pv, part O: more statements: several names at once, changes of lists, chains of tests, isinstance, while. -/
namespace Pv
open PySem PySem.Spec L2
/-! ### targets of several names -/
def mAsgT (f : M PyData) (ft : PyData → M Unit) : M Fl := do
  let d ← f
  ft d
  pure .nx
theorem NoEx.bind {α β : Type} {f : M α} {g : α → M β} (h1 : NoEx f) (h2 : ∀ a, NoEx (g a)) : NoEx (f >>= g) := fun ρ c d e => by
  cases e1 : f ρ with
  | bad => rw [bind_bad e1] at e; cases e
  | exc c' d' => exact h1 ρ c' d' e1
  | ok a ρ1 => rw [bind_ok e1] at e; exact h2 a ρ1 c d e
theorem noEx_nil {ds : List PyData} : NoEx (tgNil ds) := by
  unfold tgNil
  split <;> exact fun ρ c d e => nomatch e
theorem noEx_cons {f : PyData → M Unit} {fs : List PyData → M Unit} {ds : List PyData} (h1 : ∀ d, NoEx (f d)) (h2 : ∀ ds, NoEx (fs ds)) : NoEx (tgCons f fs ds) := by
  cases ds with
  | nil => exact fun ρ c d e => nomatch e
  | cons d ds => exact NoEx.bind (h1 d) fun _ => h2 ds
theorem noEx_tup {n : Nat} {fs : List PyData → M Unit} {d : PyData} (h : ∀ ds, NoEx (fs ds)) : NoEx (tgTup n fs d) := by
  unfold tgTup
  split
  · split
    · exact h _
    · exact fun ρ c d e => nomatch e
  · split
    · exact h _
    · exact fun ρ c d e => nomatch e
  · exact fun ρ c d e => nomatch e
def m2 (fa fb : M SV) : M (SV × SV) := do
  let x ← fa
  let y ← fb
  pure (x, y)
/-- two values put into two slots at once -/
def mPar2 (i j : Nat) (fa fb : M SV) : M Fl := fun ρ => match m2 fa fb ρ with
  | .ok xy ρ' => if i < ρ'.length ∧ j < ρ'.length then .ok .nx ((ρ'.set i (some xy.1)).set j (some xy.2)) else .bad
  | .exc c d => .exc c d
  | .bad => .bad
def m3 (fa fb fc : M SV) : M (SV × SV × SV) := do
  let x ← fa
  let y ← fb
  let z ← fc
  pure (x, y, z)
section
variable {X : Cx} {E : EK} {pos p : Pos} {tg e a b : Expr} {fx : List Nat}
theorem qs_asgT {f : M PyData} {ft : PyData → M Unit} (he : PE X e (TF X.K E f)) (hg : PG X tg (TGt X.K fx ft)) (hn : ∀ d, NoEx (ft d)) (hs : swapsWithSole [tg] e pos.line X.env = pure false) (hw : swappedStores [tg] e X.env = pure none)
    (h1 : (assignEach [tg] X.env).map (·.2) = [assign tg X.env]) : PS X (.Assign [tg] e pos) (TSt X.K E fx (mAsgT f ft)) :=
  PS.imp (ps_asg he hg hs hw h1) fun D σ H ⟨F, ρ, g, go⟩ => by
    refine ⟨F, ρ, g, (GoS.bindE go).mono ?_⟩
    rintro d ρ1 F1 H1 ⟨g1, s1, sub1, go1⟩ v hv
    refine ⟨F1, ρ1, d, g1, hv, (GoS.bindT g1 go1 (hn d ρ1)).mono ?_⟩
    rintro σ' ρ' ⟨st, _, _, go2⟩
    exact GoS.pure (E := E) go2 st.good
end
section
variable {K : PySem.W.Frag} {F F' F0 F1 F2 W : Reg} {H H' H0 H1 H2 : Hp} {σ σ' σ0 σ1 σ2 : L2.St} {ρ ρ' ρ0 ρ1 ρ2 : PEnv} {E : EK} {α β : Type} {fx : List Nat}
theorem VR.no {v : V} {sv : SV} (r : VR K σ ρ H ρ' F' H' v sv) (h : sv.o ≠ .fr) : sv.o = .ow := by
  have := r.nl
  cases e : sv.o
  · exact absurd e h
  · rfl
  · exact absurd e this
/-- two results put into two slots -/
theorem par2_gd {i j : Nat} {x y : SV} {v w : V} (hi : i ∉ fx) (hj : j ∉ fx) (hij : i ≠ j) (g : Gd K F1 H1 σ ρ1) (s : Step (Own σ ρ) F H F1 H1) (sub : Sub σ ρ ρ1) (hv : VR K σ ρ H ρ1 F1 H1 v x) (hw : VR K σ ρ H ρ1 F1 H1 w y)
    (ne : x.o = .ow → y.o = .ow → v ≠ w) (li : i < ρ1.length) (lj : j < ρ1.length) :
    StepS K fx σ ρ F H ((σ.set i (some v)).set j (some w)) ((ρ1.set i (some x)).set j (some y)) F1 H1 := by
  obtain ⟨g2, fix2, hold2, own2⟩ := set_gd (fx := fx) hi hv.rep g (fun q a e => (hv.new (hv.no q) a e).1) li
  have lj' : j < (ρ1.set i (some x)).length := by rw [List.length_set]; exact lj
  obtain ⟨g3, fix3, hold3, own3⟩ := set_gd (fx := fx) hj hw.rep g2 (fun q a e z => by
    rcases hold2 a z with z | ⟨z1, z2⟩
    · exact (hw.new (hw.no q) a e).1 z
    · exact ne (hv.no z1) (hw.no q) (by rw [z2, e])) lj'
  refine ⟨s, g3, fun a z => ?_, fun a z => ?_, fun k hk => (fix3 k hk).trans (fix2 k hk)⟩
  · rcases own3 a z with z | ⟨q, e⟩
    · rcases own2 a z with z | ⟨q, e⟩
      · exact .inl (sub.own a z)
      · exact (hv.new q a e).2.symm
    · exact (hw.new q a e).2.symm
  · rcases hold3 a z with z | ⟨q, e⟩
    · rcases hold2 a z with z | ⟨q, e⟩
      · exact .inl (sub.hold a z)
      · exact (hv.new (hv.no q) a e).2.symm.imp Own.hold id
    · exact (hw.new (hw.no q) a e).2.symm.imp Own.hold id
theorem mPar2_go {i j : Nat} {fa fb : M SV} {C : Fl → L2.St → PEnv → Reg → Hp → Prop} (hi : i ∉ fx) (hj : j ∉ fx) (hij : i ≠ j) (h : GoS K E fx (mPar2 i j fa fb) σ F H ρ C) :
    Go K E (m2 fa fb) σ F H ρ fun xy ρ1 F1 H1 => ∀ v w, VR K σ ρ H ρ1 F1 H1 v xy.1 → VR K σ ρ H ρ1 F1 H1 w xy.2 → (xy.1.o = .ow → xy.2.o = .ow → v ≠ w) → C .nx ((σ.set i (some v)).set j (some w)) ((ρ1.set i (some xy.1)).set j (some xy.2)) F1 H1 := by
  unfold GoS mPar2 at h
  unfold Go
  cases e : m2 fa fb ρ with
  | bad => rw [e] at h; exact h
  | exc c d => rw [e] at h; exact h
  | ok xy ρ1 =>
    rw [e] at h
    dsimp only at h ⊢
    intro F1 H1 s1 gd sub v w hv hw ne
    by_cases hl : i < ρ1.length ∧ j < ρ1.length
    · rw [if_pos hl] at h
      exact h _ _ _ (par2_gd hi hj hij gd s1 sub hv hw ne hl.1 hl.2)
    · rw [if_neg hl] at h
      exact h.elim
end
section
variable {X : Cx} {E : EK} {pos p : Pos} {tg e a b : Expr} {fx : List Nat}
theorem qs_par2 {i j : Nat} {x y : Str} {fa fb : M SV} {px py pt : Pos} {kt k2 : Nat} {pt2 : Pos} (hc : X.calm = true) (hN : X.N.Nodup) (hi : X.N[i]? = some x) (hj : X.N[j]? = some y) (hij : i ≠ j) (fi : i ∉ fx) (fj : j ∉ fx)
    (hx : X.env.scope.names.lookup x = some .local) (hy : X.env.scope.names.lookup y = some .local) (ha : PE X a (TV X.K E fa)) (hb : PE X b (TV X.K E fb))
    (hw : swappedStores [.Tuple [.Name x px, .Name y py] kt pt] (.Tuple [a, b] k2 pt2) X.env = pure (some [x, y]))
    (hs : swapsWithSole [.Tuple [.Name x px, .Name y py] kt pt] (.Tuple [a, b] k2 pt2) pos.line X.env = pure false)
    (h1 : starEach [a, b] X.env = (false, eval a X.env) :: starEach [b] X.env) (h2 : starEach [b] X.env = (false, eval b X.env) :: starEach [] X.env) :
    PS X (.Assign [.Tuple [.Name x px, .Name y py] kt pt] (.Tuple [a, b] k2 pt2) pos) (TSt X.K E fx (mPar2 i j fa fb)) :=
  PS.imp (ps_par hc hN hi hj hij hx hy (pa_cons ha (pa_cons hb pa_nil h2) h1) hw hs) fun D σ H ⟨F, ρ, g, go⟩ => by
    refine ⟨F, ρ, g, (Go.bind (mPar2_go fi fj hij go)).mono ?_⟩
    rintro sx ρ1 F1 H1 ⟨g1, s1, sub1, go1⟩ v hv
    refine ⟨F1, ρ1, g1, (Go.bind go1).mono ?_⟩
    rintro sy ρ2 F2 H2 ⟨g2, s2, sub2, go2⟩ w hw
    refine ⟨v, w, rfl, ?_⟩
    have hv2 := hv.step g1 s2 sub2
    have hw2 : VR X.K σ ρ H ρ2 F2 H2 w sy := hw.from s1 sub1
    refine Go.pure go2 F2 H2 .refl g2 v w hv2 hw2 fun ox oy e => ?_
    have hr := hv.rep
    unfold Srep at hr
    rw [ox] at hr
    obtain ⟨c, ec, _, hc⟩ := hr
    have h3 := hw.new oy c (by rw [← e, ec])
    rcases h3.2 with q | q
    · exact hc.knd.some q
    · exact (hv.new ox c ec).1 q.hold
end
/-! ### code that is never come to -/
section
variable {X : Cx} {E : EK} {st : Stmt} {sts : List Stmt} {fx : List Nat}
theorem qs_never : PS X st (TSt X.K E fx M.bad) := PS.imp ps_never fun D σ H ⟨F, ρ, g, go⟩ => go
theorem qss_never : PSs X sts (TSt X.K E fx M.bad) := PSs.imp pss_never fun D σ H ⟨F, ρ, g, go⟩ => go
theorem qss_one {f : M Fl} (h : PS X st (TSt X.K E fx f)) : PSs X [st] (TSt X.K E fx f) := PSs.imp (pss_one h) fun D σ H q => q
end
/-! ### global constants -/
section
variable {X : Cx} {E : EK} {p : Pos} {x : Str}
theorem qe_gint {i : Int} {t : Tok} (hg : Gl X x) (hm : X.mg x = some (.int i t)) (hd : (x == ("__debug__" : Str)) = false) : PE X (.Name x p) (TV X.K E (pure (frv (.int i)))) := qe_con (pe_glob hg hm (v := .int i) ⟨t, rfl⟩ hd) fun _ _ => .int i
theorem qe_gstr {i : Str} {t : Tok} (hg : Gl X x) (hm : X.mg x = some (.str i t)) (hd : (x == ("__debug__" : Str)) = false) : PE X (.Name x p) (TV X.K E (pure (frv (.str i)))) := qe_con (pe_glob hg hm (v := .str i) ⟨t, rfl⟩ hd) fun _ _ => .str i
end
/-! ### a op b op c -/
def mChain (g g' : PyData → PyData → Option SV) (fa fb fc : M Opd) : M SV := do
  let oa ← fa
  let ob ← fb
  let a ← rslv oa
  let b ← rslv ob
  let z ← lift (g a.d b.d)
  match z.d with
  | .bool true => do
    let oc ← fc
    let b ← rslv ob
    let c ← rslv oc
    lift (g' b.d c.d)
  | .bool false => pure (frv (.bool false))
  | _ => M.bad
section
variable {K : PySem.W.Frag} {F F' F0 F1 F2 W : Reg} {H H' H0 H1 H2 : Hp} {σ σ' σ0 σ1 σ2 : L2.St} {ρ ρ' ρ0 ρ1 ρ2 : PEnv} {E : EK} {α β : Type} {fx : List Nat}
theorem tChain_of {r r' : R2} {g g' : PyData → PyData → Option SV} {fa fb fc : M Opd} {Q : VK} (hg : OpG K r g) (hg' : OpG K r' g') (h : TV K E (mChain g g' fa fb fc) σ H Q) : tChain r r' (TO K E fa) (TO K E fb) (TO K E fc) σ H Q := by
  obtain ⟨F, ρ, gd, go⟩ := h
  refine ⟨F, ρ, gd, (Go.bind go).mono ?_⟩
  rintro oa ρ1 F1 H1 ⟨g1, s1, sub1, go1⟩ x hx
  refine ⟨F1, ρ1, g1, (Go.bind go1).mono ?_⟩
  rintro ob ρ2 F2 H2 ⟨g2, s2, sub2, go2⟩ y hy
  obtain ⟨sx, ex, go3⟩ := Go.rsl go2
  obtain ⟨sy, ey, go4⟩ := Go.rsl go3
  have hx2 := (hx.step g1 s2 sub2).ro' g2 ex
  have hy2 := hy.ro' g2 ey
  have s12 := s1.trans s2 fun a z => .inl (sub1.own a z)
  obtain ⟨sv, e, fin⟩ := Go.lift (Go.bind go4)
  refine hg F2 H2 x y sx.d sy.d sv _ g2.al hx2 hy2 e fun z F3 H3 s3 al3 rz nl new => ?_
  obtain ⟨g3, s3', sub3, go5⟩ := fin F3 H3 s3.of0 (g2.pure s3 al3)
  obtain ⟨d, o⟩ := sv
  cases d with
  | bool k =>
    refine ⟨k, Ro.bool ⟨o, rz⟩, ?_⟩
    cases k with
    | false => exact iteF (Go.pure go5 F3 H3 .refl g3 (.bl false) ⟨.bl _, (fun z => nomatch z), fun z => nomatch z⟩)
    | true =>
      refine iteT ⟨F3, ρ2, g3, (Go.bind go5).mono ?_⟩
      rintro oc ρ4 F4 H4 ⟨g4, s4, sub4, go6⟩ w hw
      obtain ⟨sy', ey', go7⟩ := Go.rsl go6
      obtain ⟨sz, ez, go8⟩ := Go.rsl go7
      obtain ⟨sv2, e2, fin2⟩ := Go.lift go8
      have hy4 := ((hy.step g2 (s3.of0 (W' := Own σ ρ2)) .refl).step g3 s4 sub4).ro' g4 ey'
      have hz4 := hw.ro' g4 ez
      have all : Step (Own σ ρ) F H F4 H4 := (s12.trans s3 fun a z => z.elim).trans s4 fun a z => .inl (sub1.own a (sub2.own a z))
      exact hg' F4 H4 y w sy'.d sz.d sv2 Q g4.al hy4 hz4 e2 (Ret.of g4 all ((sub1.trans sub2).trans sub4) fin2)
  | _ => exact go5.elim
end
section
variable {X : Cx} {E : EK} {pos p : Pos} {a b c : Expr}
theorem qe_chain {op op' : CmpOp} {r r' : R2} {g g' : PyData → PyData → Option SV} {fa fb fc : M Opd} (ho : OpR X (compareOp op) r) (ho' : OpR X (compareOp op') r') (hg : OpG X.K r g) (hg' : OpG X.K r' g') (ha : PE X a (TO X.K E fa)) (hb : PE X b (TO X.K E fb)) (hc : PE X c (TO X.K E fc))
    (hm : lastMarks [op, op'] [b, c] = false) : PE X (.Compare a [op, op'] [b, c] pos) (TV X.K E (mChain g g' fa fb fc)) := PE.imp (pe_chain ho ho' ha hb hc hm) fun _ _ _ q => tChain_of hg hg' q
theorem qt_chain {op op' : CmpOp} {r r' : R2} {g g' : PyData → PyData → Option SV} {fa fb fc : M Opd} (ho : OpR X (compareOp op) r) (ho' : OpR X (compareOp op') r') (hg : OpG X.K r g) (hg' : OpG X.K r' g') (ha : PE X a (TO X.K E fa)) (hb : PE X b (TO X.K E fb)) (hc : PE X c (TO X.K E fc))
    (hm : lastMarks [op, op'] [b, c] = false) : PT X (.Compare a [op, op'] [b, c] pos) (TB X.K E (mB (mChain g g' fa fb fc))) := PT.imp (pt_chain ho ho' ha hb hc hm) fun _ _ _ q => tChain_of hg hg' (tB_of q)
end
end Pv

set_option maxRecDepth 100000
/-! Pv, part P: isinstance, changes of lists, while. -/
namespace Pv
open PySem PySem.Spec L2
/-! ### isinstance -/
def tyD : PyData → Option String
  | .none => some "NoneType"
  | .bool _ => some "bool"
  | .int _ => some "int"
  | .str _ => some "str"
  | .list _ => some "list"
  | .tuple _ => some "tuple"
  | _ => none
def isiD (T : String) (d : PyData) : Option SV := match tyD d with
  | some t => (kitB t T).map fun b => frv (.bool b)
  | none => none
section
variable {K : PySem.W.Frag} {F F' F0 F1 F2 W : Reg} {H H' H0 H1 H2 : Hp} {σ σ' σ0 σ1 σ2 : L2.St} {ρ ρ' ρ0 ρ1 ρ2 : PEnv} {E : EK} {α β : Type} {fx : List Nat}
theorem Ro.tyX {v : V} {d : PyData} {t : String} (r : Ro K F H v d) (e : tyD d = some t) : TyX K H v (.type t) := by
  cases d with
  | none => cases e; rw [r.none]; exact .base .non
  | bool b => cases e; rw [r.bool]; exact .base (.bl _)
  | int i => cases e; rw [r.int]; exact .base (.int _)
  | str x => cases e; rw [r.str]; exact .base (.str _)
  | list ds =>
    cases e
    obtain ⟨a, xs, rfl, q, _⟩ := r.list
    rcases q with (q | ⟨o, q⟩) | ⟨o, _, _, q, qc, _⟩
    · exact .base (.lst q)
    · exact .base (.frz q)
    · exact .kList q qc
  | tuple ds =>
    cases e
    obtain ⟨a, xs, rfl, q, _⟩ := r.tuple
    exact .base (.tup q)
  | _ => cases e
end
section
variable {X : Cx} {E : EK} {pos p p2 : Pos} {e : Expr} {T : Str}
theorem qe_isi {Tn : String} {f : M Opd} (hg : Gl X "isinstance") (hm : X.mg "isinstance" = none) (hgT : Gl X T) (hmT : X.mg T = none) (hT : bootBuiltins T = some (.type Tn)) (hnT : T ≠ "__name__") (hdT : (T == ("__debug__" : Str)) = false) (he : PE X e (TO X.K E f))
    (h1 : starEach [e, .Name T p2] X.env = (false, eval e X.env) :: starEach [.Name T p2] X.env) (h2 : starEach [.Name T p2] X.env = (false, eval (.Name T p2) X.env) :: starEach [] X.env) (hpl : (backTo pos (starEach [.Name T p2] X.env)).any (·.1) = false) :
    PE X (.Call (.Name "isinstance" p) [e, .Name T p2] [] pos) (TV X.K E (mOp1 (isiD Tn) f)) :=
  PE.imp (pe_callB call_isi hg hm PyProof.Rows.boot_isinstance (pa_cons he (pa_cons (pe_bltn (v := .ty Tn) (pos := p2) hgT hmT hT rfl hnT hdT) pa_nil h2) h1) (by decide) (by decide) h1 hpl) fun σ H Q ⟨F, ρ, gd, go⟩ => by
    refine ⟨F, ρ, gd, (Go.bind go).mono ?_⟩
    rintro oa ρ1 F1 H1 ⟨g1, s1, sub1, go1⟩ x hx
    obtain ⟨sx, ex, go3⟩ := Go.rsl go1
    obtain ⟨sv, e, fin⟩ := Go.lift go3
    have hr := hx.ro' g1 ex
    unfold isiD at e
    split at e
    · rename_i t et
      rw [Option.map_eq_some_iff] at e
      obtain ⟨b, eb, rfl⟩ := e
      exact ⟨x, .ty Tn, .type t, .type Tn, b, rfl, .ty Tn, hr.tyX et, kit_ty eb, (Ret.of g1 s1 sub1 fin).fr g1.al (.bl b)⟩
    · cases e
end
/-! ### changes of an owned list -/
/-- slot i is an owned list -/
def ownL (i : Nat) : M (List PyData) := fun ρ => match ρ[i]? with
  | some (some ⟨.list ds, .ow⟩) => .ok ds ρ
  | _ => .bad
def putL (i : Nat) (ds : List PyData) : M Fl := fun ρ => .ok .nx (ρ.set i (some ⟨.list ds, .ow⟩))
section
variable {K : PySem.W.Frag} {F F' F0 F1 F2 W : Reg} {H H' H0 H1 H2 : Hp} {σ σ' σ0 σ1 σ2 : L2.St} {ρ ρ' ρ0 ρ1 ρ2 : PEnv} {E : EK} {α β : Type} {fx : List Nat}
theorem GoS.ownL {i : Nat} {g : List PyData → M β} {C : β → L2.St → PEnv → Reg → Hp → Prop} (gd : Gd K F H σ ρ) (h : GoS K E fx (Pv.ownL i >>= g) σ F H ρ C) :
    ∃ ds p xs, ρ[i]? = some (some ⟨.list ds, .ow⟩) ∧ σ[i]? = some (some (.ref p)) ∧ ¬ F p ∧ H p = some (.lst xs) ∧ RpL K F H xs ds ∧ GoS K E fx (g ds) σ F H ρ C := by
  unfold GoS at h
  cases e : Pv.ownL i ρ with
  | bad => rw [bind_bad e] at h; exact h.elim
  | exc c d =>
    unfold Pv.ownL at e
    split at e <;> cases e
  | ok ds ρ1 =>
    rw [bind_ok e] at h
    unfold Pv.ownL at e
    split at e
    · rename_i ds' er
      cases e
      obtain ⟨v, ev, p, rfl, nf, hh⟩ := gd.sl i _ er
      cases hh with
      | lst hp r => exact ⟨ds, p, _, er, ev, nf, hp, r, h⟩
    · cases e
theorem GoS.rsl {o : Opd} {g : SV → M β} {C : β → L2.St → PEnv → Reg → Hp → Prop} (h : GoS K E fx (Pv.rslv o >>= g) σ F H ρ C) : ∃ sv, Pv.rslv o ρ = .ok sv ρ ∧ GoS K E fx (g sv) σ F H ρ C := by
  unfold GoS at h ⊢
  cases e : Pv.rslv o ρ with
  | bad => rw [bind_bad e] at h; exact h.elim
  | exc c d =>
    unfold Pv.rslv at e
    split at e
    · split at e <;> cases e
    · cases e
  | ok sv ρ1 =>
    have e1 : ρ1 = ρ := by
      unfold Pv.rslv at e
      split at e
      · split at e <;> cases e; rfl
      · cases e; rfl
    subst e1
    rw [bind_ok e] at h
    exact ⟨sv, rfl, h⟩
/-- the list at slot i is written over -/
theorem list_put {i : Nat} {p : Addr} {xs ys : List V} {ds es : List PyData} (gd : Gd K F H σ ρ) (er : ρ[i]? = some (some ⟨.list ds, .ow⟩)) (eσ : σ[i]? = some (some (.ref p))) (nf : ¬ F p) (hp : H p = some (.lst xs)) (r : RpL K F H ys es) :
    StepS K fx σ ρ F H σ (ρ.set i (some ⟨.list es, .ow⟩)) F (upd H p (.lst ys)) := by
  have own : Own σ ρ p := ⟨i, eσ, _, er, rfl⟩
  have wp : Wok (fun a => a = p) F H := fun a e => by
    have e : a = p := e
    subst e; exact ⟨nf, .inl ⟨xs, hp⟩⟩
  have st : Step (fun a => a = p) F H F (upd H p (.lst ys)) := ⟨fun _ f => f, fun a o e n => by rw [upd_ne n]; exact e, fun _ f => .inl f⟩
  have stay := st.stay wp
  obtain ⟨r1, r2, r3, r4⟩ := put_gd (K := K) (F' := F) (H' := upd H p (.lst ys)) (σ := σ) (adr := [p]) (is := [i]) (outs := [.list es]) (ρ := ρ) (ρ' := ρ.set i (some ⟨.list es, .ow⟩))
    (.cons ⟨_, eσ, er⟩ .nil) (.cons ⟨nf, .lst upd_same (r.stay stay)⟩ .nil) rfl gd.len gd.dis fun j sv e nj => by
      obtain ⟨v, ev, q⟩ := gd.sl j sv e
      refine ⟨v, ev, q.stay stay fun ho a ea => ⟨fun o q' => st.keep a o q' fun z => ?_, fun nb => nb⟩⟩
      subst ea
      have z : a = p := z
      subst z
      exact nj (by rw [gd.dis j i a ⟨ev, _, e, ho⟩ ⟨eσ, _, er, fun z => nomatch z⟩]; exact List.mem_singleton_self _)
  exact ⟨st.weak fun a e => by rw [show a = p from e]; exact own, ⟨r1, al_alloc gd.al, r3, r2⟩, fun a z => .inl (r4.own a z), fun a z => .inl (r4.hold a z), fun _ _ => rfl⟩
end
def mAppend (i : Nat) (f : M PyData) : M Fl := do
  let _ ← ownL i
  let d ← f
  let ds ← ownL i
  if ds.length < sizeLine then putL i (ds ++ [d]) else M.bad
def mExtend (i : Nat) (f : M SV) : M Fl := do
  let _ ← ownL i
  let sv ← f
  let ds ← ownL i
  match sv with
  | ⟨.list es, .ow⟩ => if ds.length + es.length ≤ sizeLine then putL i (ds ++ es) else M.bad
  | _ => M.bad
def mSetIx (i : Nat) (f : M PyData) (fi : M Opd) : M Fl := do
  let d ← f
  let _ ← ownL i
  let o ← fi
  let sv ← rslv o
  let ds ← ownL i
  match sv.d with
  | .int k => (match ixN ds.length k with
    | some j => putL i (ds.set j d)
    | none => M.bad)
  | _ => M.bad
section
variable {X : Cx} {E : EK} {pos p apos cpos npos spos : Pos} {e ei : Expr} {x : Str} {fx : List Nat}
theorem qs_append {i : Nat} {f : M PyData} (hx : PE X (.Name x npos) (tVar i)) (he : PE X e (TF X.K E f)) (hsw : swapsWith (.Call (.Attribute (.Name x npos) "append" apos) [e] [] cpos) none pos.line X.env = pure false)
    (hbase : attributeBase (.Name x npos) "append" X.env (eval (.Name x npos) X.env) = eval (.Name x npos) X.env)
    (hfew : ((backTo cpos (starEach [e] X.env)).all (fun x => !x.1) && (backToKw cpos (keywordEach [] X.env)).all (fun x => x.1.isSome) && decide ([e].length + ([] : List Keyword).length + (if ([] : List Keyword).isEmpty then 0 else 1) < 30)) = true)
    (hline : (apos.endLine == cpos.line) = true) (hs : starEach [e] X.env = (false, eval e X.env) :: starEach [] X.env) (hplain : (backTo cpos (starEach [] X.env)).any (·.1) = false) :
    PS X (.Expr (.Call (.Attribute (.Name x npos) "append" apos) [e] [] cpos) pos) (TSt X.K E fx (mAppend i f)) :=
  PS.imp (ps_expr (pe_bm PySem.F.plainAttrs_list PySem.F.slot_list_append PySem.F.type_list_append mt_append hx (pa_cons he pa_nil hs) hbase hfew hline hs hplain) hsw) fun D σ H ⟨F, ρ, gd, go⟩ => by
    obtain ⟨ds0, p, xs0, er0, eσ, nf0, hp0, r0, go⟩ := GoS.ownL gd go
    refine ⟨.ref p, eσ, .inl ⟨rfl, _, .inl (.inl hp0)⟩, F, ρ, gd, (GoS.bindE go).mono ?_⟩
    rintro d ρ1 F1 H1 ⟨g1, s1, sub1, go1⟩ v hv
    obtain ⟨ds, p', xs, er, eσ', nf, hp, r, go2⟩ := GoS.ownL g1 go1
    rw [eσ] at eσ'
    cases eσ'
    by_cases hl : ds.length < sizeLine
    · rw [if_pos hl] at go2
      refine ⟨p, xs, v, rfl, rfl, hp, by rw [r.length]; exact hl, ?_⟩
      have st := list_put (fx := fx) g1 er eσ nf hp (r.append (.cons hv .nil))
      exact go2 σ F1 _ st
    · rw [if_neg hl] at go2
      exact go2.elim
theorem qs_extend {i : Nat} {f : M SV} (hx : PE X (.Name x npos) (tVar i)) (he : PE X e (TV X.K E f)) (hsw : swapsWith (.Call (.Attribute (.Name x npos) "extend" apos) [e] [] cpos) none pos.line X.env = pure false)
    (hbase : attributeBase (.Name x npos) "extend" X.env (eval (.Name x npos) X.env) = eval (.Name x npos) X.env)
    (hfew : ((backTo cpos (starEach [e] X.env)).all (fun x => !x.1) && (backToKw cpos (keywordEach [] X.env)).all (fun x => x.1.isSome) && decide ([e].length + ([] : List Keyword).length + (if ([] : List Keyword).isEmpty then 0 else 1) < 30)) = true)
    (hline : (apos.endLine == cpos.line) = true) (hs : starEach [e] X.env = (false, eval e X.env) :: starEach [] X.env) (hplain : (backTo cpos (starEach [] X.env)).any (·.1) = false) :
    PS X (.Expr (.Call (.Attribute (.Name x npos) "extend" apos) [e] [] cpos) pos) (TSt X.K E fx (mExtend i f)) :=
  PS.imp (ps_expr (pe_bm PySem.F.plainAttrs_list PySem.F.slot_list_extend PySem.F.type_list_extend mt_extend hx (pa_cons he pa_nil hs) hbase hfew hline hs hplain) hsw) fun D σ H ⟨F, ρ, gd, go⟩ => by
    obtain ⟨ds0, p, xs0, er0, eσ, nf0, hp0, r0, go⟩ := GoS.ownL gd go
    refine ⟨.ref p, eσ, .inl ⟨rfl, _, .inl (.inl hp0)⟩, F, ρ, gd, (GoS.bindE go).mono ?_⟩
    rintro sv ρ1 F1 H1 ⟨g1, s1, sub1, go1⟩ v hv
    obtain ⟨ds, p', xs, er, eσ', nf, hp, r, go2⟩ := GoS.ownL g1 go1
    rw [eσ] at eσ'
    cases eσ'
    split at go2
    · rename_i es
      by_cases hl : ds.length + es.length ≤ sizeLine
      · rw [if_pos hl] at go2
        obtain ⟨b, rfl, nb, hb⟩ := hv.rep
        cases hb with
        | lst hb rb =>
          refine ⟨p, b, xs, _, rfl, rfl, hp, hb, by rw [r.length, rb.length]; exact hl, ?_⟩
          have st := list_put (fx := fx) g1 er eσ nf hp (r.append rb)
          exact go2 σ F1 _ st
      · rw [if_neg hl] at go2
        exact go2.elim
    · exact go2.elim
theorem qs_setIx {i : Nat} {f : M PyData} {fi : M Opd} (hx : PE X (.Name x npos) (tVar i)) (he : PE X e (TF X.K E f)) (hi : PE X ei (TO X.K E fi)) (hs : swapsWithSole [.Subscript (.Name x npos) ei spos] e pos.line X.env = pure false) (hw : swappedStores [.Subscript (.Name x npos) ei spos] e X.env = pure none)
    (h1 : (assignEach [.Subscript (.Name x npos) ei spos] X.env).map (·.2) = [assign (.Subscript (.Name x npos) ei spos) X.env])
    (ha : ∀ v, assign (.Subscript (.Name x npos) ei spos) X.env v = (do
      let ov ← holding [v] (eval (.Name x npos) X.env)
      let iv ← holding [v, ov] (eval ei X.env)
      standAt spos
      holding [v, ov, iv] (setItem ov iv v)
      release [v, ov, iv] [])) : PS X (.Assign [.Subscript (.Name x npos) ei spos] e pos) (TSt X.K E fx (mSetIx i f fi)) :=
  PS.imp (ps_asg he (pg_sub hx hi set_list ha) hs hw h1) fun D σ H ⟨F, ρ, gd, go⟩ => by
    refine ⟨F, ρ, gd, (GoS.bindE go).mono ?_⟩
    rintro d ρ1 F1 H1 ⟨g1, s1, sub1, go1⟩ v hv
    obtain ⟨ds0, p, xs0, er0, eσ, nf0, hp0, r0, go1⟩ := GoS.ownL g1 go1
    refine ⟨.ref p, eσ, F1, ρ1, g1, (GoS.bindE go1).mono ?_⟩
    rintro o ρ2 F2 H2 ⟨g2, s2, sub2, go2⟩ y hy
    obtain ⟨sv, e, go3⟩ := GoS.rsl go2
    obtain ⟨ds, p', xs, er, eσ', nf, hp, r, go4⟩ := GoS.ownL g2 go3
    rw [eσ] at eσ'
    cases eσ'
    have ry := hy.ro' g2 e
    obtain ⟨dk, ow⟩ := sv
    cases dk with
    | int k =>
      dsimp only at go4
      cases ej : ixN ds.length k with
      | none => rw [ej] at go4; exact go4.elim
      | some j =>
        rw [ej] at go4
        refine ⟨p, xs, k, j, rfl, ry.int, hp, by rw [r.length]; exact ej, ?_⟩
        have hv2 : Rp X.K F2 H2 v d := hv.stay (s2.stay g1.wok)
        have st := list_put (fx := fx) g2 er eσ nf hp (r.set j hv2)
        exact go4 σ F2 _ st
    | _ => exact go4.elim
end
end Pv

set_option maxRecDepth 100000
/-! Pv, part Q: while; the least and the greatest of data; list and tuple of a range. -/
namespace Pv
open PySem PySem.Spec L2
/-! ### while -/
def whileL (fc : M Bool) (fb : M Fl) : Nat → M Fl
  | 0 => M.bad
  | n + 1 => do
    if ← fc then
      match ← fb with
      | .nx => whileL fc fb n
      | .ct => whileL fc fb n
      | .bk => pure .nx
      | .rt sv => pure (.rt sv)
    else pure .nx
/-- a while loop that is known to end -/
noncomputable def mWhile (fc : M Bool) (fb : M Fl) : M Fl := fun ρ =>
  open Classical in if h : ∃ n, whileL fc fb n ρ ≠ .bad then whileL fc fb (choose h) ρ else .bad
theorem whileL_succ {fc : M Bool} {fb : M Fl} : ∀ {n : Nat} {ρ : PEnv}, whileL fc fb n ρ ≠ .bad → whileL fc fb (n + 1) ρ = whileL fc fb n ρ
  | 0, ρ, h => absurd rfl h
  | n + 1, ρ, h => by
    have e : ∀ m, whileL fc fb (m + 1) = (fc >>= fun b => if b = true then (fb >>= fun fl => match fl with
      | .nx => whileL fc fb m
      | .ct => whileL fc fb m
      | .bk => pure .nx
      | .rt sv => pure (.rt sv)) else pure .nx) := fun m => rfl
    rw [e (n + 1)]
    rw [e n] at h ⊢
    cases e1 : fc ρ with
    | bad => rw [bind_bad e1] at h; exact absurd rfl h
    | exc c d => rw [bind_exc e1, bind_exc e1]
    | ok b ρ1 =>
      rw [bind_ok e1] at h ⊢
      rw [bind_ok e1]
      cases b with
      | false => rfl
      | true =>
        simp only [if_true] at h ⊢
        cases e2 : fb ρ1 with
        | bad => rw [bind_bad e2] at h; exact absurd rfl h
        | exc c d => rw [bind_exc e2, bind_exc e2]
        | ok fl ρ2 =>
          rw [bind_ok e2] at h ⊢
          rw [bind_ok e2]
          cases fl with
          | nx => exact whileL_succ h
          | ct => exact whileL_succ h
          | bk => rfl
          | rt sv => rfl
theorem whileL_more {fc : M Bool} {fb : M Fl} {n : Nat} {ρ : PEnv} (h : whileL fc fb n ρ ≠ .bad) : ∀ k, whileL fc fb (n + k) ρ = whileL fc fb n ρ
  | 0 => rfl
  | k + 1 => by
    have e := whileL_more h k
    rw [← e] at h
    rw [← Nat.add_assoc, whileL_succ h, e]
theorem mWhile_eq {fc : M Bool} {fb : M Fl} {n : Nat} {ρ : PEnv} (h : whileL fc fb n ρ ≠ .bad) : mWhile fc fb ρ = whileL fc fb n ρ := by
  have hx : ∃ n, whileL fc fb n ρ ≠ .bad := ⟨n, h⟩
  unfold mWhile
  rw [dif_pos hx]
  have h2 := Classical.choose_spec hx
  rcases Nat.le_total n (Classical.choose hx) with q | q
  · obtain ⟨k, e⟩ := Nat.exists_eq_add_of_le q
    rw [e]; exact whileL_more h k
  · obtain ⟨k, e⟩ := Nat.exists_eq_add_of_le q
    have := whileL_more h2 k
    rw [← e] at this
    exact this.symm
section
variable {X : Cx} {E : EK} {pos : Pos} {c : Expr} {body : List Stmt} {fx : List Nat}
theorem qs_while {fc : M Bool} {fb : M Fl} (hp : PassesOwn (model X.prog X.w) X.A X.env X.xe) (hc : PT X c (TB X.K E fc)) (hb : PSs X body (TSt X.K E fx fb)) : PS X (.While c body [] pos) (TSt X.K E fx (mWhile fc fb)) :=
  PS.imp (ps_while hp hc hb) fun D σ H ⟨F, ρ, gd, go⟩ => by
    have hx : ∃ n, whileL fc fb n ρ ≠ .bad := by
      by_cases h : ∃ n, whileL fc fb n ρ ≠ .bad
      · exact h
      · exfalso
        unfold GoS mWhile at go
        rw [dif_neg h] at go
        exact go
    obtain ⟨n, hn⟩ := hx
    have go' : GoS X.K E fx (whileL fc fb n) σ F H ρ (Cf X.K D σ ρ H) := by
      unfold GoS at go ⊢
      rw [mWhile_eq hn] at go
      exact go
    refine ⟨fun m σ' H' => ∃ F' ρ', StepS X.K fx σ ρ F H σ' ρ' F' H' ∧ GoS X.K E fx (whileL fc fb m) σ' F' H' ρ' (Cf X.K D σ ρ H), ⟨n, F, ρ, .refl gd, go'⟩, ?_⟩
    rintro m σ1 H1 ⟨F1, ρ1, s1, q⟩
    cases m with
    | zero => exact q.elim
    | succ m =>
      have q : GoS X.K E fx (fc >>= fun b => if b = true then (fb >>= fun fl => match fl with
        | .nx => whileL fc fb m
        | .ct => whileL fc fb m
        | .bk => pure .nx
        | .rt sv => pure (.rt sv)) else pure .nx) σ1 F1 H1 ρ1 (Cf X.K D σ ρ H) := q
      refine ⟨F1, ρ1, s1.good, (GoS.bindE q).mono ?_⟩
      rintro b ρ2 F2 H2 ⟨g2, s2, sub2, q2⟩
      have st2 : StepS X.K fx σ1 ρ1 F1 H1 σ1 ρ2 F2 H2 := .ofE g2 s2 sub2
      cases b with
      | false =>
        rw [if_neg (by decide)]
        simp only [Bool.false_eq_true, if_false] at q2
        exact GoS.pure (E := E) q2 g2
      | true =>
        rw [if_pos rfl]
        simp only [if_true] at q2
        refine ⟨fun σ' H' => ∃ F' ρ', StepS X.K fx σ ρ F H σ' ρ' F' H' ∧ GoS X.K E fx (whileL fc fb m) σ' F' H' ρ' (Cf X.K D σ ρ H), fun σ' H' h => ⟨m, Nat.lt_succ_self m, h⟩, F2, ρ2, g2, (GoS.bind q2).mono ?_⟩
        rintro fl σ3 ρ3 F3 H3 ⟨s3, q3⟩
        have all : StepS X.K fx σ ρ F H σ3 ρ3 F3 H3 := (s1.trans st2).trans s3
        cases fl with
        | nx => exact ⟨F3, ρ3, all, q3⟩
        | ct => exact ⟨F3, ρ3, all, q3⟩
        | bk => exact GoS.pure (E := E) q3 s3.good
        | rt sv =>
          have q4 := GoS.pure (E := E) q3 s3.good
          exact fun v hv => q4 v (hv.from ((s1.trans st2)))
end
/-! ### the least and the greatest of data -/
def alikeOk (ds : List PyData) : Bool := ds.all (fun a => ds.all (PySem.W.alike a ·)) && ds.all (fun d => !isNn d) && PyData.canLayAll0 ds && decide (PyData.depthAll ds ≤ 64)
theorem alikeOk_un {ds : List PyData} (h : alikeOk ds = true) : PySem.W.AlikeAll ds ∧ PyData.canLayAll0 ds = true ∧ PyData.depthAll ds ≤ 64 := by
  unfold alikeOk at h
  simp only [Bool.and_eq_true, decide_eq_true_eq, List.all_eq_true, Bool.not_eq_true'] at h
  exact ⟨⟨fun x hx y hy => h.1.1.1 x hx y hy, fun x hx => isNn_ne (h.1.1.2 x hx)⟩, h.1.2, h.2⟩
/-- the items' own best, as it stands -/
def rBest (K : PySem.W.Frag) (f : PyData → List PyData → PyData) : List V → Hp → VK → Prop := fun vs H Q => ∃ (a : Addr) (xs : List V) (d : PyData) (ds : List PyData), vs = [V.ref a] ∧ (SqL K H a xs ∨ SqT K H a xs) ∧ DpAll K H xs (d :: ds) ∧ alikeOk (d :: ds) = true ∧
  ∀ (i : Nat) (v : V), xs[i]? = some v → (d :: ds)[i]? = some (f d ds) → Q v H
theorem dpAll_at {K : PySem.W.Frag} {H : Hp} : ∀ {xs : List V} {ds : List PyData} {i : Nat} {v : V}, DpAll K H xs ds → xs[i]? = some v → ∃ d, ds[i]? = some d ∧ Dp K H v d
  | _, _, _, _, .nil, e => by simp at e
  | _, _, 0, _, .cons h _, e => by cases e; exact ⟨_, rfl, h⟩
  | _, _, i + 1, _, .cons _ t, e => dpAll_at (i := i) t (by simpa using e)
section
variable {X : Cx}
theorem canLay_at : ∀ {ds : List PyData} {i : Nat} {d : PyData}, PyData.canLayAll0 ds = true → ds[i]? = some d → d.canLay0 = true
  | [], _, _, _, e => by simp at e
  | x :: ds, 0, d, h, e => by
    cases e
    unfold PyData.canLayAll0 at h
    simp only [Bool.and_eq_true] at h
    exact h.1
  | x :: ds, i + 1, d, h, e => by
    unfold PyData.canLayAll0 at h
    simp only [Bool.and_eq_true] at h
    exact canLay_at (i := i) h.2 (by simpa using e)
theorem best_end {pins : List (Addr × Obj)} {σ : L2.St} {H : Hp} {s : Shared} {xs : List V} {us : List Value} {ds : List PyData} {i : Nat} {u : Value} {b : PyData} {bs : List Addr} {h' : Heap} {tk : Nat} {Q : VK}
    (I : Inv X pins σ H s) (rv : Vals xs us) (hd : DpAll X.K H xs ds) (hc : PyData.canLayAll0 ds = true) (hu : us[i]? = some u) (hr : Reads h' u b bs) (hk : ∀ b o, s.heap.get? b = some o → h'.get? b = some o)
    (q : ∀ (i : Nat) (v : V), xs[i]? = some v → ds[i]? = some b → Q v H) : EP X pins σ Q u { s with heap := h', toks := tk } := by
  have hi : i < xs.length := by
    rw [rv.length]
    exact (List.getElem?_eq_some_iff.mp hu).1
  obtain ⟨u', eu, ru⟩ := rv.get (List.getElem?_eq_getElem hi)
  rw [hu] at eu
  cases eu
  obtain ⟨d, ed, dp⟩ := dpAll_at hd (List.getElem?_eq_getElem hi)
  obtain ⟨as, r1⟩ := Dp.reads I d _ u dp ru
  have e : d = b := (PySem.Reads.unique (PySem.W.reads_keeps hk r1) _ _ hr).1
  exact ⟨_, H, I.kept hk, ru, q i _ (List.getElem?_eq_getElem hi) (e ▸ ed)⟩
theorem cr_minD (hc : X.calm = true) (hu : X.A.units + 66 < cLine) : CallR X (.builtin "min") (rBest X.K PySem.W.minD) := by
  intro pins s σ H vs us Q I r h
  obtain ⟨a, xs, d, ds, rfl, hs, hd, ok, q⟩ := h
  obtain ⟨al, cl, dp⟩ := alikeOk_un ok
  rw [Vals.ref1 r]
  have room : X.A.units + 1 + PyData.depthAll (d :: ds) < cLine := by omega
  rcases hs with hs | hs
  · obtain ⟨its, rv, hl, _⟩ := I.list hs
    obtain ⟨as, hr⟩ := Dp.readsAll I _ _ _ hd rv
    exact PySem.W.min_list_data (I.ok.hd hc) hl.isList (by simpa using hr) al room fun i v h' tk bs hv hR hk => best_end I rv hd cl (by simpa using hv) hR hk q
  · obtain ⟨its, rv, hl, _⟩ := I.tuple hs
    obtain ⟨as, hr⟩ := Dp.readsAll I _ _ _ hd rv
    exact PySem.W.min_tuple_data (I.ok.hd hc) (show s.heap.IsTuple a its.toArray from hl) (by simpa using hr) al room fun i v h' tk bs hv hR hk => best_end I rv hd cl (by simpa using hv) hR hk q
theorem cr_maxD (hc : X.calm = true) (hu : X.A.units + 66 < cLine) : CallR X (.builtin "max") (rBest X.K PySem.W.maxD) := by
  intro pins s σ H vs us Q I r h
  obtain ⟨a, xs, d, ds, rfl, hs, hd, ok, q⟩ := h
  obtain ⟨al, cl, dp⟩ := alikeOk_un ok
  rw [Vals.ref1 r]
  have room : X.A.units + 1 + PyData.depthAll (d :: ds) < cLine := by omega
  rcases hs with hs | hs
  · obtain ⟨its, rv, hl, _⟩ := I.list hs
    obtain ⟨as, hr⟩ := Dp.readsAll I _ _ _ hd rv
    exact PySem.W.max_list_data (I.ok.hd hc) hl.isList (by simpa using hr) al room fun i v h' tk bs hv hR hk => best_end I rv hd cl (by simpa using hv) hR hk q
  · obtain ⟨its, rv, hl, _⟩ := I.tuple hs
    obtain ⟨as, hr⟩ := Dp.readsAll I _ _ _ hd rv
    exact PySem.W.max_tuple_data (I.ok.hd hc) (show s.heap.IsTuple a its.toArray from hl) (by simpa using hr) al room fun i v h' tk bs hv hR hk => best_end I rv hd cl (by simpa using hv) hR hk q
end
def gBest (f : PyData → List PyData → PyData) : List PyData → Option SV
  | [.list (d :: ds)] => if alikeOk (d :: ds) = true then some (frv (f d ds)) else none
  | [.tuple (d :: ds)] => if alikeOk (d :: ds) = true then some (frv (f d ds)) else none
  | _ => none
theorem gBest_list {f : PyData → List PyData → PyData} {d : PyData} {ds : List PyData} (h : alikeOk (d :: ds) = true) : gBest f [.list (d :: ds)] = some (frv (f d ds)) := if_pos h
theorem gBest_tuple {f : PyData → List PyData → PyData} {d : PyData} {ds : List PyData} (h : alikeOk (d :: ds) = true) : gBest f [.tuple (d :: ds)] = some (frv (f d ds)) := if_pos h
section
variable {K : PySem.W.Frag} {F F' F0 F1 F2 W : Reg} {H H' H0 H1 H2 : Hp}
theorem RpL.dpAll {xs : List V} {ds : List PyData} (c : PyData.canLayAll0 ds = true) (r : RpL K F H xs ds) : DpAll K H xs ds := RpL.dp ds xs c r
theorem caG_best {f : PyData → List PyData → PyData} : CaG K (rBest K f) (gBest f) := by
  intro F H vs ds sv Q al hv e q
  have fin : ∀ {a : Addr} {xs : List V} {d : PyData} {ds : List PyData}, (SqL K H a xs ∨ SqT K H a xs) → RpL K F H xs (d :: ds) → (if alikeOk (d :: ds) = true then some (frv (f d ds)) else none) = some sv → rBest K f [.ref a] H Q := by
    intro a xs d ds hs r e
    split at e
    · rename_i h
      cases e
      obtain ⟨_, cl, _⟩ := alikeOk_un h
      refine ⟨a, xs, d, ds, rfl, hs, r.dpAll cl, h, fun i v ev ed => ?_⟩
      obtain ⟨d', ed', rd⟩ := RpL.get r ev
      rw [ed] at ed'
      cases ed'
      exact q.fr al rd
    · cases e
  cases hv with
  | nil => simp [gBest] at e
  | cons h t =>
    rename_i a d _ ds
    cases t with
    | cons _ _ =>
      exfalso
      unfold gBest at e
      split at e <;> simp_all
    | nil =>
      unfold gBest at e
      split at e
      · rename_i d' ds' hh
        cases hh
        obtain ⟨b, xs, rfl, hb, r⟩ := h.sql
        exact fin (.inl hb) r e
      · rename_i d' ds' hh
        cases hh
        obtain ⟨b, xs, rfl, hb, r⟩ := h.tuple
        exact fin (.inr (SqT.of hb)) r e
      · cases e
end
/-! ### list and tuple of a range -/
def rgOk (a b : Int) : Bool := decide (-(2 ^ 62) ≤ a) && decide (a < 2 ^ 62) && decide (-(2 ^ 62) ≤ b) && decide (b < 2 ^ 62) && decide ((b - a).toNat ≤ 2 ^ 24)
def gRgL (a b : Int) : Option SV := if rgOk a b then some ⟨.list (rgD a (b - a).toNat), .ow⟩ else none
def gRgT (a b : Int) : Option SV := if rgOk a b then some (frv (.tuple (rgD a (b - a).toNat))) else none
def mRgV1 (g : Int → Int → Option SV) (fa : M Opd) : M SV := do
  let o ← fa
  let sv ← rslv o
  match sv.d with
  | .int n => lift (g 0 n)
  | _ => M.bad
def mRgV2 (g : Int → Int → Option SV) (fa fb : M Opd) : M SV := do
  let o ← fa
  let o2 ← fb
  let sv ← rslv o
  let sv2 ← rslv o2
  match sv.d, sv2.d with
  | .int m, .int n => lift (g m n)
  | _, _ => M.bad
section
variable {K : PySem.W.Frag} {F F' F0 F1 F2 W : Reg} {H H' H0 H1 H2 : Hp} {σ σ' : L2.St} {ρ ρ' ρ1 ρ2 : PEnv} {E : EK}
theorem rgOk_un {a b : Int} (h : rgOk a b = true) : RgOk a b := by
  unfold rgOk at h
  simp only [Bool.and_eq_true, decide_eq_true_eq] at h
  exact ⟨h.1.1.1.1, h.1.1.1.2, h.1.1.2, h.1.2, h.2⟩
/-- what a range gives -/
def RgG (K : PySem.W.Frag) (g : Int → Int → Option SV) (r : Int → Int → Hp → VK → Prop) : Prop := ∀ (F : Reg) (H : Hp) (a b : Int) (sv : SV) (Q : VK), (∀ a, F a → H a ≠ none) → g a b = some sv → Ret K F H sv Q → r a b H Q
theorem rgG_L : RgG K gRgL fun a b H1 Q => RgOk a b ∧ ∀ q, H1 q = none → Q (.ref q) (upd H1 q (.lst (rgV a b))) := by
  intro F H a b sv Q al e q
  unfold gRgL at e
  split at e
  · rename_i h
    cases e
    exact ⟨rgOk_un h, q.lst al rgV_rp⟩
  · cases e
theorem rgG_T : RgG K gRgT fun a b H1 Q => RgOk a b ∧ ∀ q, H1 q = none → Q (.ref q) (upd H1 q (.tup (rgV a b))) := by
  intro F H a b sv Q al e q
  unfold gRgT at e
  split at e
  · rename_i h
    cases e
    exact ⟨rgOk_un h, q.tup al rgV_rp⟩
  · cases e
theorem rg1_of {g : Int → Int → Option SV} {r : Int → Int → Hp → VK → Prop} {fa : M Opd} {Q : VK} (hg : RgG K g r) (h : TV K E (mRgV1 g fa) σ H Q) : tRg1 (TO K E fa) σ H fun a b H1 => r a b H1 Q := by
  obtain ⟨F, ρ, gd, go⟩ := h
  refine ⟨F, ρ, gd, (Go.bind go).mono ?_⟩
  rintro oa ρ1 F1 H1 ⟨g1, s1, sub1, go1⟩ x hx
  obtain ⟨⟨d, o⟩, ex, go2⟩ := Go.rsl go1
  cases d with
  | int n =>
    obtain ⟨sv, e, fin⟩ := Go.lift go2
    exact ⟨n, (hx.ro' g1 ex).int, hg F1 H1 0 n sv Q g1.al e (Ret.of g1 s1 sub1 fin)⟩
  | _ => exact go2.elim
theorem rg2_of {g : Int → Int → Option SV} {r : Int → Int → Hp → VK → Prop} {fa fb : M Opd} {Q : VK} (hg : RgG K g r) (h : TV K E (mRgV2 g fa fb) σ H Q) : tRg2 (TO K E fa) (TO K E fb) σ H fun a b H1 => r a b H1 Q := by
  obtain ⟨F, ρ, gd, go⟩ := h
  refine ⟨F, ρ, gd, (Go.bind go).mono ?_⟩
  rintro oa ρ1 F1 H1 ⟨g1, s1, sub1, go1⟩ x hx
  refine ⟨F1, ρ1, g1, (Go.bind go1).mono ?_⟩
  rintro ob ρ2 F2 H2 ⟨g2, s2, sub2, go2⟩ y hy
  obtain ⟨⟨d, o⟩, ex, go3⟩ := Go.rsl go2
  obtain ⟨⟨d2, o2⟩, ey, go4⟩ := Go.rsl go3
  have hx2 := (hx.step g1 s2 sub2).ro' g2 ex
  have hy2 := hy.ro' g2 ey
  cases d with
  | int m =>
    cases d2 with
    | int n =>
      obtain ⟨sv, e, fin⟩ := Go.lift go4
      exact ⟨m, n, hx2.int, hy2.int, hg F2 H2 m n sv Q g2.al e (Ret.of g2 (s1.trans s2 fun a z => .inl (sub1.own a z)) (sub1.trans sub2) fin)⟩
    | _ => exact go4.elim
  | _ => exact go4.elim
end
section
variable {X : Cx} {E : EK} {p pr pos posr : Pos} {a b : Expr}
theorem qe_listR1 {fa : M Opd} (hc : X.calm = true) (hg : Gl X "list") (hm : X.mg "list" = none) (hgr : Gl X "range") (hmr : X.mg "range" = none) (ha : PE X a (TO X.K E fa)) (na : starEach [a] X.env = (false, eval a X.env) :: starEach [] X.env)
    (ne : starEach [.Call (.Name "range" pr) [a] [] posr] X.env = (false, eval (.Call (.Name "range" pr) [a] [] posr) X.env) :: starEach [] X.env) : PE X (.Call (.Name "list" p) [.Call (.Name "range" pr) [a] [] posr] [] pos) (TV X.K E (mRgV1 gRgL fa)) :=
  PE.imp (pe_listRg hc hg hm (prg_1 hgr hmr ha na) ne) fun _ _ _ q => rg1_of rgG_L q
theorem qe_listR2 {fa fb : M Opd} (hc : X.calm = true) (hg : Gl X "list") (hm : X.mg "list" = none) (hgr : Gl X "range") (hmr : X.mg "range" = none) (ha : PE X a (TO X.K E fa)) (hb : PE X b (TO X.K E fb)) (na : starEach [a, b] X.env = (false, eval a X.env) :: starEach [b] X.env)
    (nb : starEach [b] X.env = (false, eval b X.env) :: starEach [] X.env) (hp : (backTo posr (starEach [b] X.env)).any (·.1) = false)
    (ne : starEach [.Call (.Name "range" pr) [a, b] [] posr] X.env = (false, eval (.Call (.Name "range" pr) [a, b] [] posr) X.env) :: starEach [] X.env) : PE X (.Call (.Name "list" p) [.Call (.Name "range" pr) [a, b] [] posr] [] pos) (TV X.K E (mRgV2 gRgL fa fb)) :=
  PE.imp (pe_listRg hc hg hm (prg_2 hgr hmr ha hb na nb hp) ne) fun _ _ _ q => rg2_of rgG_L q
theorem qe_tupR1 {fa : M Opd} (hc : X.calm = true) (hg : Gl X "tuple") (hm : X.mg "tuple" = none) (hgr : Gl X "range") (hmr : X.mg "range" = none) (ha : PE X a (TO X.K E fa)) (na : starEach [a] X.env = (false, eval a X.env) :: starEach [] X.env)
    (ne : starEach [.Call (.Name "range" pr) [a] [] posr] X.env = (false, eval (.Call (.Name "range" pr) [a] [] posr) X.env) :: starEach [] X.env) : PE X (.Call (.Name "tuple" p) [.Call (.Name "range" pr) [a] [] posr] [] pos) (TV X.K E (mRgV1 gRgT fa)) :=
  PE.imp (pe_tupRg hc hg hm (prg_1 hgr hmr ha na) ne) fun _ _ _ q => rg1_of rgG_T q
theorem qe_tupR2 {fa fb : M Opd} (hc : X.calm = true) (hg : Gl X "tuple") (hm : X.mg "tuple" = none) (hgr : Gl X "range") (hmr : X.mg "range" = none) (ha : PE X a (TO X.K E fa)) (hb : PE X b (TO X.K E fb)) (na : starEach [a, b] X.env = (false, eval a X.env) :: starEach [b] X.env)
    (nb : starEach [b] X.env = (false, eval b X.env) :: starEach [] X.env) (hp : (backTo posr (starEach [b] X.env)).any (·.1) = false)
    (ne : starEach [.Call (.Name "range" pr) [a, b] [] posr] X.env = (false, eval (.Call (.Name "range" pr) [a, b] [] posr) X.env) :: starEach [] X.env) : PE X (.Call (.Name "tuple" p) [.Call (.Name "range" pr) [a, b] [] posr] [] pos) (TV X.K E (mRgV2 gRgT fa fb)) :=
  PE.imp (pe_tupRg hc hg hm (prg_2 hgr hmr ha hb na nb hp) ne) fun _ _ _ q => rg2_of rgG_T q
end
end Pv

set_option maxRecDepth 100000
/-! Pv, part R: list(zip(a, b)). -/
namespace Pv
open PySem PySem.Spec L2
theorem zip_nolen : typeLookup (.type "zip") "__len__" = pure none := by rw [typeLookup_type, builtinLookup_eq_fast]; kernel_rfl
theorem zip_nohint : typeLookup (.type "zip") "__length_hint__" = pure none := by rw [typeLookup_type, builtinLookup_eq_fast]; kernel_rfl
section
variable {prog : Program} {w : World} {A : Around} {E : Value → Shared → Prop} {s : Shared} {z TI TO T i1 i2 : Addr} {fp1 fp2 : List Addr} {n1 n2 i : Nat} {P1 P2 : Nat → Value → Prop} {St1 St2 : Nat → Heap → Prop} {f : Bool} {oT : Obj}
theorem zipH_item {Q : Value → Shared → Prop} (S : ZipSep2 z TI TO i1 i2 fp1 fp2) (D1 : Draws prog w A i1 fp1 n1 P1 St1) (D2 : Draws prog w A i2 fp2 n2 P2 St2)
    (hz : IsZipHeld s.heap z TI TO T f) (hT : s.heap.get? T = some oT) (hTI : IsTupOf2 s.heap TI (.ref i1) (.ref i2)) (st1 : St1 i s.heap) (st2 : St2 i s.heap) (hlt1 : i < n1) (hlt2 : i < n2)
    (hQ : ∀ x1 x2 h' tk, P1 i x1 → P2 i x2 → IsZipHeld h' z TI TO T true → St1 (i + 1) h' → St2 (i + 1) h' → IsTupOf2 h' s.heap.objs.size x1 x2 → h'.objs.size = s.heap.objs.size + 1 →
      (∀ c o, c ≠ z → c ≠ i1 → c ≠ i2 → s.heap.get? c = some o → h'.get? c = some o) → Q (.ref s.heap.objs.size) { s with heap := h', toks := tk }) :
    wpAny (model prog w) A (Builtin.«zip.__next__» ⟨[.ref z], []⟩) (fun fin s' => ∃ v, fin = .done (.ret v) ∧ Q v s') E s := by
  obtain ⟨hp, g, d, tk0, os⟩ := s
  show wpAny _ _ (field (.ref z) 2 >>= _) _ _ _
  refine wpAny_bind (wpAny_field hz rfl (x := .bool false) rfl ?_)
  show wpAny _ _ (field (.ref z) 3 >>= _) _ _ _
  refine wpAny_bind (wpAny_field hz rfl (x := .ref TI) rfl ?_)
  refine wpAny_bind (wpAny_seqItems hTI rfl ?_)
  show wpAny _ _ (Builtin.SmallTypes.ownedTupleIsFree (.ref z) >>= _) _ _ _
  refine wpAny_bind (wpAny_tupleHeld_zip hz hT fun h₁ hz₁ hs₁ => ?_)
  replace hs₁ : Heap.SameBut z hp h₁ := hs₁
  simp only [Bool.false_eq_true, if_false]
  refine wpAny_bind ?_
  rw [← Array.forIn_toList]
  simp only [List.forIn_cons, List.forIn_nil]
  refine wpAny_bind (wpAny_bind (wpAny_holding ?_))
  show wpAny _ _ (Builtin.SmallTypes.nextOf (.ref i1) >>= _) _ _ ⟨h₁, g, d, tk0, os⟩
  refine wpAny_bind (D1.item i _ _ _ hlt1 (D1.over st1 hs₁ S.zf1) fun x1 h₂ tk1 hx1 sn1 hs₂ => wpAny_pure ?_)
  replace hs₂ : Heap.SameBut i1 h₁ h₂ := hs₂
  refine wpAny_pure ?_
  refine wpAny_bind (wpAny_bind (wpAny_holding ?_))
  show wpAny _ _ (Builtin.SmallTypes.nextOf (.ref i2) >>= _) _ _ ⟨h₂, g, d, tk1, os⟩
  refine wpAny_bind (D2.item i _ _ _ hlt2 (D2.over (D2.over st2 hs₁ S.zf2) hs₂ S.sep1_2) fun x2 h₃ tk2 hx2 sn2 hs₃ => wpAny_pure ?_)
  replace hs₃ : Heap.SameBut i2 h₂ h₃ := hs₃
  refine wpAny_pure (wpAny_pure ?_)
  show wpAny _ _ (newTuple [x1, x2] >>= _) _ _ ⟨h₃, g, d, tk2, os⟩
  refine wpAny_bind (wpAny_newTuple ?_)
  have hsz : h₃.objs.size = hp.objs.size := by rw [hs₃.1, hs₂.1, hs₁.1]
  have hz₃ : IsZipHeld h₃ z TI TO T true := hs₃.extBut _ _ S.zi2 (hs₂.extBut _ _ S.zi1 hz₁)
  have hk : ∀ c o, c ≠ z → c ≠ i1 → c ≠ i2 → hp.get? c = some o → h₃.get? c = some o := fun c o c1 c2 c3 e => hs₃.extBut _ _ c3 (hs₂.extBut _ _ c2 (hs₁.extBut _ _ c1 e))
  have sn1' : St1 (i + 1) h₃ := D1.over sn1 hs₃ S.sep2_1
  refine wpAny_pure ⟨_, rfl, ?_⟩
  show Q (.ref h₃.objs.size) _
  have hp' : IsTupOf2 (h₃.push { cls := .type "tuple", data := .seq #[x1, x2] }) h₃.objs.size x1 x2 := Heap.get?_push_size _ rfl
  have hz4 : (h₃.push { cls := .type "tuple", data := .seq #[x1, x2] }).objs.size = h₃.objs.size + 1 := Heap.size_push ..
  rw [hsz] at hp' hz4 ⊢
  exact hQ x1 x2 _ tk2 hx1 hx2 (Heap.get?_push_of_some _ hz₃) (D1.frame _ _ _ sn1' fun b _ o e => Heap.get?_push_of_some _ e) (D2.frame _ _ _ sn2 fun b _ o e => Heap.get?_push_of_some _ e) hp' hz4 fun c o c1 c2 c3 e => Heap.get?_push_of_some _ (hk c o c1 c2 c3 e)
theorem zipH_end {Q : Fin → Shared → Prop} (S : ZipSep2 z TI TO i1 i2 fp1 fp2) (D1 : Draws prog w A i1 fp1 n1 P1 St1) (D2 : Draws prog w A i2 fp2 n2 P2 St2)
    (hz : IsZipHeld s.heap z TI TO T f) (hT : s.heap.get? T = some oT) (hTI : IsTupOf2 s.heap TI (.ref i1) (.ref i2)) (st1 : St1 i s.heap) (st2 : St2 i s.heap) (hle1 : i ≤ n1) (hle2 : i ≤ n2) (hend : i = n1 ∨ i = n2)
    (hE : ∀ h' tk e, (∀ c o, c ≠ z → c ≠ i1 → c ≠ i2 → s.heap.get? c = some o → h'.get? c = some o) → (∃ o, h'.get? e = some o ∧ o.cls = .type "StopIteration") → E (.ref e) { s with heap := h', toks := tk }) :
    wpAny (model prog w) A (Builtin.«zip.__next__» ⟨[.ref z], []⟩) Q E s := by
  obtain ⟨hp, g, d, tk0, os⟩ := s
  show wpAny _ _ (field (.ref z) 2 >>= _) _ _ _
  refine wpAny_bind (wpAny_field hz rfl (x := .bool false) rfl ?_)
  show wpAny _ _ (field (.ref z) 3 >>= _) _ _ _
  refine wpAny_bind (wpAny_field hz rfl (x := .ref TI) rfl ?_)
  refine wpAny_bind (wpAny_seqItems hTI rfl ?_)
  show wpAny _ _ (Builtin.SmallTypes.ownedTupleIsFree (.ref z) >>= _) _ _ _
  refine wpAny_bind (wpAny_tupleHeld_zip hz hT fun h₁ hz₁ hs₁ => ?_)
  replace hs₁ : Heap.SameBut z hp h₁ := hs₁
  simp only [Bool.false_eq_true, if_false]
  refine wpAny_bind ?_
  rw [← Array.forIn_toList]
  simp only [List.forIn_cons, List.forIn_nil]
  refine wpAny_bind (wpAny_bind (wpAny_holding ?_))
  show wpAny _ _ (Builtin.SmallTypes.nextOf (.ref i1) >>= _) _ _ ⟨h₁, g, d, tk0, os⟩
  by_cases hlt1 : i < n1
  · refine wpAny_bind (D1.item i _ _ _ hlt1 (D1.over st1 hs₁ S.zf1) fun x1 h₂ tk1 hx1 sn1 hs₂ => wpAny_pure ?_)
    replace hs₂ : Heap.SameBut i1 h₁ h₂ := hs₂
    refine wpAny_pure ?_
    refine wpAny_bind (wpAny_bind (wpAny_holding ?_))
    show wpAny _ _ (Builtin.SmallTypes.nextOf (.ref i2) >>= _) _ _ ⟨h₂, g, d, tk1, os⟩
    have hi2 : i = n2 := by omega
    refine wpAny_bind (D2.done ⟨h₂, g, d, tk1, os⟩ _ _ (by rw [← hi2]; exact D2.over (D2.over st2 hs₁ S.zf2) hs₂ S.sep1_2) fun q e hq he => ?_)
    exact hE q tk1 e (fun c o c1 c2 c3 x => hq _ _ c3 (hs₂.extBut _ _ c2 (hs₁.extBut _ _ c1 x))) he
  · have hi1 : i = n1 := by omega
    refine wpAny_bind (D1.done ⟨h₁, g, d, tk0, os⟩ _ _ (by rw [← hi1]; exact D1.over st1 hs₁ S.zf1) fun q e hq he => ?_)
    exact hE q tk0 e (fun c o c1 c2 _ x => hq _ _ c2 (hs₁.extBut _ _ c1 x)) he
end
/-- a zip's own state: its tuple not yet out, or out and still there -/
def ZSt (h : Heap) (z TI TO i1 i2 : Addr) : Prop := (IsZip h z TI TO .none ∧ ∃ a1 a2, IsTupOf2 h TO a1 a2) ∨ ∃ T f oT, IsZipHeld h z TI TO T f ∧ h.get? T = some oT ∧ T ≠ z ∧ T ≠ i1 ∧ T ≠ i2
section
variable {prog : Program} {w : World} {A : Around} {E : Value → Shared → Prop} {s : Shared} {z TI TO T i1 i2 : Addr} {fp1 fp2 : List Addr} {n1 n2 i : Nat} {P1 P2 : Nat → Value → Prop} {St1 St2 : Nat → Heap → Prop} {f : Bool} {oT : Obj}
theorem ZSt.ty (h : ZSt s.heap z TI TO i1 i2) : s.TypeIs (.ref z) "zip" := by
  rcases h with ⟨h, _⟩ | ⟨T, f, oT, h, _⟩
  · exact ⟨_, h, rfl⟩
  · exact ⟨_, h, rfl⟩
theorem zs_item {Q : Option Value → Shared → Prop} (S : ZipSep2 z TI TO i1 i2 fp1 fp2) (D1 : Draws prog w A.in1 i1 fp1 n1 P1 St1) (D2 : Draws prog w A.in1 i2 fp2 n2 P2 St2)
    (hz : ZSt s.heap z TI TO i1 i2) (hTI : IsTupOf2 s.heap TI (.ref i1) (.ref i2)) (st1 : St1 i s.heap) (st2 : St2 i s.heap) (hlt1 : i < n1) (hlt2 : i < n2)
    (hQ : ∀ x1 x2 h' tk, P1 i x1 → P2 i x2 → ZSt h' z TI TO i1 i2 → St1 (i + 1) h' → St2 (i + 1) h' → IsTupOf2 h' s.heap.objs.size x1 x2 → h'.objs.size = s.heap.objs.size + 1 →
      (∀ c o, c ≠ z → c ≠ TO → c ≠ i1 → c ≠ i2 → s.heap.get? c = some o → h'.get? c = some o) → Q (some (.ref s.heap.objs.size)) { s with heap := h', toks := tk }) :
    wpAny (model prog w) A (pyNext (.ref z)) Q E s := by
  have l1 : i1 < s.heap.objs.size := by obtain ⟨o, e⟩ := D1.live _ _ st1; exact Heap.lt_size e
  have l2 : i2 < s.heap.objs.size := by obtain ⟨o, e⟩ := D2.live _ _ st2; exact Heap.lt_size e
  rcases hz with ⟨hz, a1, a2, hTO⟩ | ⟨T, f, oT, hz, hT, t1, t2, t3⟩
  · have lz : z < s.heap.objs.size := Heap.lt_size hz
    refine wpAny_pyNext_zipD2_item S D1 D2 hz hTI hTO st1 st2 hlt1 hlt2 fun x1 x2 h' tk p1 p2 z' to s1 s2 tp sz k => hQ x1 x2 h' tk p1 p2 (.inr ⟨_, _, _, z', tp, Nat.ne_of_gt lz, Nat.ne_of_gt l1, Nat.ne_of_gt l2⟩) s1 s2 tp sz k
  · have hTy : s.TypeIs (.ref z) "zip" := ⟨_, hz, rfl⟩
    unfold pyNext
    exact wpAny_bind (wpAny_attempt (wpAny_callSpecial?_slot (name := Str.ofString "__next__") hTy F.slot_zip_next
      (wpAny_call_entry F.slot_zip_next hTy F.entry_zip_next
        (zipH_item S D1 D2 hz hT hTI st1 st2 hlt1 hlt2 fun x1 x2 h' tk p1 p2 z' s1 s2 tp sz k => wpAny_pure (hQ x1 x2 h' tk p1 p2 (.inr ⟨_, _, _, z', k T _ t1 t2 t3 hT, t1, t2, t3⟩) s1 s2 tp sz fun c o c1 _ c3 c4 e => k c o c1 c3 c4 e)) (F.args_zip_next_1 _))))
theorem zs_end {Q : Option Value → Shared → Prop} (S : ZipSep2 z TI TO i1 i2 fp1 fp2) (D1 : Draws prog w A.in1 i1 fp1 n1 P1 St1) (D2 : Draws prog w A.in1 i2 fp2 n2 P2 St2)
    (hz : ZSt s.heap z TI TO i1 i2) (hTI : IsTupOf2 s.heap TI (.ref i1) (.ref i2)) (st1 : St1 i s.heap) (st2 : St2 i s.heap) (hle1 : i ≤ n1) (hle2 : i ≤ n2) (hend : i = n1 ∨ i = n2)
    (hQ : ∀ h' tk, (∀ c o, c ≠ z → c ≠ TO → c ≠ i1 → c ≠ i2 → s.heap.get? c = some o → h'.get? c = some o) → Q none { s with heap := h', toks := tk }) : wpAny (model prog w) A (pyNext (.ref z)) Q E s := by
  rcases hz with ⟨hz, a1, a2, hTO⟩ | ⟨T, f, oT, hz, hT, t1, t2, t3⟩
  · exact wpAny_pyNext_zipD2_end S D1 D2 hz hTI hTO st1 st2 hle1 hle2 hend hQ
  · have hTy : s.TypeIs (.ref z) "zip" := ⟨_, hz, rfl⟩
    unfold pyNext
    refine wpAny_bind (wpAny_attempt (wpAny_callSpecial?_slot (name := Str.ofString "__next__") hTy F.slot_zip_next
      (wpAny_call_entry F.slot_zip_next hTy F.entry_zip_next (zipH_end S D1 D2 hz hT hTI st1 st2 hle1 hle2 hend fun h' tk e hk he => ?_) (F.args_zip_next_1 _))))
    obtain ⟨o, ho, hc⟩ := he
    refine wpAny_bind (wpAny_isInstance (T := "StopIteration") (b := true) ⟨o, ho, hc⟩ isSubtype_stop ?_)
    exact wpAny_pure (hQ _ _ fun c o c1 _ c3 c4 e => hk c o c1 c3 c4 e)
theorem zs_iter {Q : Value → Shared → Prop} (hz : ZSt s.heap z TI TO i1 i2) (h : Q (.ref z) s) : wpAny (model prog w) A (pyIter (.ref z)) Q E s := by
  rcases hz with ⟨hz, _⟩ | ⟨T, f, oT, hz, _⟩
  · exact wpAny_pyIter_zip hz h
  · refine wpAny_pyIter_slot (s := s) (⟨_, hz, rfl⟩ : s.TypeIs (.ref z) "zip") F.slot_zip_iter (wpAny_call_entry F.slot_zip_iter ⟨_, hz, rfl⟩ F.entry_zip_iter ?_ (F.args_zip_iter_1 _))
    show wpAny _ _ (ret (.ref z)) _ _ s
    exact wpAny_pure ⟨_, rfl, "zip", _, ⟨_, hz, rfl⟩, F.slot_zip_next.lookup, h⟩
end
/-- the tuples given out so far -/
structure ZG (P1 P2 : Nat → Value → Prop) (lo : Addr) (h : Heap) (as : List Addr) : Prop where
  rise : as.Pairwise (· < ·)
  above : ∀ a ∈ as, lo < a
  pairs : ∀ (j : Nat) (a : Addr), as[j]? = some a → ∃ x y, P1 j x ∧ P2 j y ∧ IsTupOf2 h a x y
theorem ZG.there {P1 P2 : Nat → Value → Prop} {lo : Addr} {h : Heap} {as : List Addr} (g : ZG P1 P2 lo h as) {a : Addr} (ha : a ∈ as) : a < h.objs.size := by
  obtain ⟨j, hj⟩ := List.mem_iff_getElem?.mp ha
  obtain ⟨_, _, _, _, e⟩ := g.pairs j a hj
  exact Heap.lt_size e
/-- what the walk needs besides -/
structure ZW (prog : Program) (w : World) (z TI TO i1 i2 : Addr) (fp1 fp2 : List Addr) (n1 n2 : Nat) (P1 P2 : Nat → Value → Prop) (St1 St2 : Nat → Heap → Prop) : Prop where
  sep : ZipSep2 z TI TO i1 i2 fp1 fp2
  d1 : ∀ A : Around, A.handled = none → Draws prog w A i1 fp1 n1 P1 St1
  d2 : ∀ A : Around, A.handled = none → Draws prog w A i2 fp2 n2 P2 St2
structure ZAt (i : Nat) (h : Heap) (z TI TO i1 i2 : Addr) (St1 St2 : Nat → Heap → Prop) : Prop where
  zs : ZSt h z TI TO i1 i2
  ti : IsTupOf2 h TI (.ref i1) (.ref i2)
  s1 : St1 i h
  s2 : St2 i h
section
variable {prog : Program} {w : World} {A : Around} {E : Value → Shared → Prop} {s : Shared} {z TI TO T i1 i2 : Addr} {fp1 fp2 : List Addr} {n1 n2 i : Nat} {P1 P2 : Nat → Value → Prop} {St1 St2 : Nat → Heap → Prop} {R : Result → Shared → Prop}
/-- another list grows meanwhile -/
theorem ZAt.keep {h h' : Heap} {S : Addr} (W : ZW prog w z TI TO i1 i2 fp1 fp2 n1 n2 P1 P2 St1 St2) (hh : A.handled = none) (x : ZAt i h z TI TO i1 i2 St1 St2) (hS : S ≠ z ∧ S ≠ TI ∧ S ≠ TO ∧ S ∉ fp1 ∧ S ∉ fp2) (there : ∃ o, h'.get? S = some o) (k : ∀ b o, b ≠ S → h.get? b = some o → h'.get? b = some o) : ZAt i h' z TI TO i1 i2 St1 St2 := by
  obtain ⟨n1', n2', n3', n4', n5'⟩ := hS
  refine ⟨?_, k _ _ n2'.symm x.ti, (W.d1 A hh).frame _ _ _ x.s1 fun b hb o e => k b o (fun q => n4' (q ▸ hb)) e, (W.d2 A hh).frame _ _ _ x.s2 fun b hb o e => k b o (fun q => n5' (q ▸ hb)) e⟩
  rcases x.zs with ⟨a, b, c, d⟩ | ⟨T, f, oT, a, b, c⟩
  · exact .inl ⟨k _ _ n1'.symm a, b, c, k _ _ n3'.symm d⟩
  · by_cases e : T = S
    · subst e
      obtain ⟨o, eo⟩ := there
      exact .inr ⟨T, f, o, k _ _ n1'.symm a, eo, c⟩
    · exact .inr ⟨T, f, oT, k _ _ n1'.symm a, k _ _ e b, c⟩
theorem zl_loop {S : Addr} (hh : A.handled = none) (W : ZW prog w z TI TO i1 i2 fp1 fp2 n1 n2 P1 P2 St1 St2) (hS : S ≠ z ∧ S ≠ TI ∧ S ≠ TO ∧ S ∉ fp1 ∧ S ∉ fp2) (hn : min n1 n2 ≤ sizeLine) (res : Value) {h₁ : Heap} {lo : Addr} (hlo : ∀ b ∈ [S, z, TO, i1, i2], b ≤ lo)
    (hR : ∀ h' tk acc c as, (∀ b o, b ≠ S → b ≠ z → b ≠ TO → b ≠ i1 → b ≠ i2 → h₁.get? b = some o → h'.get? b = some o) → h'.get? S = some { cls := .type "list", dict := none, data := .seq acc c, slots := #[] } → as.length = min n1 n2 → ZG P1 P2 lo h' as →
      acc.toList = as.map Value.ref → R (.ok (.ret res)) { s with heap := h', toks := tk }) :
    ∀ (k i : Nat) (h : Heap) (tk c : Nat) (acc : Array Value) (as : List Addr), min n1 n2 - i = k → i ≤ min n1 n2 → ZAt i h z TI TO i1 i2 St1 St2 → (∀ b o, b ≠ S → b ≠ z → b ≠ TO → b ≠ i1 → b ≠ i2 → h₁.get? b = some o → h.get? b = some o) →
      h.get? S = some { cls := .type "list", dict := none, data := .seq acc c, slots := #[] } → acc.toList = as.map Value.ref → as.length = i → ZG P1 P2 lo h as → lo < h.objs.size →
      codeAny (model prog w) A (.builtin "list.extend.loop" ⟨[.ref S, .ref z, res], []⟩) R { s with heap := h, toks := tk } := by
  have i1m := W.sep.mem1
  have i2m := W.sep.mem2
  obtain ⟨q1, q2, q3, q4, q5⟩ := id hS
  have si1 : S ≠ i1 := fun e => q4 (e ▸ i1m)
  have si2 : S ≠ i2 := fun e => q5 (e ▸ i2m)
  have hlS : S ≤ lo := hlo S (by simp)
  have old : ∀ a, lo < a → a ≠ z ∧ a ≠ TO ∧ a ≠ i1 ∧ a ≠ i2 := fun a la => by
    have e1 := hlo z (by simp)
    have e2 := hlo TO (by simp)
    have e3 := hlo i1 (by simp)
    have e4 := hlo i2 (by simp)
    exact ⟨fun e => absurd (e ▸ la) (Nat.not_lt.mpr e1), fun e => absurd (e ▸ la) (Nat.not_lt.mpr e2), fun e => absurd (e ▸ la) (Nat.not_lt.mpr e3), fun e => absurd (e ▸ la) (Nat.not_lt.mpr e4)⟩
  intro k
  induction k with
  | zero =>
    intro i h tk c acc as hk hi hst hkeep hSo hacc hal hG hIs
    have hin : i = min n1 n2 := by omega
    refine codeAny_builtin PySem.F.entry_extend_loop ?_
    rw [Around.under_plainId PySem.F.plain_extend_loop _]
    show wpAny _ A.in1 (pyNext (.ref z) >>= _) _ _ _
    refine wpAny_bind (zs_end (s := { s with heap := h, toks := tk }) (A := A.in1) (i := i) W.sep (W.d1 _ hh) (W.d2 _ hh) hst.zs hst.ti hst.s1 hst.s2 (by omega) (by omega) (by omega) fun h' tk' he => ?_)
    refine wpAny_pure (hR h' tk' acc c as (fun b o b1 b2 b3 b4 b5 e => he b o b2 b3 b4 b5 (hkeep b o b1 b2 b3 b4 b5 e)) (he S _ q1 q3 si1 si2 hSo) (by omega) ⟨hG.rise, hG.above, fun j a hj => ?_⟩ hacc)
    obtain ⟨x, y, p1, p2, e3⟩ := hG.pairs j a hj
    obtain ⟨o1, o2, o3, o4⟩ := old a (hG.above a (List.mem_of_getElem? hj))
    exact ⟨x, y, p1, p2, he a _ o1 o2 o3 o4 e3⟩
  | succ k ih =>
    intro i h tk c acc as hk hi hst hkeep hSo hacc hal hG hIs
    have hlt : i < min n1 n2 := by omega
    have hsz : acc.size = i := by rw [← Array.length_toList, hacc, List.length_map, hal]
    refine codeAny_builtin PySem.F.entry_extend_loop ?_
    rw [Around.under_plainId PySem.F.plain_extend_loop _]
    show wpAny _ A.in1 (pyNext (.ref z) >>= _) _ _ _
    refine wpAny_bind (zs_item (s := { s with heap := h, toks := tk }) (A := A.in1) (i := i) W.sep (W.d1 _ hh) (W.d2 _ hh) hst.zs hst.ti hst.s1 hst.s2 (by omega) (by omega) fun x1 x2 h' tk' p1 p2 z' s1' s2' ht hz hkp => ?_)
    dsimp only at ht hz hkp ⊢
    have hS' := hkp S _ q1 q3 si1 si2 hSo
    have up : ∀ b o, b ≠ S → h'.get? b = some o → (h'.update S (Obj.mapSeq (·.push (Value.ref h.objs.size)))).get? b = some o := fun b o hb e => (Heap.get?_update_other _ _ (Ne.symm hb)).trans e
    have hSl : S < h.objs.size := Heap.lt_size hSo
    have hTI' : IsTupOf2 h' TI (.ref i1) (.ref i2) := hkp TI _ W.sep.TIz W.sep.TITO W.sep.TIi1 W.sep.TIi2 hst.ti
    have hat : ZAt (i + 1) h' z TI TO i1 i2 St1 St2 := ⟨z', hTI', s1', s2'⟩
    show wpAny _ A.in1 (updateSeq S (·.push (Value.ref h.objs.size)) >>= _) _ _ _
    refine wpAny_bind ?_
    refine wpAny_updateSeq hS' rfl (wpAny_pure ⟨plainId_quiet PySem.F.plain_extend_loop _, ih (i + 1) _ tk' _ (acc.push (Value.ref h.objs.size)) (as ++ [h.objs.size]) (by omega) hlt ?_
      (fun b o b1 b2 b3 b4 b5 e => up b o b1 (hkp b o b2 b3 b4 b5 (hkeep b o b1 b2 b3 b4 b5 e))) (Heap.get?_update_self _ hS' rfl) (by rw [Array.toList_push, hacc, List.map_append]; rfl) (by rw [List.length_append, hal]; rfl) ⟨?_, ?_, ?_⟩ ?_⟩) (by rw [hsz]; omega) (by show (acc.push (Value.ref h.objs.size)).size ≤ sizeLine + 1; rw [Array.size_push, hsz]; omega)
    · exact hat.keep W hh hS ⟨_, Heap.get?_update_self _ hS' rfl⟩ up
    · refine List.pairwise_append.mpr ⟨hG.rise, List.pairwise_singleton _ _, fun a ha b hb => ?_⟩
      rw [List.mem_singleton.mp hb]
      exact hG.there ha
    · intro a ha
      rcases List.mem_append.mp ha with ha | ha
      · exact hG.above a ha
      · rw [List.mem_singleton.mp ha]; exact hIs
    · intro j b hj
      rcases Nat.lt_trichotomy j as.length with h1 | h1 | h1
      · rw [List.getElem?_append_left h1] at hj
        obtain ⟨x, y, p1', p2', e3⟩ := hG.pairs j b hj
        have hb := hG.above b (List.mem_of_getElem? hj)
        obtain ⟨o1, o2, o3, o4⟩ := old b hb
        exact ⟨x, y, p1', p2', up b _ (Nat.ne_of_gt (Nat.lt_of_le_of_lt hlS hb)) (hkp b _ o1 o2 o3 o4 e3)⟩
      · subst h1
        have hb : h.objs.size = b := by simpa using hj
        subst hb
        subst hal
        exact ⟨x1, x2, p1, p2, up _ _ (Nat.ne_of_gt hSl) ht⟩
      · have hnone : (as ++ [h.objs.size])[j]? = none := List.getElem?_eq_none (by rw [List.length_append, List.length_singleton]; omega)
        rw [hnone] at hj; cases hj
    · have e : (h'.update S (Obj.mapSeq (·.push (Value.ref h.objs.size)))).get? h.objs.size = _ := up _ _ (Nat.ne_of_gt hSl) ht
      exact Nat.lt_trans hIs (Heap.lt_size e)
theorem zl_extend {S : Addr} (hh : A.handled = none) (W : ZW prog w z TI TO i1 i2 fp1 fp2 n1 n2 P1 P2 St1 St2) (hS : S ≠ z ∧ S ≠ TI ∧ S ≠ TO ∧ S ∉ fp1 ∧ S ∉ fp2) (hat : ZAt 0 s.heap z TI TO i1 i2 St1 St2) (res : Value) (c₀ : Nat) (hSo : s.heap.get? S = some { cls := .type "list", data := .seq #[] c₀ })
    {lo : Addr} (hlo : ∀ b ∈ [S, z, TO, i1, i2], b ≤ lo) (hl : lo < s.heap.objs.size)
    (hR : ∀ h' tk acc c as, (∀ b o, b ≠ S → b ≠ z → b ≠ TO → b ≠ i1 → b ≠ i2 → s.heap.get? b = some o → h'.get? b = some o) → h'.get? S = some { cls := .type "list", dict := none, data := .seq acc c, slots := #[] } → as.length = min n1 n2 → ZG P1 P2 lo h' as →
      acc.toList = as.map Value.ref → R (.ok (.ret res)) { s with heap := h', toks := tk }) (hn : min n1 n2 ≤ sizeLine) :
    wpAny (model prog w) A.in1 (Builtin.List.listExtendWith (.ref S) (.ref z) res)
      (fun fin s' => match fin with | .done f => R (.ok f) s' | .again c' => c'.quiet = true ∧ codeAny (model prog w) A c' R s') (fun e s' => R (.error e) s') s := by
  have key : ∀ (h : Heap) (c₁ tk : Nat), (∀ b o, b ≠ S → s.heap.get? b = some o → h.get? b = some o) → s.heap.objs.size ≤ h.objs.size →
      h.get? S = some { cls := .type "list", data := .seq #[] c₁ } → codeAny (model prog w) A (.builtin "list.extend.loop" ⟨[.ref S, .ref z, res], []⟩) R { s with heap := h, toks := tk } := by
    intro h c₁ tk hk hsz hS₁
    exact zl_loop (s := s) (h₁ := s.heap) hh W hS hn res hlo hR (min n1 n2) 0 h tk c₁ #[] [] (Nat.sub_zero _) (Nat.zero_le _) (hat.keep W hh hS ⟨_, hS₁⟩ hk) (fun b o b1 _ _ _ _ e => hk b o b1 e) hS₁ rfl rfl
      ⟨List.Pairwise.nil, (fun _ ha => nomatch ha), (fun j a hj => by simp at hj)⟩ (Nat.lt_of_lt_of_le hl hsz)
  unfold Builtin.List.listExtendWith
  refine wpAny_bind (wpAny_typeOf (T := "zip") hat.zs.ty ?_)
  have h1 : Builtin.List.listSameRef (.ref S) (.ref z) = false := by simp [Builtin.List.listSameRef, hS.1]
  have h2 : (Value.type "zip" == Value.type "list") = false := by decide
  have h3 : (Value.type "zip" == Value.type "tuple") = false := by decide
  simp only [h1, h2, h3, Bool.or_false, Bool.false_eq_true, if_false]
  refine wpAny_bind (zs_iter hat.zs ?_)
  refine wpAny_bind (wpAny_holding ?_)
  unfold Builtin.List.listLengthHint
  refine wpAny_bind (wpAny_specialOf hat.zs.ty zip_nolen ?_)
  show wpAny _ A.in1 (specialOf (Value.ref z) (Str.ofString "__length_hint__") >>= _) _ _ _
  refine wpAny_bind (wpAny_specialOf hat.zs.ty zip_nohint ?_)
  refine wpAny_pure ?_
  show wpAny _ A.in1 (rule "list.extend.makes-room" >>= fun _ => Builtin.List.listTouch (.ref S) >>= fun _ =>
    again (.builtin "list.extend.loop" ⟨[.ref S, .ref z, res], []⟩)) _ _ _
  refine wpAny_bind (wpAny_rule ?_)
  refine wpAny_bind ?_
  show wpAny _ A.in1 (updateSeq S (·.push .none) >>= fun _ => updateSeq S (·.pop)) _ _ _
  refine wpAny_bind (wpAny_updateSeq hSo rfl ?_)
  have hS₂ := Heap.get?_update_self (Obj.mapSeq (·.push Value.none)) hSo rfl
  refine wpAny_updateSeq (hz := by seq_fits) hS₂ rfl ?_
  have hS₃ := Heap.get?_update_self (Obj.mapSeq (·.pop)) hS₂ rfl
  refine wpAny_pure ⟨plainId_quiet PySem.F.plain_extend_loop _, key _ _ _ (fun b o hb e => ?_) ?_ hS₃⟩
  · exact (Heap.get?_update_other _ _ (Ne.symm hb)).trans ((Heap.get?_update_other _ _ (Ne.symm hb)).trans e)
  · rw [Heap.size_update, Heap.size_update]; exact Nat.le_refl _
theorem zl_init {S : Addr} (hh : A.handled = none) (W : ZW prog w z TI TO i1 i2 fp1 fp2 n1 n2 P1 P2 St1 St2) (hS : S ≠ z ∧ S ≠ TI ∧ S ≠ TO ∧ S ∉ fp1 ∧ S ∉ fp2) (hat : ZAt 0 s.heap z TI TO i1 i2 St1 St2) (hSo : s.heap.get? S = some { cls := .type "list", data := .seq #[] })
    {lo : Addr} (hlo : ∀ b ∈ [S, z, TO, i1, i2], b ≤ lo) (hl : lo < s.heap.objs.size)
    (hR : ∀ h' tk acc c as, (∀ b o, b ≠ S → b ≠ z → b ≠ TO → b ≠ i1 → b ≠ i2 → s.heap.get? b = some o → h'.get? b = some o) → h'.get? S = some { cls := .type "list", dict := none, data := .seq acc c, slots := #[] } → as.length = min n1 n2 → ZG P1 P2 lo h' as →
      acc.toList = as.map Value.ref → R (.ok (.ret .none)) { s with heap := h', toks := tk }) (hn : min n1 n2 ≤ sizeLine) :
    wpAny (model prog w) A.in1 (Builtin.«list.__init__» ⟨[.ref S, .ref z], []⟩)
      (fun fin s' => match fin with | .done f => R (.ok f) s' | .again c' => c'.quiet = true ∧ codeAny (model prog w) A c' R s') (fun e s' => R (.error e) s') s := by
  show wpAny _ _ (do let old ← Builtin.List.listItems (.ref S); Builtin.List.listUpdate (.ref S) (fun _ => #[]); letGo old.toList.reverse; Builtin.List.listExtendWith (.ref S) (.ref z) .none) _ _ s
  refine wpAny_bind ?_
  unfold Builtin.List.listItems
  refine wpAny_bind (wpAny_seqItems hSo rfl (wpAny_pure ?_))
  show wpAny _ _ (updateSeq S (fun _ => #[]) >>= fun _ => letGo (#[] : Array Value).toList.reverse >>= fun _ => Builtin.List.listExtendWith (.ref S) (.ref z) .none) _ _ s
  refine wpAny_bind (wpAny_updateSeq hSo rfl ?_)
  have hS₂ := Heap.get?_update_self (Obj.mapSeq (fun _ => (#[] : Array Value))) hSo rfl
  have oth : ∀ b o, b ≠ S → s.heap.get? b = some o → (s.heap.update S (Obj.mapSeq (fun _ => (#[] : Array Value)))).get? b = some o :=
    fun b o hb e => (Heap.get?_update_other _ _ (Ne.symm hb)).trans e
  refine wpAny_bind (wpAny_letGo ?_)
  refine zl_extend (s := { s with heap := s.heap.update S (Obj.mapSeq (fun _ => (#[] : Array Value))) }) hh W hS (hat.keep W hh hS ⟨_, hS₂⟩ oth) .none _ hS₂ hlo (by rw [Heap.size_update]; exact hl) (fun h' tk acc c as hk hS' hl hG hacc => ?_) hn
  exact hR h' tk acc c as (fun b o b1 b2 b3 b4 b5 e => hk b o b1 b2 b3 b4 b5 (oth b o b1 e)) hS' hl hG hacc
theorem zl_call {Q : Value → Shared → Prop} (hh : A.handled = none) (W : ZW prog w z TI TO i1 i2 fp1 fp2 n1 n2 P1 P2 St1 St2) (hat : ZAt 0 s.heap z TI TO i1 i2 St1 St2) (hf1 : ∀ b ∈ fp1, b < s.heap.objs.size) (hf2 : ∀ b ∈ fp2, b < s.heap.objs.size) (lTI : TI < s.heap.objs.size) (lTO : TO < s.heap.objs.size) (lz : z < s.heap.objs.size) (hn : min n1 n2 ≤ sizeLine)
    (hQ : ∀ h' tk acc c as, (∀ b o, b ≠ z → b ≠ TO → b ≠ i1 → b ≠ i2 → s.heap.get? b = some o → h'.get? b = some o) → h'.get? s.heap.objs.size = some { cls := .type "list", dict := none, data := .seq acc c, slots := #[] } → as.length = min n1 n2 → ZG P1 P2 s.heap.objs.size h' as →
      acc.toList = as.map Value.ref → Q (.ref s.heap.objs.size) { s with heap := h', toks := tk }) :
    wpAny (model prog w) A (call (.type "list") [.ref z]) Q E s := by
  refine callType_codes (Q₁ := fun obj s₁ => obj = .ref s.heap.objs.size ∧ s₁ = { s with heap := s.heap.push { cls := .type "list", data := .seq #[] } }) PySem.F.called_list (PySem.F.typeCall_list_1 _) PySem.F.entry_list_init
    (code_list_new _ ⟨rfl, rfl⟩) fun obj s₁ h₁ => ?_
  obtain ⟨rfl, rfl⟩ := h₁
  have hS : (s.heap.push { cls := .type "list", data := .seq #[] }).get? s.heap.objs.size = some { cls := .type "list", data := .seq #[] } := Heap.get?_push_size _ rfl
  have up : ∀ b o, s.heap.get? b = some o → (s.heap.push { cls := .type "list", data := .seq #[] }).get? b = some o := fun b o e => Heap.get?_push_of_some _ e
  have l1 : i1 < s.heap.objs.size := hf1 _ W.sep.mem1
  have l2 : i2 < s.heap.objs.size := hf2 _ W.sep.mem2
  have hat' : ZAt 0 (s.heap.push { cls := .type "list", data := .seq #[] }) z TI TO i1 i2 St1 St2 := by
    refine ⟨?_, up _ _ hat.ti, (W.d1 A hh).frame _ _ _ hat.s1 fun b _ o e => up b o e, (W.d2 A hh).frame _ _ _ hat.s2 fun b _ o e => up b o e⟩
    rcases hat.zs with ⟨a, b, c, d⟩ | ⟨T, f, oT, a, b, c⟩
    · exact .inl ⟨up _ _ a, b, c, up _ _ d⟩
    · exact .inr ⟨T, f, oT, up _ _ a, up _ _ b, c⟩
  refine ⟨⟨_, hS, rfl⟩, PySem.F.args_list_init_2 _ _, zl_init (A := A.in1) hh W ⟨Nat.ne_of_gt lz, Nat.ne_of_gt lTI, Nat.ne_of_gt lTO, fun m => Nat.lt_irrefl _ (hf1 _ m), fun m => Nat.lt_irrefl _ (hf2 _ m)⟩ hat' hS (lo := s.heap.objs.size) (fun b hb => ?_) (by rw [Heap.size_push]; exact Nat.lt_succ_self _) (fun h' tk acc c as hk hS' hl hG hacc => ?_) hn⟩
  · have e : b = s.heap.objs.size ∨ b = z ∨ b = TO ∨ b = i1 ∨ b = i2 := by simpa using hb
    rcases e with e | e | e | e | e <;> subst e
    · exact Nat.le_refl _
    · exact Nat.le_of_lt lz
    · exact Nat.le_of_lt lTO
    · exact Nat.le_of_lt l1
    · exact Nat.le_of_lt l2
  · exact ⟨rfl, hQ h' tk acc c as (fun b o b2 b3 b4 b5 e => hk b o (Nat.ne_of_lt (Heap.lt_size e)) b2 b3 b4 b5 (up b o e)) hS' hl hG hacc⟩
end
end Pv

set_option maxRecDepth 100000
set_option maxHeartbeats 1000000
/-! Pv, part S: list(zip(a, b)) as a value. -/
namespace Pv
open PySem PySem.Spec L2
def putZ : Hp → List Addr → List (List V) → Hp
  | H, a :: as, p :: ps => putZ (upd H a (.tup p)) as ps
  | H, _, _ => H
theorem putZ_off {b : Addr} : ∀ (as : List Addr) (ps : List (List V)) (H : Hp), b ∉ as → putZ H as ps b = H b
  | [], _, _, _ => rfl
  | _ :: _, [], _, _ => rfl
  | a :: as, p :: ps, H, h => by
    show putZ (upd H a (.tup p)) as ps b = H b
    rw [putZ_off as ps _ (fun z => h (List.mem_cons_of_mem _ z)), upd_ne (fun z => h (by rw [z]; exact List.mem_cons_self))]
theorem putZ_at : ∀ (as : List Addr) (ps : List (List V)) (H : Hp), as.length = ps.length → as.Nodup → ∀ (j : Nat) (a : Addr) (p : List V), as[j]? = some a → ps[j]? = some p → putZ H as ps a = some (.tup p)
  | [], _, _, _, _, _, _, _, h, _ => by simp at h
  | _ :: _, [], _, h, _, _, _, _, _, _ => by cases h
  | a :: as, p :: ps, H, h, hn, 0, _, _, e1, e2 => by
    cases e1; cases e2
    have hn' := List.nodup_cons.mp hn
    show putZ (upd H a (.tup p)) as ps a = some (.tup p)
    rw [putZ_off as ps _ hn'.1, upd_same]
  | a :: as, p :: ps, H, h, hn, j + 1, b, q, e1, e2 => putZ_at as ps (upd H a (.tup p)) (Nat.succ.inj h) (List.nodup_cons.mp hn).2 j b q (by simpa using e1) (by simpa using e2)
section
variable {X : Cx}
theorem tups_laid {pins : List (Addr × Obj)} {σ : L2.St} {H : Hp} {s : Shared} {h' : Heap} {tk : Nat} {ps : List (List V)} {acc : Array Value} {c : Nat} {as : List Addr} {L : Addr} (I : Inv X pins σ H s) (hL : s.heap.objs.size ≤ L) (hz : ps.length ≤ sizeLine)
    (hk : ∀ b o, s.heap.get? b = some o → h'.get? b = some o) (hS : h'.get? L = some { cls := .type "list", dict := none, data := .seq acc c, slots := #[] }) (hl : as.length = ps.length) (rise : as.Pairwise (· < ·)) (above : ∀ a ∈ as, L < a)
    (hp : ∀ (j : Nat) (a : Addr) (p : List V), as[j]? = some a → ps[j]? = some p → p.length ≤ sizeLine ∧ ∃ us : List Value, Vals p us ∧ h'.IsTuple a us.toArray) (hacc : acc.toList = as.map Value.ref) :
    ∃ H' : Hp, (∀ b o, H b = some o → H' b = some o) ∧ H L = none ∧ (∀ t ∈ as, H t = none) ∧ H' L = some (.lst (as.map V.ref)) ∧ (∀ (j : Nat) (a : Addr) (p : List V), as[j]? = some a → ps[j]? = some p → H' a = some (.tup p)) ∧ Inv X pins σ H' { s with heap := h', toks := tk } := by
  have hSn : L ∉ as := fun z => Nat.lt_irrefl _ (above _ z)
  have nd : as.Nodup := List.Pairwise.imp (fun {a b} (h : a < b) => Nat.ne_of_lt h) rise
  have new : ∀ t ∈ as, H t = none := fun t ht => I.hok.fresh (Nat.le_trans hL (Nat.le_of_lt (above t ht)))
  have newS : H L = none := I.hok.fresh hL
  have atP := putZ_at as ps (upd H L (.lst (as.map V.ref))) hl nd
  have off : ∀ b, b ∉ as → b ≠ L → putZ (upd H L (.lst (as.map V.ref))) as ps b = H b := fun b h1 h2 => by rw [putZ_off as ps _ h1, upd_ne h2]
  have low : ∀ b o, s.heap.get? b = some o → b ∉ as ∧ b ≠ L := fun b o e => ⟨fun z => absurd (Nat.lt_of_lt_of_le (Heap.lt_size e) hL) (Nat.not_lt.mpr (Nat.le_of_lt (above b z))), Nat.ne_of_lt (Nat.lt_of_lt_of_le (Heap.lt_size e) hL)⟩
  have kp : ∀ b u, H b = some u → (putZ (upd H L (.lst (as.map V.ref))) as ps) b = some u := fun b u e => by
    rw [off b (fun z => by rw [new b z] at e; cases e) (fun z => by rw [z, newS] at e; cases e)]
    exact e
  have eS : putZ (upd H L (.lst (as.map V.ref))) as ps L = some (.lst (as.map V.ref)) := by rw [putZ_off as ps _ hSn, upd_same]
  refine ⟨putZ (upd H L (.lst (as.map V.ref))) as ps, kp, newS, new, eS, atP, ?_⟩
  refine I.call' (ch := []) rfl ⟨fun b o q _ _ _ => hk b o q, fun b o q _ _ _ => ⟨o.slots, hk b o q⟩, fun b o q n _ => ?_, fun b o q _ => ⟨o, hk b o q⟩, fun b xs q => kp b _ q, fun b o u q => kp b _ q, fun b ps q => ⟨#[], by rw [kp b _ q]; simp⟩⟩ (fun b u q => ?_) I.bare fun b z => by simp at z
  · obtain ⟨z1, z2⟩ := low b o q
    rw [off b z1 z2]
    exact n
  · by_cases hb : b ∈ as
    · obtain ⟨j, e1⟩ := List.mem_iff_getElem?.mp hb
      have hj : j < ps.length := by rw [← hl]; exact (List.getElem?_eq_some_iff.mp e1).1
      have e2 : ps[j]? = some ps[j] := List.getElem?_eq_getElem hj
      rw [atP j b _ e1 e2] at q
      cases q
      obtain ⟨z, us, rv, f3⟩ := hp j b _ e1 e2
      exact ⟨z, us, rv, f3⟩
    · by_cases hb2 : b = L
      · rw [hb2] at q ⊢
        rw [eS] at q
        cases q
        refine ⟨by rw [List.length_map]; omega, acc.toList, c, by rw [hacc]; exact LiI.vals_refs as, ?_⟩
        rw [Array.toArray_toList]
        exact hS
      · rw [off b hb hb2] at q
        exact (I.hok b u q).stay (fun d v _ y => hk d v y) (fun d y => kp d _ y) fun d xs y => kp d _ y
def rListZip (K : PySem.W.Frag) : List V → Hp → VK → Prop := fun vs H Q => ∃ t u a b xs ys, vs = [.ref a, .ref b] ∧ SqB K t H a xs ∧ SqB K u H b ys ∧ min xs.length ys.length ≤ sizeLine ∧
  ∀ (H' : Hp) (p : Addr) (ts : List Addr), (∀ b o, H b = some o → H' b = some o) → H p = none → H' p = some (.lst (ts.map V.ref)) → ts.length = min xs.length ys.length →
    (∀ (j : Nat) (a : Addr) (x y : V), ts[j]? = some a → xs[j]? = some x → ys[j]? = some y → H' a = some (.tup [x, y])) → Q (.ref p) H'
theorem zip_ix {xs ys : List V} {j : Nat} {p : List V} (h : (List.zipWith (fun x y => [x, y]) xs ys)[j]? = some p) : ∃ x y, xs[j]? = some x ∧ ys[j]? = some y ∧ p = [x, y] := by
  rw [List.getElem?_zipWith] at h
  cases e1 : xs[j]? with
  | none => rw [e1] at h; cases h
  | some x =>
    rw [e1] at h
    cases e2 : ys[j]? with
    | none => rw [e2] at h; cases h
    | some y =>
      rw [e2] at h
      cases h
      exact ⟨x, y, rfl, rfl, rfl⟩
theorem pe_listZip {e e2 : Expr} {ta : TA} {p pz pos posz : Pos} (hc : X.calm = true) (hg : Gl X "list") (hm : X.mg "list" = none) (hgz : Gl X "zip") (hmz : X.mg "zip" = none) (ha : PA X [e, e2] ta)
    (hs : starEach [e, e2] X.env = (false, eval e X.env) :: starEach [e2] X.env) (hpl : (backTo posz (starEach [e2] X.env)).any (·.1) = false)
    (hsz : starEach [.Call (.Name "zip" pz) [e, e2] [] posz] X.env = (false, eval (.Call (.Name "zip" pz) [e, e2] [] posz) X.env) :: starEach [] X.env) :
    PE X (.Call (.Name "list" p) [.Call (.Name "zip" pz) [e, e2] [] posz] [] pos) (fun σ H Q => ta σ H fun vs H1 => rListZip X.K vs H1 Q) := by
  refine ⟨fun pins s σ H Q I h => ?_⟩
  refine PyProof.Rows.Call_ (ld_blt I hg hm PyProof.Rows.boot_list (PyProof.Rows.callWith_type1 (PyProof.Rows.args_cons ?_ hsz) hsz rfl))
  refine PyProof.Rows.Call_ (ld_blt I hgz hmz PyProof.Rows.boot_zip (PyProof.Rows.callWith_type1 (thn (ha.run posz pins s σ H _ I h) fun us s1 ⟨vs, H1, I1, r1, q1⟩ => ?_) hs hpl))
  obtain ⟨t, u, a, b, xs, ys, ex, hqx, hqy, hlen, q⟩ := q1
  subst ex
  cases r1 with
  | cons r rr =>
    cases rr with
    | cons r' rr =>
      cases rr
      cases r
      cases r'
      obtain ⟨la, G, B, hG⟩ := SqB.begins I1 hqx
      obtain ⟨lb, G2, B2, hG2⟩ := SqB.begins I1 hqy
      refine zip_begins2 B B2 hG hG2 fun h' hz hTI hTO h1 h2 hsz' hk => ?_
      have I2 : Inv X pins σ H1 { s1 with heap := h' } := I1.kept (t' := s1.toks) hk
      obtain ⟨Pd, St, D, dP, dS, dT⟩ := SqB.drawsA (it := s1.heap.objs.size) I2 hqx (Nat.ne_of_lt la)
      obtain ⟨Pd2, St2, D2, dP2, dS2, dT2⟩ := SqB.drawsA (it := s1.heap.objs.size + 1) I2 hqy (Nat.ne_of_lt (Nat.lt_succ_of_lt lb))
      have S := zip_sep2 (N := s1.heap.objs.size) (fp1 := [a]) (fp2 := [b]) (by simpa using la) (by simpa using lb)
      have W : ZW X.prog X.w (s1.heap.objs.size + 4) (s1.heap.objs.size + 2) (s1.heap.objs.size + 3) s1.heap.objs.size (s1.heap.objs.size + 1) [s1.heap.objs.size, a] [s1.heap.objs.size + 1, b] xs.length ys.length Pd Pd2 St St2 := ⟨S, D, D2⟩
      have hat : ZAt 0 h' (s1.heap.objs.size + 4) (s1.heap.objs.size + 2) (s1.heap.objs.size + 3) s1.heap.objs.size (s1.heap.objs.size + 1) St St2 := ⟨.inl ⟨hz, _, _, hTO⟩, hTI, dS 0 (.mk h1), dS2 0 (.mk h2)⟩
      refine PyProof.Rows.args_nil ?_
      refine zl_call (s := { s1 with heap := h' }) (I1.ok.hd hc) W hat (fun c hcm => ?_) (fun c hcm => ?_) (by show s1.heap.objs.size + 2 < h'.objs.size; omega) (by show s1.heap.objs.size + 3 < h'.objs.size; omega) (by show s1.heap.objs.size + 4 < h'.objs.size; omega) hlen fun h'' tk acc c as hk2 hSo hl hG' hacc => ?_
      · have e' : c = s1.heap.objs.size ∨ c = a := by simpa using hcm
        show c < h'.objs.size
        rcases e' with z | z
        · rw [z]; show (s1.heap.objs.size : Nat) < h'.objs.size; omega
        · rw [z]; exact Nat.lt_of_lt_of_le la (by show (s1.heap.objs.size : Nat) ≤ h'.objs.size; omega)
      · have e' : c = s1.heap.objs.size + 1 ∨ c = b := by simpa using hcm
        show c < h'.objs.size
        rcases e' with z | z
        · rw [z]; show (s1.heap.objs.size + 1 : Nat) < h'.objs.size; omega
        · rw [z]; exact Nat.lt_of_lt_of_le lb (by show (s1.heap.objs.size : Nat) ≤ h'.objs.size; omega)
      · have keep : ∀ b o, s1.heap.get? b = some o → h''.get? b = some o := fun b o e => by
          have lt : b < s1.heap.objs.size := Heap.lt_size e
          have ne : ∀ k : Nat, b ≠ s1.heap.objs.size + k := fun k => Nat.ne_of_lt (Nat.lt_of_lt_of_le lt (Nat.le_add_right _ _))
          exact hk2 b o (ne 4) (ne 3) (ne 0) (ne 1) (hk b o e)
        have hlw : (List.zipWith (fun x y => [x, y]) xs ys).length = min xs.length ys.length := List.length_zipWith
        have hszL : s1.heap.objs.size ≤ h'.objs.size := by omega
        obtain ⟨H', k1, k2, k3, k4, k5, J⟩ := tups_laid (tk := tk) (ps := List.zipWith (fun x y => [x, y]) xs ys) (L := h'.objs.size) I1 hszL (by rw [hlw]; exact hlen) keep hSo (by rw [hl, hlw]) hG'.rise hG'.above (fun j a' p ea ep => by
          obtain ⟨x, y, ex, ey, rfl⟩ := zip_ix ep
          obtain ⟨ux, uy, px, py, tt⟩ := hG'.pairs j a' ea
          obtain ⟨x', ex', rx⟩ := dP j ux (List.getElem?_eq_some_iff.mp ex).1 px
          obtain ⟨y', ey', ry⟩ := dP2 j uy (List.getElem?_eq_some_iff.mp ey).1 py
          rw [ex] at ex'; cases ex'
          rw [ey] at ey'; cases ey'
          exact ⟨by show 2 ≤ sizeLine; decide, [ux, uy], .cons rx (.cons ry .nil), ⟨_, tt, rfl, _, rfl⟩⟩) hacc
        exact ⟨.ref _, H', J, rfl, q H' _ as k1 k2 k4 hl fun j a' x y ea ex ey => k5 j a' [x, y] ea (by rw [List.getElem?_zipWith, ex, ey])⟩
end
def mListZip (f g : M (List PyData)) : M SV := do
  let xs ← f
  let ys ← g
  if min xs.length ys.length ≤ sizeLine then pure ⟨.list (zipD xs ys), .ow⟩ else M.bad
section
variable {X : Cx} {E : EK} {e e2 : Expr} {p pz pos posz : Pos}
theorem qe_listZip {f f2 : M (List PyData)} (hc : X.calm = true) (hg : Gl X "list") (hm : X.mg "list" = none) (hgz : Gl X "zip") (hmz : X.mg "zip" = none) (ha : PE X e (TSr X.K E f)) (ha2 : PE X e2 (TSr X.K E f2))
    (hs : starEach [e, e2] X.env = (false, eval e X.env) :: starEach [e2] X.env) (hs2 : starEach [e2] X.env = (false, eval e2 X.env) :: starEach [] X.env) (hpl : (backTo posz (starEach [e2] X.env)).any (·.1) = false)
    (hsz : starEach [.Call (.Name "zip" pz) [e, e2] [] posz] X.env = (false, eval (.Call (.Name "zip" pz) [e, e2] [] posz) X.env) :: starEach [] X.env) :
    PE X (.Call (.Name "list" p) [.Call (.Name "zip" pz) [e, e2] [] posz] [] pos) (TV X.K E (mListZip f f2)) :=
  PE.imp (pe_listZip hc hg hm hgz hmz (pa_cons ha (pa_cons ha2 pa_nil hs2) hs) hs hpl hsz) fun σ H Q ⟨F, ρ, g, go⟩ => by
    refine ⟨F, ρ, g, (Go.bind go).mono ?_⟩
    rintro ds ρ1 F1 H1 ⟨g1, s1, sub1, go1⟩ v hv
    refine ⟨F1, ρ1, g1, (Go.bind go1).mono ?_⟩
    rintro ds2 ρ2 F2 H2 ⟨g2, s2, sub2, go2⟩ v2 hv2
    obtain ⟨t1, a1, xs1, rfl, r1, q1⟩ := (hv.step g1.wok s2).of
    obtain ⟨t2, a2, xs2, rfl, r2, q2⟩ := hv2.of
    by_cases hl : min ds.length ds2.length ≤ sizeLine
    · rw [if_pos hl] at go2
      refine ⟨t1, t2, a1, a2, xs1, xs2, rfl, q1 W0 F2 H2 .nil .refl, q2 W0 F2 H2 .nil .refl, by rw [r1.length, r2.length]; exact hl, fun H' p ts keep np hp hlt htup => ?_⟩
      have st : Step W0 F2 H2 F2 H' := ⟨fun _ f => f, fun a o e _ => keep a o e, fun _ f => .inl f⟩
      have sty := st.stay .nil
      have al : ∀ a, F2 a → H' a ≠ none := fun a f z => by
        cases e : H2 a with
        | none => exact g2.al a f e
        | some o => rw [keep a o e] at z; cases z
      have gd' := g2.pure st al
      have rp : RpL X.K F2 H' (ts.map V.ref) (zipD ds ds2) := by
        have r1' := r1.stay sty
        have r2' := r2.stay sty
        clear hp np go2 q1 q2 hl
        generalize hL : (xs1, xs2, ts) = tr at *
        revert htup hlt r1' r2'
        have gen : ∀ (ts : List Addr) (xs1 xs2 : List V) (ds ds2 : List PyData), ts.length = min xs1.length xs2.length → (∀ (j : Nat) (a : Addr) (x y : V), ts[j]? = some a → xs1[j]? = some x → xs2[j]? = some y → H' a = some (.tup [x, y])) →
            RpL X.K F2 H' xs1 ds → RpL X.K F2 H' xs2 ds2 → RpL X.K F2 H' (ts.map V.ref) (zipD ds ds2) := by
          intro ts
          induction ts with
          | nil =>
            intro xs1 xs2 ds ds2 hlt _ r1 r2
            have h1 := r1.length
            have h2 := r2.length
            have : zipD ds ds2 = [] := List.eq_nil_of_length_eq_zero (by
              unfold zipD
              rw [List.length_zipWith]
              simp only [List.length_nil] at hlt
              omega)
            rw [this]
            exact .nil
          | cons t ts ih =>
            intro xs1 xs2 ds ds2 hlt htup r1 r2
            cases r1 with
            | nil => simp at hlt
            | cons ra ras =>
              cases r2 with
              | nil => simp at hlt
              | cons rb rbs =>
                refine .cons (.tup (htup 0 t _ _ rfl rfl rfl) (.cons ra (.cons rb .nil))) (ih _ _ _ _ (by simp only [List.length_cons] at hlt; omega) (fun j a x y e1 e2 e3 => htup (j + 1) a x y (by simpa using e1) (by simpa using e2) (by simpa using e3)) ras rbs)
        intro hlt htup r1 r2
        exact gen ts xs1 xs2 ds ds2 hlt htup r1 r2
      refine Go.pure go2 F2 H' st.of0 gd' (.ref p) ⟨⟨p, rfl, fun f => g2.al p f np, .lst hp rp⟩, (fun z => nomatch z), fun _ a ea => ?_⟩
      cases ea
      refine ⟨fun z => (g2.hold z).2.some np, ?_⟩
      have s12 : Step (Own σ ρ) F H F2 H2 := s1.trans s2 fun a z => .inl (sub1.own a z)
      cases e0 : H p with
      | none => exact .inl rfl
      | some o =>
        by_cases w : Own σ ρ p
        · exact .inr w
        · rw [s12.keep p o e0 w] at np; cases np
    · rw [if_neg hl] at go2
      exact go2.elim
end
end Pv

set_option maxRecDepth 100000
/-! Pv, part T: the rules by operator and by built-in function, in one form. -/
namespace Pv
open PySem PySem.Spec L2
theorem hu65 {k : Nat} {A : Around} (r : Room k A) : A.units + 65 < cLine := by have := r.un; omega
theorem hu66 {k : Nat} {A : Around} (r : Room k A) : A.units + 66 < cLine := by have := r.un; omega
def gSub := gI (fun _ _ => true) fun i j => .int (i - j)
def gMul := gI (fun i j => decide (CMulA i j)) fun i j => .int (i * j)
def gDiv := gI (fun i j => decide (CDivW i j)) fun i j => .int (i / j)
def gMod := gI (fun _ j => decide (0 < j)) fun i j => .int (i % j)
def gPow := gI (fun i j => decide (CPowW i j)) fun i j => .int (i ^ j.toNat)
def gNeg : PyData → Option SV
  | .int i => some (frv (.int (-i)))
  | _ => none
section
variable {X : Cx} {E : EK} {pos p p1 p2 : Pos} {a b c : Expr} {fa fb fc : M Opd} {k : Nat}
theorem qe_add (ha : PE X a (TO X.K E fa)) (hb : PE X b (TO X.K E fb)) : PE X (.BinOp a .Add b pos) (TV X.K E (mOp2 gAdd fa fb)) := qe_op op_addAll opG_add ha hb
theorem qe_sub (ha : PE X a (TO X.K E fa)) (hb : PE X b (TO X.K E fb)) : PE X (.BinOp a .Sub b pos) (TV X.K E (mOp2 gSub fa fb)) := qe_op op_sub (opG_I0 fun _ _ _ _ => .int _) ha hb
theorem qe_mul (ha : PE X a (TO X.K E fa)) (hb : PE X b (TO X.K E fb)) : PE X (.BinOp a .Mult b pos) (TV X.K E (mOp2 gMul fa fb)) := qe_op op_mulA (opG_I (fun _ _ h => of_decide_eq_true h) fun _ _ _ _ => .int _) ha hb
theorem qe_fdiv (ha : PE X a (TO X.K E fa)) (hb : PE X b (TO X.K E fb)) : PE X (.BinOp a .FloorDiv b pos) (TV X.K E (mOp2 gDiv fa fb)) := qe_op op_fdivW (opG_I (fun _ _ h => of_decide_eq_true h) fun _ _ _ _ => .int _) ha hb
theorem qe_mod (ha : PE X a (TO X.K E fa)) (hb : PE X b (TO X.K E fb)) : PE X (.BinOp a .Mod b pos) (TV X.K E (mOp2 gMod fa fb)) := qe_op op_mod (opG_I (fun _ _ h => of_decide_eq_true h) fun _ _ _ _ => .int _) ha hb
theorem qe_pow (ha : PE X a (TO X.K E fa)) (hb : PE X b (TO X.K E fb)) : PE X (.BinOp a .Pow b pos) (TV X.K E (mOp2 gPow fa fb)) := qe_op op_powW (opG_I (fun _ _ h => of_decide_eq_true h) fun _ _ _ _ => .int _) ha hb
theorem unG_neg {K : PySem.W.Frag} : UnG K (rU fun i => .int (-i)) gNeg := by
  intro F H x dx sv Q al hx e q
  cases dx <;> simp only [gNeg] at e <;> cases e
  exact ⟨_, hx.int, q.fr al (.int _)⟩
theorem qe_neg (ha : PE X a (TO X.K E fa)) : PE X (.UnaryOp .USub a pos) (TV X.K E (mOp1 gNeg fa)) := qe_un un_neg unG_neg ha
theorem op_ltA (hr : Room k X.A) : OpR X (compareOp .Lt) (rOrdA X.K (fun i j => decide (i < j)) fun d e => PySem.W.dataLt d e) := OpR.or op_lt (op_ltX (hu65 hr))
theorem op_leA (hr : Room k X.A) : OpR X (compareOp .LtE) (rOrdA X.K (fun i j => decide (i ≤ j)) fun d e => !PySem.W.dataLt e d) := OpR.or op_le (op_leX (hu65 hr))
theorem op_gtA (hr : Room k X.A) : OpR X (compareOp .Gt) (rOrdA X.K (fun i j => decide (j < i)) fun d e => PySem.W.dataLt e d) := OpR.or op_gt (op_gtX (hu65 hr))
theorem op_geA (hr : Room k X.A) : OpR X (compareOp .GtE) (rOrdA X.K (fun i j => decide (j ≤ i)) fun d e => !PySem.W.dataLt d e) := OpR.or op_ge (op_geX (hu65 hr))
def gGtA := gOrd (fun i j => decide (j < i)) fun d e => PySem.W.dataLt e d
/-- the operator's rule, its pure function -/
structure CmpP (X : Cx) (cop : CmpOp) (g : PyData → PyData → Option SV) : Prop where
  ex : ∃ r, OpR X (compareOp cop) r ∧ OpG X.K r g
theorem cpLt (hr : Room k X.A) : CmpP X .Lt gLt := ⟨_, op_ltA hr, opG_ord⟩
theorem cpLe (hr : Room k X.A) : CmpP X .LtE gLe := ⟨_, op_leA hr, opG_ord⟩
theorem cpGt (hr : Room k X.A) : CmpP X .Gt gGtA := ⟨_, op_gtA hr, opG_ord⟩
theorem cpGe (hr : Room k X.A) : CmpP X .GtE gGe := ⟨_, op_geA hr, opG_ord⟩
theorem cpEq (hr : Room k X.A) : CmpP X .Eq (gEq false) := ⟨_, op_eqD hr.units, opG_eq⟩
theorem cpNe (hr : Room k X.A) : CmpP X .NotEq (gEq true) := ⟨_, op_neD hr.units, opG_ne⟩
theorem cpIs (hr : Room k X.A) : CmpP X .Is (gIs false) := ⟨_, op_isAll, opG_isN⟩
theorem cpIsNot (hr : Room k X.A) : CmpP X .IsNot (gIs true) := ⟨_, op_notAll, opG_notN⟩
theorem cpIn (hr : Room k X.A) : CmpP X .In (gInS false) := ⟨_, op_inX (hu65 hr), opG_inS⟩
theorem cpNotIn (hr : Room k X.A) : CmpP X .NotIn (gInS true) := ⟨_, op_notInX (hu65 hr), opG_inS⟩
theorem ce_cmp {cop : CmpOp} {g : PyData → PyData → Option SV} (cp : CmpP X cop g) (ha : PE X a (TO X.K E fa)) (hb : PE X b (TO X.K E fb)) (hm : behindInMarks cop b = false) : PE X (.Compare a [cop] [b] pos) (TV X.K E (mOp2 g fa fb)) := let ⟨_, ho, hg⟩ := cp.ex; qe_cmp ho hg ha hb hm
theorem ct_cmp {cop : CmpOp} {g : PyData → PyData → Option SV} (cp : CmpP X cop g) (ha : PE X a (TO X.K E fa)) (hb : PE X b (TO X.K E fb)) (hm : behindInMarks cop b = false) : PT X (.Compare a [cop] [b] pos) (TB X.K E (mB (mOp2 g fa fb))) := let ⟨_, ho, hg⟩ := cp.ex; qt_cmp ho hg ha hb hm
theorem ce_chain {op op' : CmpOp} {g g' : PyData → PyData → Option SV} (cp : CmpP X op g) (cp' : CmpP X op' g') (ha : PE X a (TO X.K E fa)) (hb : PE X b (TO X.K E fb)) (hc : PE X c (TO X.K E fc)) (hm : lastMarks [op, op'] [b, c] = false) : PE X (.Compare a [op, op'] [b, c] pos) (TV X.K E (mChain g g' fa fb fc)) :=
  let ⟨_, ho, hg⟩ := cp.ex; let ⟨_, ho', hg'⟩ := cp'.ex; qe_chain ho ho' hg hg' ha hb hc hm
theorem ct_chain {op op' : CmpOp} {g g' : PyData → PyData → Option SV} (cp : CmpP X op g) (cp' : CmpP X op' g') (ha : PE X a (TO X.K E fa)) (hb : PE X b (TO X.K E fb)) (hc : PE X c (TO X.K E fc)) (hm : lastMarks [op, op'] [b, c] = false) : PT X (.Compare a [op, op'] [b, c] pos) (TB X.K E (mB (mChain g g' fa fb fc))) :=
  let ⟨_, ho, hg⟩ := cp.ex; let ⟨_, ho', hg'⟩ := cp'.ex; qt_chain ho ho' hg hg' ha hb hc hm
theorem ce_ix (ha : PE X a (TO X.K E fa)) (hb : PE X b (TO X.K E fb)) (hs : PlainIx b) : PE X (.Subscript a b pos) (TV X.K E (mOp2 gIxS fa fb)) := qe_ix ix_seq opG_ixS ha hb hs
/-! ### built-in functions -/
theorem pa1 (ha : PE X a (TO X.K E fa)) (h : starEach [a] X.env = (false, eval a X.env) :: starEach [] X.env) : PA X [a] (TAO X.K E (mcons fa mnil)) := qao_cons ha qao_nil h
theorem pa2 (ha : PE X a (TO X.K E fa)) (hb : PE X b (TO X.K E fb)) (h : starEach [a, b] X.env = (false, eval a X.env) :: starEach [b] X.env) (h2 : starEach [b] X.env = (false, eval b X.env) :: starEach [] X.env) : PA X [a, b] (TAO X.K E (mcons fa (mcons fb mnil))) := qao_cons ha (qao_cons hb qao_nil h2) h
theorem ce_len (hg : Gl X "len") (hm : X.mg "len" = none) (ha : PE X a (TO X.K E fa)) (h : starEach [a] X.env = (false, eval a X.env) :: starEach [] X.env) : PE X (.Call (.Name "len" p) [a] [] pos) (TV X.K E (mCall gLen (mcons fa mnil))) :=
  qe_callB call_len caG_len hg hm PySem.boot_len (pa1 ha h) (by decide) (by decide) h rfl
theorem ce_abs (hg : Gl X "abs") (hm : X.mg "abs" = none) (ha : PE X a (TO X.K E fa)) (h : starEach [a] X.env = (false, eval a X.env) :: starEach [] X.env) : PE X (.Call (.Name "abs" p) [a] [] pos) (TV X.K E (mCall gAbs (mcons fa mnil))) :=
  qe_callB call_abs caG_abs hg hm PyProof.Rows.boot_abs (pa1 ha h) (by decide) (by decide) h rfl
theorem ce_int (hg : Gl X "int") (hm : X.mg "int" = none) (ha : PE X a (TO X.K E fa)) (h : starEach [a] X.env = (false, eval a X.env) :: starEach [] X.env) : PE X (.Call (.Name "int" p) [a] [] pos) (TV X.K E (mCall gInt1 (mcons fa mnil))) :=
  qe_callTy call_int1 caG_int1 hg hm PyProof.Rows.boot_int (pa1 ha h) (by decide) (by decide) h rfl
theorem ce_list (hg : Gl X "list") (hm : X.mg "list" = none) (ha : PE X a (TO X.K E fa)) (h : starEach [a] X.env = (false, eval a X.env) :: starEach [] X.env) : PE X (.Call (.Name "list" p) [a] [] pos) (TV X.K E (mCall gListOf (mcons fa mnil))) :=
  qe_callTy call_list_of caG_listOf hg hm PyProof.Rows.boot_list (pa1 ha h) (by decide) (by decide) h rfl
theorem ce_tuple (hg : Gl X "tuple") (hm : X.mg "tuple" = none) (ha : PE X a (TO X.K E fa)) (h : starEach [a] X.env = (false, eval a X.env) :: starEach [] X.env) : PE X (.Call (.Name "tuple" p) [a] [] pos) (TV X.K E (mCall gTupleOf (mcons fa mnil))) :=
  qe_callTy call_tuple_of caG_tupleOf hg hm PyProof.Rows.boot_tuple (pa1 ha h) (by decide) (by decide) h rfl
theorem ce_sum (hc : X.calm = true) (hg : Gl X "sum") (hm : X.mg "sum" = none) (ha : PE X a (TO X.K E fa)) (h : starEach [a] X.env = (false, eval a X.env) :: starEach [] X.env) : PE X (.Call (.Name "sum" p) [a] [] pos) (TV X.K E (mCall gSum (mcons fa mnil))) :=
  qe_callB (CallR.or (cr_sum hc) (cr_sumT hc)) caG_sum hg hm PyProof.Rows.boot_sum (pa1 ha h) (by decide) (by decide) h rfl
theorem ce_all (hc : X.calm = true) (hg : Gl X "all") (hm : X.mg "all" = none) (ha : PE X a (TO X.K E fa)) (h : starEach [a] X.env = (false, eval a X.env) :: starEach [] X.env) : PE X (.Call (.Name "all" p) [a] [] pos) (TV X.K E (mCall (gAllAny (·.all id)) (mcons fa mnil))) :=
  qe_callB (cr_all hc) caG_allAny hg hm PyProof.Rows.boot_all (pa1 ha h) (by decide) (by decide) h rfl
theorem ce_any (hc : X.calm = true) (hg : Gl X "any") (hm : X.mg "any" = none) (ha : PE X a (TO X.K E fa)) (h : starEach [a] X.env = (false, eval a X.env) :: starEach [] X.env) : PE X (.Call (.Name "any" p) [a] [] pos) (TV X.K E (mCall (gAllAny (·.any id)) (mcons fa mnil))) :=
  qe_callB (cr_any hc) caG_allAny hg hm PyProof.Rows.boot_any (pa1 ha h) (by decide) (by decide) h rfl
theorem ce_max1 (hc : X.calm = true) (hr : Room k X.A) (hg : Gl X "max") (hm : X.mg "max" = none) (ha : PE X a (TO X.K E fa)) (h : starEach [a] X.env = (false, eval a X.env) :: starEach [] X.env) : PE X (.Call (.Name "max" p) [a] [] pos) (TV X.K E (mCall (gBest PySem.W.maxD) (mcons fa mnil))) :=
  qe_callB (cr_maxD hc (hu66 hr)) caG_best hg hm PyProof.Rows.boot_max (pa1 ha h) (by decide) (by decide) h rfl
theorem ce_min1 (hc : X.calm = true) (hr : Room k X.A) (hg : Gl X "min") (hm : X.mg "min" = none) (ha : PE X a (TO X.K E fa)) (h : starEach [a] X.env = (false, eval a X.env) :: starEach [] X.env) : PE X (.Call (.Name "min" p) [a] [] pos) (TV X.K E (mCall (gBest PySem.W.minD) (mcons fa mnil))) :=
  qe_callB (cr_minD hc (hu66 hr)) caG_best hg hm PyProof.Rows.boot_min (pa1 ha h) (by decide) (by decide) h rfl
theorem ce_max2 (hc : X.calm = true) (hg : Gl X "max") (hm : X.mg "max" = none) (ha : PE X a (TO X.K E fa)) (hb : PE X b (TO X.K E fb)) (h : starEach [a, b] X.env = (false, eval a X.env) :: starEach [b] X.env) (h2 : starEach [b] X.env = (false, eval b X.env) :: starEach [] X.env) (hpl : (backTo pos (starEach [b] X.env)).any (·.1) = false) :
    PE X (.Call (.Name "max" p) [a, b] [] pos) (TV X.K E (mCall (gI2 fun i j => if j > i then j else i) (mcons fa (mcons fb mnil)))) := qe_callB (call_max2 hc) caG_I2 hg hm PyProof.Rows.boot_max (pa2 ha hb h h2) (by decide) (by decide) h hpl
theorem ce_min2 (hc : X.calm = true) (hg : Gl X "min") (hm : X.mg "min" = none) (ha : PE X a (TO X.K E fa)) (hb : PE X b (TO X.K E fb)) (h : starEach [a, b] X.env = (false, eval a X.env) :: starEach [b] X.env) (h2 : starEach [b] X.env = (false, eval b X.env) :: starEach [] X.env) (hpl : (backTo pos (starEach [b] X.env)).any (·.1) = false) :
    PE X (.Call (.Name "min" p) [a, b] [] pos) (TV X.K E (mCall (gI2 fun i j => if j < i then j else i) (mcons fa (mcons fb mnil)))) := qe_callB (call_min2 hc) caG_I2 hg hm PyProof.Rows.boot_min (pa2 ha hb h h2) (by decide) (by decide) h hpl
end
end Pv

set_option maxRecDepth 100000
/-! Pv, part U: defs of a text, in one form. -/
namespace Pv
open PySem PySem.Spec L2
section
variable {P : Program} {w : World} {K : PySem.W.Frag} {mg : Str → Option Value} {base : Heap}
/-- a def of the text: where it stands -/
structure Dfn (K : PySem.W.Frag) (mg : Str → Option Value) (x : Str) (st : Stmt) (ps : List Str) : Prop where
  ex : ∃ a fd, Fun K x x st a fd ∧ mg x = some (.ref a) ∧ Binds K fd ps []
/-- .. with its promise -/
structure Cal (P : Program) (w : World) (K : PySem.W.Frag) (mg : Str → Option Value) (base : Heap) (k : Nat) (cl : Str → Addr) (x : Str) (ps : List Str) (fd : FD) : Prop where
  ex : ∃ a fdt, FnOk P w K mg base (L2.CX P w) k a fdt ps (spF K cl fd) ∧ mg x = some (.ref a) ∧ PySem.W.keepIn K (.ref a) = true ∧ Binds K fdt ps []
theorem Cal.mono {j k : Nat} {cl : Str → Addr} {x : Str} {ps : List Str} {fd : FD} (c : Cal P w K mg base j cl x ps fd) (h : j ≤ k) : Cal P w K mg base k cl x ps fd :=
  let ⟨a, fdt, f, r⟩ := c.ex
  ⟨a, fdt, f.mono h, r⟩
theorem cal_of {x : Str} {st : Stmt} {N ps : List Str} {k : Nat} {cl : Str → Addr} {io : List Bool} {body : M Fl} {fx : List Nat} (D : Dfn K mg x st ps) (S : FnScope N ps (defScope st)) (hio : io.length = ps.length) (hfx : ∀ i, io[i]? = some true → i ∈ fx)
    (hbody : ∀ (f : Addr) (cdv : Value) (A : Around) (outer : List Env) (s : Shared) (H : Hp) (E : XK), Room k (A.deeper (PyProof.Rows.envOfC x (defScope st) s.heap.objs.size f cdv)) →
      PSs (cxOf (L2.CX P w) P w K mg base N x (defScope st) f cdv A outer s H E) (defBody st) (TSt K (Eof K cl E) fx body)) : Cal P w K mg base (k + 1) cl x ps ⟨io, runF io N.length body⟩ :=
  let ⟨a, fd, F, hm, hb⟩ := D.ex
  ⟨a, fd, fnok_of F S hio hfx (hbody a), hm, F.kp, hb⟩
end
section
variable {X : Cx} {E : EK} {pos p : Pos} {e : Expr} {es : List Expr} {x : Str}
theorem qe_callC {k : Nat} {ps : List Str} {cl : Str → Addr} {fd : FD} {fs : M (List Arg)} {E' : XK} (C : Cal X.prog X.w X.K X.mg X.base k cl x ps fd) (hr : Room k X.A) (hg : Gl X x) (hx : Passes (L2.CX X.prog X.w) X E') (ha : PA X (e :: es) (TAR X.K (Eof X.K cl E') fs)) (hdb : (x == ("__debug__" : Str)) = false)
    (he : starEach (e :: es) X.env = (false, eval e X.env) :: starEach es X.env) (hpl : (backTo pos (starEach es X.env)).any (·.1) = false) : PE X (.Call (.Name x p) (e :: es) [] pos) (TV X.K (Eof X.K cl E') (mCallF fd fs)) :=
  let ⟨_, _, T, hm, hk, hb⟩ := C.ex
  qe_callF T hr hg hm hk hb hx (fun _ _ _ _ h => h) ha hdb he hpl
theorem qe_callC0 {k : Nat} {ps : List Str} {cl : Str → Addr} {fd : FD} {fs : M (List Arg)} (C : Cal X.prog X.w X.K X.mg X.base k cl x ps fd) (hr : Room k X.A) (hg : Gl X x) (ha : PA X (e :: es) (TAR X.K EF fs)) (hdb : (x == ("__debug__" : Str)) = false)
    (he : starEach (e :: es) X.env = (false, eval e X.env) :: starEach es X.env) (hpl : (backTo pos (starEach es X.env)).any (·.1) = false) : PE X (.Call (.Name x p) (e :: es) [] pos) (TV X.K EF (mCallF fd fs)) :=
  let ⟨_, _, T, hm, hk, hb⟩ := C.ex
  qe_callB0 T hr hg hm hk hb ha hdb he hpl
theorem qe_gintE {i : Int} (hg : Gl X x) (hm : ∃ t, X.mg x = some (.int i t)) (hd : (x == ("__debug__" : Str)) = false) : PE X (.Name x p) (TV X.K E (pure (frv (.int i)))) := let ⟨_, h⟩ := hm; qe_gint hg h hd
theorem qe_gstrE {i : Str} (hg : Gl X x) (hm : ∃ t, X.mg x = some (.str i t)) (hd : (x == ("__debug__" : Str)) = false) : PE X (.Name x p) (TV X.K E (pure (frv (.str i)))) := let ⟨_, h⟩ := hm; qe_gstr hg h hd
end
section
variable {P : Program} {w : World} {K : PySem.W.Frag} {mg : Str → Option Value} {base : Heap} {N : List Str} {qual : Str} {scope : Scope} {f : Addr} {cd : Value} {A : Around} {outer : List Env} {s : Shared} {H : Hp} {E : XK}
/-- at a def's own level: what a callee lets out is let out -/
theorem hxD : Passes (L2.CX P w) (cxOf (L2.CX P w) P w K mg base N qual scope f cd A outer s H E) E := passes_call (takes_of rfl rfl rfl rfl) fun _ _ _ _ h => h
theorem hpD : PassesOwn (model P w) (cxOf (L2.CX P w) P w K mg base N qual scope f cd A outer s H E).A (cxOf (L2.CX P w) P w K mg base N qual scope f cd A outer s H E).env (cxOf (L2.CX P w) P w K mg base N qual scope f cd A outer s H E).xe := passes_of rfl
end
theorem mem_ioIx {io : List Bool} {i : Nat} (h : io[i]? = some true) : i ∈ ioIx io := by
  unfold ioIx
  rw [List.mem_filter, List.mem_range]
  refine ⟨(List.getElem?_eq_some_iff.mp h).1, ?_⟩
  rw [List.getD_eq_getElem?_getD, h]; rfl
theorem nbut {n : Nat} {vs : List Nat} {i : Nat} (h : i ∈ vs) : i ∉ butS n vs := fun z => (mem_butS.mp z).2 h
end Pv

set_option maxRecDepth 100000
/-! Pv, part V: a, b = x, y where a name is a cell. -/
namespace Pv
open PySem PySem.Spec L2
theorem ps_parC {X : Cx} {pos : Pos} {i j : Nat} {x y : Str} {a b : Expr} {ta : TA} {px py pt : Pos} {kt k2 : Nat} {pt2 : Pos} (hc : X.calm = true) (hN : X.N.Nodup) (hi : X.N[i]? = some x) (hj : X.N[j]? = some y)
    (hx : Loc X.env.scope x) (hy : Loc X.env.scope y) (fx : X.fn x = true ∨ X.env.scope.names.lookup x = some .local) (fy : X.fn y = true ∨ X.env.scope.names.lookup y = some .local) (ha : PA X [a, b] ta)
    (hw : swappedStores [.Tuple [.Name x px, .Name y py] kt pt] (.Tuple [a, b] k2 pt2) X.env = pure none)
    (hs : swapsWithSole [.Tuple [.Name x px, .Name y py] kt pt] (.Tuple [a, b] k2 pt2) pos.line X.env = pure false)
    (h1 : (assignEach [.Tuple [.Name x px, .Name y py] kt pt] X.env).map (·.2) = [assign (.Tuple [.Name x px, .Name y py] kt pt) X.env])
    (h2 : (assignEach [.Name x px, .Name y py] X.env).map (·.2) = assign (.Name x px) X.env :: (assignEach [.Name y py] X.env).map (·.2)) (h3 : (assignEach [.Name y py] X.env).map (·.2) = assign (.Name y py) X.env :: (assignEach [] X.env).map (·.2))
    (hn : (assignEach [.Name x px, .Name y py] X.env).length = 2) (hst : (assignEach [.Name x px, .Name y py] X.env).findIdx? (·.1) = none) :
    PS X (.Assign [.Tuple [.Name x px, .Name y py] kt pt] (.Tuple [a, b] k2 pt2) pos) (tPar i j ta) := by
  refine ⟨fun pins s σ H D I h => ?_⟩
  refine wpAny_Assign_stores (PyProof.Rows.Tuple_ (thn (ha.run _ pins s σ H _ I h) fun us s1 ⟨vs, H1, I1, r1, q1⟩ => ?_)) hs hw
  obtain ⟨v, w, e1, q1⟩ := q1
  subst e1
  obtain ⟨u1, u2, rfl, rv, rw'⟩ : ∃ u1 u2, us = [u1, u2] ∧ RelV v u1 ∧ RelV w u2 := by
    cases r1 with
    | cons p q =>
      cases q with
      | cons p' q' =>
        cases q'
        exact ⟨_, _, rfl, p, p'⟩
  refine wpAny_newObj_type ?_ (by show 2 ≤ sizeLine; decide)
  have I2 : Inv X pins σ H1 { s1 with heap := s1.heap.push { cls := .type "tuple", data := .seq [u1, u2].toArray } } := I1.kept (t' := s1.toks) fun b o e => Heap.get?_push_of_some _ e
  rw [h1]
  refine PyProof.Rows.assign_Tuple_tuple (I.ok.hd hc) (items := #[u1, u2]) (PyProof.Rows.IsTup.new s1.heap _) (by simp [hn]) hst fun h' hx' => ?_
  have I3 := I2.kept (h' := h') (t' := s1.toks) fun b o e => hx' b o (Nat.ne_of_lt (Heap.lt_size e)) e
  exact (pgs_cons (pg_name (i := i) hN hi hx fx) (pgs_cons (pg_name (i := j) hN hj hy fy) pgs_nil h3) h2).run pins _ σ H1 [v, w] _ _ I3 (.cons rv (.cons rw' .nil)) ⟨v, [w], rfl, w, [], rfl, rfl, q1⟩
section
variable {X : Cx} {E : EK} {pos p : Pos} {tg e a b : Expr} {fx : List Nat}
theorem qs_parC {i j : Nat} {x y : Str} {fa fb : M SV} {px py pt : Pos} {kt k2 : Nat} {pt2 : Pos} (hc : X.calm = true) (hN : X.N.Nodup) (hi : X.N[i]? = some x) (hj : X.N[j]? = some y) (hij : i ≠ j) (fi : i ∉ fx) (fj : j ∉ fx)
    (hx : Loc X.env.scope x) (hy : Loc X.env.scope y) (gx : X.fn x = true ∨ X.env.scope.names.lookup x = some .local) (gy : X.fn y = true ∨ X.env.scope.names.lookup y = some .local) (ha : PE X a (TV X.K E fa)) (hb : PE X b (TV X.K E fb))
    (hw : swappedStores [.Tuple [.Name x px, .Name y py] kt pt] (.Tuple [a, b] k2 pt2) X.env = pure none)
    (hs : swapsWithSole [.Tuple [.Name x px, .Name y py] kt pt] (.Tuple [a, b] k2 pt2) pos.line X.env = pure false)
    (h1 : starEach [a, b] X.env = (false, eval a X.env) :: starEach [b] X.env) (h2 : starEach [b] X.env = (false, eval b X.env) :: starEach [] X.env)
    (g1 : (assignEach [.Tuple [.Name x px, .Name y py] kt pt] X.env).map (·.2) = [assign (.Tuple [.Name x px, .Name y py] kt pt) X.env])
    (g2 : (assignEach [.Name x px, .Name y py] X.env).map (·.2) = assign (.Name x px) X.env :: (assignEach [.Name y py] X.env).map (·.2)) (g3 : (assignEach [.Name y py] X.env).map (·.2) = assign (.Name y py) X.env :: (assignEach [] X.env).map (·.2))
    (hn : (assignEach [.Name x px, .Name y py] X.env).length = 2) (hst : (assignEach [.Name x px, .Name y py] X.env).findIdx? (·.1) = none) :
    PS X (.Assign [.Tuple [.Name x px, .Name y py] kt pt] (.Tuple [a, b] k2 pt2) pos) (TSt X.K E fx (mPar2 i j fa fb)) :=
  PS.imp (ps_parC hc hN hi hj hx hy gx gy (pa_cons ha (pa_cons hb pa_nil h2) h1) hw hs g1 g2 g3 hn hst) fun D σ H ⟨F, ρ, g, go⟩ => by
    refine ⟨F, ρ, g, (Go.bind (mPar2_go fi fj hij go)).mono ?_⟩
    rintro sx ρ1 F1 H1 ⟨g1, s1, sub1, go1⟩ v hv
    refine ⟨F1, ρ1, g1, (Go.bind go1).mono ?_⟩
    rintro sy ρ2 F2 H2 ⟨g2, s2, sub2, go2⟩ w hw
    refine ⟨v, w, rfl, ?_⟩
    have hv2 := hv.step g1 s2 sub2
    have hw2 : VR X.K σ ρ H ρ2 F2 H2 w sy := hw.from s1 sub1
    refine Go.pure go2 F2 H2 .refl g2 v w hv2 hw2 fun ox oy e => ?_
    have hr := hv.rep
    unfold Srep at hr
    rw [ox] at hr
    obtain ⟨c, ec, _, hc⟩ := hr
    have h3 := hw.new oy c (by rw [← e, ec])
    rcases h3.2 with q | q
    · exact hc.knd.some q
    · exact (hv.new ox c ec).1 q.hold
end
end Pv

set_option maxRecDepth 100000
/-! Pv, part W: a pure reading, worked out: rewriting rules. -/
namespace Pv
open PySem PySem.Spec L2
def R.to {α β : Type} (r : R α) (g : α → M β) : R β := match r with
  | .ok a ρ => g a ρ
  | .exc c d => .exc c d
  | .bad => .bad
section
variable {α β : Type}
@[simp] theorem bind_run (f : M α) (g : α → M β) (ρ : PEnv) : (f >>= g) ρ = (f ρ).to g := by
  show M.bind f g ρ = _
  unfold M.bind R.to
  cases f ρ <;> rfl
@[simp] theorem to_ok (a : α) (ρ : PEnv) (g : α → M β) : (R.ok a ρ).to g = g a ρ := id rfl
@[simp] theorem to_exc (c : Str) (d : PyData) (g : α → M β) : (R.exc c d : R α).to g = .exc c d := id rfl
@[simp] theorem to_bad (g : α → M β) : (R.bad : R α).to g = .bad := id rfl
@[simp] theorem pure_run (a : α) (ρ : PEnv) : (pure a : M α) ρ = .ok a ρ := id rfl
@[simp] theorem bad_run (ρ : PEnv) : (M.bad : M α) ρ = .bad := id rfl
@[simp] theorem lift_some (a : α) (ρ : PEnv) : lift (some a) ρ = .ok a ρ := id rfl
@[simp] theorem lift_none (ρ : PEnv) : lift (none : Option α) ρ = .bad := id rfl
end
/-- an operand's value -/
@[simp] theorem rslv_val (sv : SV) (ρ : PEnv) : rslv (.val sv) ρ = .ok sv ρ := id rfl
@[simp] theorem rslv_slot (i : Nat) (ρ : PEnv) : rslv (.slot i) ρ = match ρ[i]? with | some (some sv) => .ok sv ρ | _ => .bad := id rfl
@[simp] theorem mslot_run (i : Nat) (ρ : PEnv) : mslot i ρ = match ρ[i]? with | some (some _) => .ok (.slot i) ρ | _ => .bad := id rfl
@[simp] theorem mget_run (i : Nat) (ρ : PEnv) : mget i ρ = match ρ[i]? with
  | some (some ⟨d, .fr⟩) => .ok ⟨d, .fr⟩ ρ
  | some (some ⟨d, .ow⟩) => .ok ⟨d, .fr⟩ (ρ.set i (some ⟨d, .fr⟩))
  | _ => .bad := id rfl
@[simp] theorem frv_d (d : PyData) : frv d = ⟨d, .fr⟩ := id rfl
@[simp] theorem mArgI_run (i : Nat) (ρ : PEnv) : mArgI i ρ = match ρ[i]? with | some (some _) => .ok (.io i) ρ | _ => .bad := id rfl
@[simp] theorem putS_run (i : Nat) (d : PyData) (ρ : PEnv) : putS i d ρ = if i < ρ.length then .ok () (ρ.set i (some ⟨d, .fr⟩)) else .bad := id rfl
@[simp] theorem mWipe_run (vs : List Nat) (ρ : PEnv) : mWipe vs ρ = .ok () (wipeE ρ vs) := id rfl
@[simp] theorem putL_run (i : Nat) (ds : List PyData) (ρ : PEnv) : putL i ds ρ = .ok .nx (ρ.set i (some ⟨.list ds, .ow⟩)) := id rfl
@[simp] theorem ownL_run (i : Nat) (ρ : PEnv) : ownL i ρ = match ρ[i]? with | some (some ⟨.list ds, .ow⟩) => .ok ds ρ | _ => .bad := id rfl
@[simp] theorem mRetV_run (i : Nat) (ρ : PEnv) : mRetV i ρ = match ρ[i]? with
  | some (some ⟨d, .fr⟩) => .ok (.rt ⟨d, .fr⟩) ρ
  | some (some ⟨d, .ow⟩) => .ok (.rt ⟨d, .ow⟩) (ρ.set i none)
  | _ => .bad := id rfl
def stS (i : Nat) (sv : SV) : M Fl := fun ρ => if i < ρ.length then .ok .nx (ρ.set i (some sv)) else .bad
@[simp] theorem stS_run (i : Nat) (sv : SV) (ρ : PEnv) : stS i sv ρ = if i < ρ.length then .ok .nx (ρ.set i (some sv)) else .bad := id rfl
@[simp] theorem mSetS_run (i : Nat) (f : M SV) : mSetS i f = (f >>= fun sv => stS i sv) := by
  funext ρ
  rw [bind_run]
  show (match f ρ with | .ok sv ρ' => (if i < ρ'.length then R.ok Fl.nx (ρ'.set i (some sv)) else .bad) | .exc c d => .exc c d | .bad => .bad) = _
  cases f ρ <;> rfl
def st2 (i j : Nat) (x y : SV) : M Fl := fun ρ => if i < ρ.length ∧ j < ρ.length then .ok .nx ((ρ.set i (some x)).set j (some y)) else .bad
@[simp] theorem st2_run (i j : Nat) (x y : SV) (ρ : PEnv) : st2 i j x y ρ = if i < ρ.length ∧ j < ρ.length then .ok .nx ((ρ.set i (some x)).set j (some y)) else .bad := id rfl
@[simp] theorem mPar2_run (i j : Nat) (fa fb : M SV) : mPar2 i j fa fb = (fa >>= fun x => fb >>= fun y => st2 i j x y) := by
  funext ρ
  show (match (fa >>= fun x => fb >>= fun y => (pure (x, y) : M (SV × SV))) ρ with | .ok xy ρ' => (if i < ρ'.length ∧ j < ρ'.length then R.ok Fl.nx ((ρ'.set i (some xy.1)).set j (some xy.2)) else .bad) | .exc c d => .exc c d | .bad => .bad) = _
  rw [bind_run, bind_run]
  cases fa ρ with
  | ok x ρ1 =>
    rw [to_ok, to_ok, bind_run, bind_run]
    cases fb ρ1 <;> rfl
  | _ => rfl
/-- unfold the combinators -/
@[simp] theorem mval_e (f : M SV) : mval f = (f >>= fun sv => pure (.val sv)) := id rfl
@[simp] theorem mfz_e (f : M SV) : mfz f = (f >>= fun sv => pure sv.d) := id rfl
@[simp] theorem mcons_e {α : Type} (f : M α) (fs : M (List α)) : mcons f fs = (f >>= fun a => fs >>= fun as => pure (a :: as)) := id rfl
@[simp] theorem mnil_e {α : Type} : (mnil : M (List α)) = pure [] := id rfl
@[simp] theorem rslvs_nil : rslvs [] = pure [] := id rfl
@[simp] theorem rslvs_cons (o : Opd) (os : List Opd) : rslvs (o :: os) = (rslv o >>= fun sv => rslvs os >>= fun ds => pure (sv.d :: ds)) := id rfl
@[simp] theorem mOp2_e (g : PyData → PyData → Option SV) (fa fb : M Opd) : mOp2 g fa fb = (fa >>= fun a => fb >>= fun b => rslv a >>= fun x => rslv b >>= fun y => lift (g x.d y.d)) := id rfl
@[simp] theorem mOp1_e (g : PyData → Option SV) (fa : M Opd) : mOp1 g fa = (fa >>= fun a => rslv a >>= fun x => lift (g x.d)) := id rfl
@[simp] theorem mCall_e (g : List PyData → Option SV) (fs : M (List Opd)) : mCall g fs = (fs >>= fun os => rslvs os >>= fun ds => lift (g ds)) := id rfl
@[simp] theorem mTup_e (fs : M (List PyData)) : mTup fs = (fs >>= fun ds => lift (gTup ds)) := id rfl
@[simp] theorem mLst_e (fs : M (List PyData)) : mLst fs = (fs >>= fun ds => lift (gLst ds)) := id rfl
@[simp] theorem mPart_none : mPart none = pure none := id rfl
@[simp] theorem mPart_some (f : M Opd) : mPart (some f) = (f >>= fun o => rslv o >>= fun sv => match sv.d with | .int i => pure (some i) | _ => M.bad) := id rfl
@[simp] theorem mSl_e (f : M Opd) (lo hi : Option (M Opd)) : mSl f lo hi = (f >>= fun o => mPart lo >>= fun l => mPart hi >>= fun h => rslv o >>= fun sv => lift (gSl sv.d l h)) := id rfl
@[simp] theorem mAnd_e (fa fb : M Bool) : mAnd fa fb = (fa >>= fun a => if a = true then fb else pure false) := id rfl
@[simp] theorem mOr_e (fa fb : M Bool) : mOr fa fb = (fa >>= fun a => if a = true then pure true else fb) := id rfl
@[simp] theorem mNot_e (fa : M Bool) : mNot fa = (fa >>= fun a => pure (!a)) := id rfl
@[simp] theorem mIte_e {α : Type} (fc : M Bool) (fa fb : M α) : mIte fc fa fb = (fc >>= fun a => if a = true then fa else fb) := id rfl
@[simp] theorem mAndV_e (fa fb : M SV) : mAndV fa fb = (mB fa >>= fun a => if a = true then fb else pure ⟨.bool false, .fr⟩) := id rfl
@[simp] theorem mOrV_e (fa fb : M SV) : mOrV fa fb = (mB fa >>= fun a => if a = true then pure ⟨.bool true, .fr⟩ else fb) := id rfl
@[simp] theorem mNotV_e (fa : M SV) : mNotV fa = (mB fa >>= fun a => pure ⟨.bool (!a), .fr⟩) := id rfl
@[simp] theorem mRet_e (f : M SV) : mRet f = (f >>= fun sv => pure (.rt sv)) := id rfl
@[simp] theorem mIfS_e (fc : M Bool) (ft fe : M Fl) : mIfS fc ft fe = (fc >>= fun a => if a = true then ft else fe) := id rfl
@[simp] theorem mDrop_e {α : Type} (f : M α) : mDrop f = (f >>= fun _ => pure .nx) := id rfl
@[simp] theorem mSeq_e (f g : M Fl) : mSeq f g = (f >>= fun fl => match fl with | .nx => g | .rt sv => pure (.rt sv) | .bk => pure .bk | .ct => pure .ct) := by
  show (f >>= fun fl => match fl with | .nx => g | fl => pure fl) = _
  congr 1
  funext fl
  cases fl <;> rfl
@[simp] theorem tgNil_e : tgNil [] = pure () := id rfl
@[simp] theorem tgCons_e (f : PyData → M Unit) (fs : List PyData → M Unit) (d : PyData) (ds : List PyData) : tgCons f fs (d :: ds) = (f d >>= fun _ => fs ds) := id rfl
@[simp] theorem tgTup_t (n : Nat) (fs : List PyData → M Unit) (ds : List PyData) : tgTup n fs (.tuple ds) = if ds.length = n then fs ds else M.bad := id rfl
@[simp] theorem tgTup_l (n : Nat) (fs : List PyData → M Unit) (ds : List PyData) : tgTup n fs (.list ds) = if ds.length = n then fs ds else M.bad := id rfl
@[simp] theorem mFor_e (fi : M (List PyData)) (ft : PyData → M Unit) (fb : M Fl) : mFor fi ft fb = (fi >>= fun ds => forL ft fb ds) := id rfl
@[simp] theorem mArgF_e (f : M PyData) : mArgF f = (f >>= fun d => pure (.fz d)) := id rfl
@[simp] theorem mCallF_e (fd : FD) (fs : M (List Arg)) : mCallF fd fs = (fs >>= fun as => callF fd as) := id rfl
@[simp] theorem mIt_e (f : M PyData) : mIt f = (f >>= fun d => lift (srcD d)) := id rfl
@[simp] theorem mRg_e (g : List PyData → Option (List PyData)) (fs : M (List Opd)) : mRg g fs = (fs >>= fun os => rslvs os >>= fun ds => lift (g ds)) := id rfl
@[simp] theorem mSrcR_e (g : List PyData → Option (List PyData)) (fs : M (List Opd)) : mSrcR g fs = (fs >>= fun os => rslvs os >>= fun ds => lift (g ds)) := id rfl
@[simp] theorem mEn_e (f : M (List PyData)) : mEn f = (f >>= fun ds => pure (enumD 0 ds)) := id rfl
@[simp] theorem mZi2_e (f g : M (List PyData)) : mZi2 f g = (f >>= fun xs => g >>= fun ys => pure (zipD xs ys)) := id rfl
@[simp] theorem mZi3_e (f g h : M (List PyData)) : mZi3 f g h = (f >>= fun xs => g >>= fun ys => h >>= fun zs => pure (zip3D xs ys zs)) := id rfl
@[simp] theorem mAsgT_e (f : M PyData) (ft : PyData → M Unit) : mAsgT f ft = (f >>= fun d => ft d >>= fun _ => pure .nx) := id rfl
@[simp] theorem m2_e (fa fb : M SV) : m2 fa fb = (fa >>= fun x => fb >>= fun y => pure (x, y)) := id rfl
/-- a truth value -/
def asB (d : PyData) : M Bool := match d with | .bool b => pure b | _ => M.bad
@[simp] theorem asB_bool (b : Bool) : asB (.bool b) = pure b := id rfl
@[simp] theorem mB_e (f : M SV) : mB f = (f >>= fun sv => asB sv.d) := by
  show (f >>= fun sv => match sv.d with | .bool b => pure b | _ => M.bad) = _
  congr 1
@[simp] theorem mBO_e (f : M Opd) : mBO f = (f >>= fun o => rslv o >>= fun sv => asB sv.d) := by
  show (f >>= fun o => rslv o >>= fun sv => match sv.d with | .bool b => pure b | _ => M.bad) = _
  congr 1
@[simp] theorem mChain_e (g g' : PyData → PyData → Option SV) (fa fb fc : M Opd) : mChain g g' fa fb fc = (fa >>= fun oa => fb >>= fun ob => rslv oa >>= fun a => rslv ob >>= fun b => lift (g a.d b.d) >>= fun z => asB z.d >>= fun k =>
  if k = true then (fc >>= fun oc => rslv ob >>= fun b => rslv oc >>= fun c => lift (g' b.d c.d)) else pure ⟨.bool false, .fr⟩) := by
  show (fa >>= fun oa => fb >>= fun ob => rslv oa >>= fun a => rslv ob >>= fun b => lift (g a.d b.d) >>= fun z => match z.d with
  | .bool true => fc >>= fun oc => rslv ob >>= fun b => rslv oc >>= fun c => lift (g' b.d c.d)
  | .bool false => pure ⟨.bool false, .fr⟩
  | _ => M.bad) = _
  congr 1; funext oa; congr 1; funext ob; congr 1; funext a; congr 1; funext b; congr 1; funext z
  funext ρ
  cases z.d with
  | bool k => cases k <;> simp [asB]
  | _ => rfl
@[simp] theorem mAppend_e (i : Nat) (f : M PyData) : mAppend i f = (ownL i >>= fun _ => f >>= fun d => ownL i >>= fun ds => if ds.length < sizeLine then putL i (ds ++ [d]) else M.bad) := id rfl
@[simp] theorem mExtend_e (i : Nat) (f : M SV) : mExtend i f = (ownL i >>= fun _ => f >>= fun sv => ownL i >>= fun ds => match sv with
  | ⟨.list es, .ow⟩ => if ds.length + es.length ≤ sizeLine then putL i (ds ++ es) else M.bad
  | _ => M.bad) := id rfl
@[simp] theorem mSetIx_e (i : Nat) (f : M PyData) (fi : M Opd) : mSetIx i f fi = (f >>= fun d => ownL i >>= fun _ => fi >>= fun o => rslv o >>= fun sv => ownL i >>= fun ds => match sv.d with
  | .int k => (match ixN ds.length k with | some j => putL i (ds.set j d) | none => M.bad)
  | _ => M.bad) := id rfl
@[simp] theorem mRgV1_e (g : Int → Int → Option SV) (fa : M Opd) : mRgV1 g fa = (fa >>= fun o => rslv o >>= fun sv => match sv.d with | .int n => lift (g 0 n) | _ => M.bad) := id rfl
@[simp] theorem mRgV2_e (g : Int → Int → Option SV) (fa fb : M Opd) : mRgV2 g fa fb = (fa >>= fun o => fb >>= fun o2 => rslv o >>= fun sv => rslv o2 >>= fun sv2 => match sv.d, sv2.d with | .int m, .int n => lift (g m n) | _, _ => M.bad) := id rfl
@[simp] theorem mListZip_e (f g : M (List PyData)) : mListZip f g = (f >>= fun xs => g >>= fun ys => if min xs.length ys.length ≤ sizeLine then pure ⟨.list (zipD xs ys), .ow⟩ else M.bad) := id rfl
/-! ### operators on plain values -/
@[simp] theorem gI_int (c : Int → Int → Bool) (f : Int → Int → PyData) (i j : Int) : gI c f (.int i) (.int j) = if c i j = true then some ⟨f i j, .fr⟩ else none := id rfl
@[simp] theorem gAdd_int (i j : Int) : gAdd (.int i) (.int j) = some ⟨.int (i + j), .fr⟩ := id rfl
@[simp] theorem gSub_int (i j : Int) : gSub (.int i) (.int j) = some ⟨.int (i - j), .fr⟩ := id rfl
@[simp] theorem gMul_int (i j : Int) : gMul (.int i) (.int j) = if CMulA i j then some ⟨.int (i * j), .fr⟩ else none := by
  unfold gMul; rw [gI_int]; simp
@[simp] theorem gDiv_int (i j : Int) : gDiv (.int i) (.int j) = if CDivW i j then some ⟨.int (i / j), .fr⟩ else none := by
  unfold gDiv; rw [gI_int]; simp
@[simp] theorem gMod_int (i j : Int) : gMod (.int i) (.int j) = if 0 < j then some ⟨.int (i % j), .fr⟩ else none := by
  unfold gMod; rw [gI_int]; simp
@[simp] theorem gPow_int (i j : Int) : gPow (.int i) (.int j) = if CPowW i j then some ⟨.int (i ^ j.toNat), .fr⟩ else none := by
  unfold gPow; rw [gI_int]; simp
@[simp] theorem gNeg_int (i : Int) : gNeg (.int i) = some ⟨.int (-i), .fr⟩ := id rfl
@[simp] theorem gLt_int (i j : Int) : gLt (.int i) (.int j) = some ⟨.bool (decide (i < j)), .fr⟩ := id rfl
@[simp] theorem gLe_int (i j : Int) : gLe (.int i) (.int j) = some ⟨.bool (decide (i ≤ j)), .fr⟩ := id rfl
@[simp] theorem gGt_int (i j : Int) : gGtA (.int i) (.int j) = some ⟨.bool (decide (j < i)), .fr⟩ := id rfl
@[simp] theorem gGe_int (i j : Int) : gGe (.int i) (.int j) = some ⟨.bool (decide (j ≤ i)), .fr⟩ := id rfl
@[simp] theorem gIs_bool (n : Bool) (i j : Bool) : gIs n (.bool i) (.bool j) = some ⟨.bool (if n then !(i == j) else (i == j)), .fr⟩ := by cases n <;> cases i <;> cases j <;> rfl
@[simp] theorem gLen_list (ds : List PyData) : gLen [.list ds] = some ⟨.int ds.length, .fr⟩ := id rfl
@[simp] theorem gLen_tuple (ds : List PyData) : gLen [.tuple ds] = some ⟨.int ds.length, .fr⟩ := id rfl
@[simp] theorem gAbs_int (i : Int) : gAbs [.int i] = some ⟨.int (if i < 0 then -i else i), .fr⟩ := id rfl
@[simp] theorem gInt1_int (i : Int) : gInt1 [.int i] = some ⟨.int i, .fr⟩ := id rfl
@[simp] theorem gInt1_bool (b : Bool) : gInt1 [.bool b] = some ⟨.int (if b then 1 else 0), .fr⟩ := id rfl
@[simp] theorem gI2_int (f : Int → Int → Int) (i j : Int) : gI2 f [.int i, .int j] = some ⟨.int (f i j), .fr⟩ := id rfl
@[simp] theorem gListOf_list (ds : List PyData) : gListOf [.list ds] = some ⟨.list ds, .ow⟩ := id rfl
@[simp] theorem gListOf_tuple (ds : List PyData) : gListOf [.tuple ds] = some ⟨.list ds, .ow⟩ := id rfl
@[simp] theorem gTupleOf_list (ds : List PyData) : gTupleOf [.list ds] = some ⟨.tuple ds, .fr⟩ := id rfl
@[simp] theorem gTupleOf_tuple (ds : List PyData) : gTupleOf [.tuple ds] = some ⟨.tuple ds, .fr⟩ := id rfl
@[simp] theorem gSum_list (ns : List Int) : gSum [.list (ns.map .int)] = some ⟨.int ns.sum, .fr⟩ := by unfold gSum; simp only [asInts_map]; rfl
@[simp] theorem gSum_tuple (ns : List Int) : gSum [.tuple (ns.map .int)] = some ⟨.int ns.sum, .fr⟩ := by unfold gSum; simp only [asInts_map]; rfl
@[simp] theorem gAllAny_list (f : List Bool → Bool) (bs : List Bool) : gAllAny f [.list (bs.map .bool)] = some ⟨.bool (f bs), .fr⟩ := by unfold gAllAny; simp only [asBools_map]; rfl
@[simp] theorem gSl_list (ds : List PyData) (lo hi : Option Int) : gSl (.list ds) lo hi = some ⟨.list (cutD ds lo hi), .ow⟩ := id rfl
@[simp] theorem gSl_tuple (ds : List PyData) (lo hi : Option Int) : gSl (.tuple ds) lo hi = some ⟨.tuple (cutD ds lo hi), .fr⟩ := id rfl
@[simp] theorem gIxS_list (ds : List PyData) (i : Int) : gIxS (.list ds) (.int i) = (L2.atI ds i).map frv := id rfl
@[simp] theorem gIxS_tuple (ds : List PyData) (i : Int) : gIxS (.tuple ds) (.int i) = (L2.atI ds i).map frv := id rfl
@[simp] theorem srcD_list (ds : List PyData) : srcD (.list ds) = some ds := id rfl
@[simp] theorem srcD_tuple (ds : List PyData) : srcD (.tuple ds) = some ds := id rfl
theorem cutD_map {α β : Type} (f : α → β) (xs : List α) (lo hi : Option Int) : cutD (xs.map f) lo hi = (cutD xs lo hi).map f := by
  unfold cutD
  rw [List.length_map, ← List.map_drop, ← List.map_take]
@[simp] theorem isi_tuple_t (ds : List PyData) : isiD "tuple" (.tuple ds) = some ⟨.bool true, .fr⟩ := by unfold isiD tyD; simp only [show kitB "tuple" "tuple" = some true by decide +kernel]; rfl
@[simp] theorem isi_int_i (i : Int) : isiD "int" (.int i) = some ⟨.bool true, .fr⟩ := by unfold isiD tyD; simp only [show kitB "int" "int" = some true by decide +kernel]; rfl
@[simp] theorem isi_bool_i (i : Int) : isiD "bool" (.int i) = some ⟨.bool false, .fr⟩ := by unfold isiD tyD; simp only [show kitB "int" "bool" = some false by decide +kernel]; rfl
@[simp] theorem isi_str_s (x : Str) : isiD "str" (.str x) = some ⟨.bool true, .fr⟩ := by unfold isiD tyD; simp only [show kitB "str" "str" = some true by decide +kernel]; rfl
/-! ### calls -/
@[simp] theorem callF_run (fd : FD) (as : List Arg) (ρ : PEnv) : callF fd as ρ = match argsD ρ fd.io as with
  | none => .bad
  | some ds => if (ioS as).Nodup then
      match fd.g ds with
      | .ok sv outs => (match putO (ioS as) outs ρ with | some ρ' => if sv.o = .lk then .bad else .ok sv ρ' | none => .bad)
      | .exc c d => .exc c d
      | .bad => .bad
    else .bad := id rfl
@[simp] theorem argsD_nil (ρ : PEnv) : argsD ρ [] [] = some [] := id rfl
@[simp] theorem argsD_fz (ρ : PEnv) (io : List Bool) (d : PyData) (as : List Arg) : argsD ρ (false :: io) (.fz d :: as) = (argsD ρ io as).map (d :: ·) := id rfl
@[simp] theorem argsD_io (ρ : PEnv) (io : List Bool) (i : Nat) (as : List Arg) : argsD ρ (true :: io) (.io i :: as) = match ρ[i]? with | some (some ⟨d, .ow⟩) => (argsD ρ io as).map (d :: ·) | _ => none := by
  show (match (match ρ[i]? with | some (some ⟨d, .ow⟩) => some d | _ => none) with | some d => (argsD ρ io as).map (d :: ·) | none => none) = _
  cases ρ[i]? with
  | none => rfl
  | some o =>
    cases o with
    | none => rfl
    | some sv =>
      obtain ⟨d, o⟩ := sv
      cases o <;> rfl
@[simp] theorem ioS_nil : ioS [] = [] := id rfl
@[simp] theorem ioS_fz (d : PyData) (as : List Arg) : ioS (.fz d :: as) = ioS as := id rfl
@[simp] theorem ioS_io (i : Nat) (as : List Arg) : ioS (.io i :: as) = i :: ioS as := id rfl
@[simp] theorem putO_nil (ρ : PEnv) : putO [] [] ρ = some ρ := id rfl
@[simp] theorem putO_cons (i : Nat) (is : List Nat) (d : PyData) (ds : List PyData) (ρ : PEnv) : putO (i :: is) (d :: ds) ρ = putO is ds (ρ.set i (some ⟨d, .ow⟩)) := id rfl
@[simp] theorem env0_fz (io : List Bool) (d : PyData) (ds : List PyData) (n : Nat) : env0 (false :: io) (d :: ds) (n + 1) = some ⟨d, .fr⟩ :: env0 io ds n := id rfl
@[simp] theorem env0_io (io : List Bool) (d : PyData) (ds : List PyData) (n : Nat) : env0 (true :: io) (d :: ds) (n + 1) = some ⟨d, .ow⟩ :: env0 io ds n := id rfl
@[simp] theorem env0_nil (ds : List PyData) (n : Nat) : env0 [] ds n = List.replicate n none := by cases n <;> cases ds <;> rfl
@[simp] theorem outsOf_nil (ρ : PEnv) : outsOf [] ρ = some [] := by cases ρ <;> rfl
@[simp] theorem outsOf_fz (io : List Bool) (o : Option SV) (ρ : PEnv) : outsOf (false :: io) (o :: ρ) = outsOf io ρ := id rfl
@[simp] theorem outsOf_io (io : List Bool) (d : PyData) (ρ : PEnv) : outsOf (true :: io) (some ⟨d, .ow⟩ :: ρ) = (outsOf io ρ).map (d :: ·) := id rfl
/-- a def's run, from its body's -/
def Rf.of (io : List Bool) : R Fl → Rf
  | .ok (.rt sv) ρ => (match outsOf io ρ with | some outs => .ok sv outs | none => .bad)
  | .ok .nx ρ => (match outsOf io ρ with | some outs => .ok (frv .none) outs | none => .bad)
  | .exc c d => .exc c d
  | _ => .bad
theorem runF_e (io : List Bool) (n : Nat) (b : M Fl) (ds : List PyData) : runF io n b ds = Rf.of io (b (env0 io ds n)) := by
  unfold runF Rf.of
  rfl
@[simp] theorem rf_rt (io : List Bool) (sv : SV) (ρ : PEnv) : Rf.of io (.ok (.rt sv) ρ) = match outsOf io ρ with | some outs => .ok sv outs | none => .bad := id rfl
@[simp] theorem rf_nx (io : List Bool) (ρ : PEnv) : Rf.of io (.ok .nx ρ) = match outsOf io ρ with | some outs => .ok ⟨.none, .fr⟩ outs | none => .bad := id rfl
theorem mSeq_nx {f g : M Fl} {ρ ρ' : PEnv} (h : f ρ = .ok .nx ρ') : mSeq f g ρ = g ρ' := by rw [mSeq_e, bind_run, h]; rfl
theorem mSeq_rt {f g : M Fl} {ρ ρ' : PEnv} {sv : SV} (h : f ρ = .ok (.rt sv) ρ') : mSeq f g ρ = .ok (.rt sv) ρ' := by rw [mSeq_e, bind_run, h]; rfl
/-! ### loops -/
@[simp] theorem forL_nil (ft : PyData → M Unit) (fb : M Fl) : forL ft fb [] = pure .nx := id rfl
theorem forL_cons (ft : PyData → M Unit) (fb : M Fl) (d : PyData) (ds : List PyData) : forL ft fb (d :: ds) = (ft d >>= fun _ => fb >>= fun fl => match fl with
  | .nx => forL ft fb ds
  | .ct => forL ft fb ds
  | .bk => pure .nx
  | .rt sv => pure (.rt sv)) := id rfl
/-- a loop that runs to its end: I i is what stands ahead of turn i -/
theorem forL_all {ft : PyData → M Unit} {fb : M Fl} (I : Nat → PEnv) : ∀ (ds : List PyData) (k : Nat), (∀ (i : Nat) (d : PyData), ds[i]? = some d → ∃ fl, (fl = .nx ∨ fl = .ct) ∧ (ft d >>= fun _ => fb) (I (k + i)) = .ok fl (I (k + i + 1))) → forL ft fb ds (I k) = .ok .nx (I (k + ds.length))
  | [], k, _ => rfl
  | d :: ds, k, h => by
    have h0 := h 0 d rfl
    obtain ⟨fl, hfl, e⟩ := h0
    have ih := forL_all I ds (k + 1) fun i d' hd => by
      have := h (i + 1) d' (by simpa using hd)
      rw [show k + (i + 1) = k + 1 + i by omega] at this
      exact this
    rw [forL_cons]
    rw [bind_run] at e ⊢
    cases e1 : ft d (I k) with
    | bad => rw [Nat.add_zero, e1] at e; cases e
    | exc c x => rw [Nat.add_zero, e1] at e; cases e
    | ok u ρ =>
      rw [Nat.add_zero, e1] at e
      have e : fb ρ = .ok fl (I (k + 1)) := e
      show (fb >>= _) ρ = _
      rw [bind_run, e]
      rw [show k + (d :: ds).length = k + 1 + ds.length by simp only [List.length_cons]; omega]
      rcases hfl with rfl | rfl <;> exact ih
/-- the loop's turn at which it ends -/
theorem forL_stop {ft : PyData → M Unit} {fb : M Fl} (I : Nat → PEnv) {R0 : R Fl} : ∀ (ds : List PyData) (k n : Nat), n < ds.length → (∀ (i : Nat) (d : PyData), i < n → ds[i]? = some d → ∃ fl, (fl = .nx ∨ fl = .ct) ∧ (ft d >>= fun _ => fb) (I (k + i)) = .ok fl (I (k + i + 1))) →
    (∀ d, ds[n]? = some d → (∃ sv ρ, (ft d >>= fun _ => fb) (I (k + n)) = .ok (.rt sv) ρ ∧ R0 = .ok (.rt sv) ρ) ∨ ∃ ρ, (ft d >>= fun _ => fb) (I (k + n)) = .ok .bk ρ ∧ R0 = .ok .nx ρ) → forL ft fb ds (I k) = R0
  | [], k, n, hn, _, _ => by simp at hn
  | d :: ds, k, 0, hn, h, hs => by
    rw [forL_cons]
    rcases hs d rfl with ⟨sv, ρ, e, e2⟩ | ⟨ρ, e, e2⟩
    · rw [bind_run] at e ⊢
      cases e1 : ft d (I k) with
      | bad => rw [Nat.add_zero, e1] at e; cases e
      | exc c x => rw [Nat.add_zero, e1] at e; cases e
      | ok u ρ1 =>
        rw [Nat.add_zero, e1] at e
        have e : fb ρ1 = .ok (.rt sv) ρ := e
        show (fb >>= _) ρ1 = _
        rw [bind_run, e, e2]; rfl
    · rw [bind_run] at e ⊢
      cases e1 : ft d (I k) with
      | bad => rw [Nat.add_zero, e1] at e; cases e
      | exc c x => rw [Nat.add_zero, e1] at e; cases e
      | ok u ρ1 =>
        rw [Nat.add_zero, e1] at e
        have e : fb ρ1 = .ok .bk ρ := e
        show (fb >>= _) ρ1 = _
        rw [bind_run, e, e2]; rfl
  | d :: ds, k, n + 1, hn, h, hs => by
    obtain ⟨fl, hfl, e⟩ := h 0 d (Nat.succ_pos _) rfl
    have ih := forL_stop I ds (k + 1) n (by simpa using hn) (fun i d' hi hd => by
      have := h (i + 1) d' (by omega) (by simpa using hd)
      rw [show k + (i + 1) = k + 1 + i by omega] at this
      exact this) fun d' hd => by
      have := hs d' (by simpa using hd)
      rw [show k + (n + 1) = k + 1 + n by omega] at this
      exact this
    rw [forL_cons]
    rw [bind_run] at e ⊢
    cases e1 : ft d (I k) with
    | bad => rw [Nat.add_zero, e1] at e; cases e
    | exc c x => rw [Nat.add_zero, e1] at e; cases e
    | ok u ρ =>
      rw [Nat.add_zero, e1] at e
      have e : fb ρ = .ok fl (I (k + 1)) := e
      show (fb >>= _) ρ = _
      rw [bind_run, e]
      rcases hfl with rfl | rfl <;> exact ih
/-! ### comprehensions -/
/-- one turn of a comprehension: the item kept, if any -/
def lcT (vs : List Nat) (ft : PyData → M Unit) (tt : M Bool) (te : M PyData) (d : PyData) : M (Option PyData) :=
  ft d >>= fun _ => tt >>= fun c => if c = true then (te >>= fun y => mWipe vs >>= fun _ => pure (some y)) else (mWipe vs >>= fun _ => pure none)
theorem lcL_run {α : Type} {vs : List Nat} {ft : PyData → M Unit} {tt : M Bool} {te : M PyData} {ρw : PEnv} (dec : α → PyData) (g : α → Option PyData) : ∀ (xs : List α) (acc : List PyData), acc.length + xs.length ≤ sizeLine →
    (∀ x ∈ xs, lcT vs ft tt te (dec x) ρw = .ok (g x) ρw) → lcL vs ft tt te (xs.map dec) acc ρw = .ok (acc ++ xs.filterMap g) ρw
  | [], acc, _, _ => by
    show R.ok acc ρw = _
    simp
  | x :: xs, acc, hl, h => by
    have e1 := h x List.mem_cons_self
    have ih := fun acc' hl' => lcL_run (vs := vs) (ft := ft) (tt := tt) (te := te) (ρw := ρw) dec g xs acc' hl' fun y hy => h y (List.mem_cons_of_mem _ hy)
    show (ft (dec x) >>= fun _ => tt >>= fun c => if c = true then (te >>= fun y => mWipe vs >>= fun _ => if acc.length < sizeLine then lcL vs ft tt te (xs.map dec) (acc ++ [y]) else M.bad) else (mWipe vs >>= fun _ => lcL vs ft tt te (xs.map dec) acc)) ρw = _
    unfold lcT at e1
    rw [bind_run] at e1 ⊢
    cases e0 : ft (dec x) ρw with
    | bad => rw [e0] at e1; cases e1
    | exc c d => rw [e0] at e1; cases e1
    | ok u ρ0 =>
      rw [e0, to_ok, bind_run] at e1
      rw [to_ok, bind_run]
      simp only [List.length_cons] at hl
      cases e2 : tt ρ0 with
      | bad => rw [e2] at e1; cases e1
      | exc c d => rw [e2] at e1; cases e1
      | ok c ρ1 =>
        rw [e2, to_ok] at e1
        rw [to_ok]
        cases c with
        | false =>
          simp only [Bool.false_eq_true, if_false, bind_run, mWipe_run, to_ok, pure_run] at e1 ⊢
          have eg : none = g x ∧ wipeE ρ1 vs = ρw := by
            injection e1 with a b
            exact ⟨a, b⟩
          rw [eg.2, ih acc (by omega), List.filterMap_cons_none eg.1.symm]
        | true =>
          simp only [if_true, bind_run] at e1 ⊢
          cases e3 : te ρ1 with
          | bad => rw [e3] at e1; cases e1
          | exc c d => rw [e3] at e1; cases e1
          | ok y ρ2 =>
            rw [e3, to_ok] at e1
            rw [to_ok]
            simp only [bind_run, mWipe_run, to_ok, pure_run] at e1 ⊢
            have eg : some y = g x ∧ wipeE ρ2 vs = ρw := by
              injection e1 with a b
              exact ⟨a, b⟩
            rw [eg.2, if_pos (by omega), ih _ (by rw [List.length_append]; simp only [List.length_singleton]; omega), List.filterMap_cons_some eg.1.symm]
            simp
/-- slots that are plain ahead of a block are so behind it -/
theorem restE_wipe {ρ : PEnv} : ∀ {vs : List Nat}, plainAt ρ vs = true → restE ρ (wipeE ρ vs) vs = ρ := by
  intro vs h
  apply List.ext_getElem?
  intro i
  by_cases hi : i ∈ vs
  · have := List.all_eq_true.mp h i hi
    by_cases hl : i < ρ.length
    · rw [restE_in hi (by rw [wipeE_length]; exact hl)]
      rw [List.getElem?_eq_getElem hl]
      rfl
    · rw [List.getElem?_eq_none (by rw [restE_length, wipeE_length]; omega), List.getElem?_eq_none (by omega)]
  · rw [restE_out hi, wipeE_out hi]
/-- a whole comprehension -/
theorem mLc_run {α : Type} {fi : M (List PyData)} {vs : List Nat} {ft : PyData → M Unit} {tt : M Bool} {te : M PyData} {ρ ρ1 : PEnv} (dec : α → PyData) (g : α → Option PyData) (xs : List α) (hi : fi ρ = .ok (xs.map dec) ρ1) (hp : plainAt ρ1 vs = true) (hl : xs.length ≤ sizeLine)
    (h : ∀ x ∈ xs, lcT vs ft tt te (dec x) (wipeE ρ1 vs) = .ok (g x) (wipeE ρ1 vs)) : mLc fi vs ft tt te ρ = .ok ⟨.list (xs.filterMap g), .ow⟩ ρ1 := by
  show (fi >>= fun ds => mBlk vs (lcL vs ft tt te ds []) >>= fun ys => (pure ⟨.list ys, .ow⟩ : M SV)) ρ = _
  rw [bind_run, hi, to_ok, bind_run]
  have e : mBlk vs (lcL vs ft tt te (xs.map dec) []) ρ1 = .ok (xs.filterMap g) ρ1 := by
    unfold mBlk
    rw [if_pos hp, lcL_run dec g xs [] (by simpa using hl) h, List.nil_append]
    dsimp only
    rw [restE_wipe hp]
  rw [e]; rfl
/-- .. that keeps all -/
theorem mLc_all {α : Type} {fi : M (List PyData)} {vs : List Nat} {ft : PyData → M Unit} {tt : M Bool} {te : M PyData} {ρ ρ1 : PEnv} (dec : α → PyData) (g : α → PyData) (xs : List α) (hi : fi ρ = .ok (xs.map dec) ρ1) (hp : plainAt ρ1 vs = true) (hl : xs.length ≤ sizeLine)
    (h : ∀ x ∈ xs, lcT vs ft tt te (dec x) (wipeE ρ1 vs) = .ok (some (g x)) (wipeE ρ1 vs)) : mLc fi vs ft tt te ρ = .ok ⟨.list (xs.map g), .ow⟩ ρ1 := by
  rw [mLc_run dec (fun x => some (g x)) xs hi hp hl h]
  have e : xs.filterMap (fun x => some (g x)) = xs.map g := by
    clear h hl hi
    induction xs with
    | nil => rfl
    | cons x xs ih => simp [ih]
  rw [e]
@[simp] theorem lcT_e (vs : List Nat) (ft : PyData → M Unit) (tt : M Bool) (te : M PyData) (d : PyData) : lcT vs ft tt te d = (ft d >>= fun _ => tt >>= fun c => if c = true then (te >>= fun y => mWipe vs >>= fun _ => pure (some y)) else (mWipe vs >>= fun _ => pure none)) := id rfl
@[simp] theorem wipeE_nil (ρ : PEnv) : wipeE ρ [] = ρ := id rfl
@[simp] theorem wipeE_cons (ρ : PEnv) (v : Nat) (vs : List Nat) : wipeE ρ (v :: vs) = (wipeE ρ vs).set v none := id rfl
end Pv

set_option maxRecDepth 100000
/-! Pv, part X: data of whole numbers: equality, places, walks. -/
namespace Pv
open PySem PySem.Spec L2
theorem canLay_ints : ∀ ns : List Int, PyData.canLayAll0 (ns.map PyData.int) = true
  | [] => by simp [PyData.canLayAll0]
  | n :: ns => by
    rw [List.map_cons]
    unfold PyData.canLayAll0
    rw [canLay_ints ns]
    simp [PyData.canLay0]
theorem depth_ints : ∀ ns : List Int, PyData.depthAll (ns.map PyData.int) ≤ 1
  | [] => by simp [PyData.depthAll]
  | n :: ns => by
    have ih := depth_ints ns
    rw [List.map_cons]
    unfold PyData.depthAll
    have : PyData.depth (.int n) ≤ 1 := by simp [PyData.depth]
    omega
@[simp] theorem shaped_int (i : Int) : SeqAt.shaped (.int i) = true := by simp [SeqAt.shaped, PyData.canLay0, PyData.depth]
@[simp] theorem shaped_bool (i : Bool) : SeqAt.shaped (.bool i) = true := by simp [SeqAt.shaped, PyData.canLay0, PyData.depth]
@[simp] theorem shaped_none : SeqAt.shaped .none = true := by simp [SeqAt.shaped, PyData.canLay0, PyData.depth]
theorem shaped_str {x : Str} (h : PyData.strOk x = true) : SeqAt.shaped (.str x) = true := by simp [SeqAt.shaped, PyData.canLay0, PyData.depth, h]
@[simp] theorem shaped_list_ints (ns : List Int) : SeqAt.shaped (.list (ns.map .int)) = true := by
  have h : PyData.depthAll (ns.map PyData.int) + 1 ≤ 64 := by have := depth_ints ns; omega
  unfold SeqAt.shaped
  simp only [PyData.canLay0, canLay_ints, Bool.true_and, decide_eq_true_eq]
  unfold PyData.depth
  exact h
@[simp] theorem shaped_tuple_ints (ns : List Int) : SeqAt.shaped (.tuple (ns.map .int)) = true := by
  have h : PyData.depthAll (ns.map PyData.int) + 1 ≤ 64 := by have := depth_ints ns; omega
  unfold SeqAt.shaped
  simp only [PyData.canLay0, canLay_ints, Bool.true_and, decide_eq_true_eq]
  unfold PyData.depth
  exact h
@[simp] theorem shaped_list_nil : SeqAt.shaped (.list []) = true := shaped_list_ints []
@[simp] theorem gEq_int (n : Bool) (i j : Int) : gEq n (.int i) (.int j) = some ⟨.bool (if n then !(i == j) else (i == j)), .fr⟩ := by
  unfold gEq
  simp [PyData.eqv]
@[simp] theorem gEq_bool (n : Bool) (i j : Bool) : gEq n (.bool i) (.bool j) = some ⟨.bool (if n then !(i == j) else (i == j)), .fr⟩ := by
  unfold gEq
  simp [PyData.eqv]
theorem gEq_str (n : Bool) {x y : Str} (hx : PyData.strOk x = true) (hy : PyData.strOk y = true) : gEq n (.str x) (.str y) = some ⟨.bool (if n then !(x == y) else (x == y)), .fr⟩ := by
  unfold gEq
  rw [shaped_str hx, shaped_str hy]
  simp [PyData.eqv]
@[simp] theorem gEq_list_nil (n : Bool) (ns : List Int) : gEq n (.list (ns.map .int)) (.list []) = some ⟨.bool (if n then !ns.isEmpty else ns.isEmpty), .fr⟩ := by
  unfold gEq
  rw [shaped_list_ints, shaped_list_nil]
  cases ns <;> simp [PyData.eqv, PyData.eqvAll]
theorem eqvAll_ints : ∀ xs ys : List Int, PyData.eqvAll (xs.map .int) (ys.map .int) = (xs == ys)
  | [], [] => by simp [PyData.eqvAll]
  | [], _ :: _ => by simp [PyData.eqvAll]
  | _ :: _, [] => by simp [PyData.eqvAll]
  | x :: xs, y :: ys => by
    rw [List.map_cons, List.map_cons]
    unfold PyData.eqvAll
    rw [eqvAll_ints xs ys]
    simp [PyData.eqv]
@[simp] theorem gEq_tuple_ints (n : Bool) (xs ys : List Int) : gEq n (.tuple (xs.map .int)) (.tuple (ys.map .int)) = some ⟨.bool (if n then !(xs == ys) else (xs == ys)), .fr⟩ := by
  unfold gEq
  rw [shaped_tuple_ints, shaped_tuple_ints]
  simp only [PyData.eqv, eqvAll_ints]
  simp
theorem small {n : Nat} (h : n ≤ 1000) : n ≤ sizeLine := Nat.le_of_lt (small1000 h)
theorem smallT {n : Nat} (h : n < 1000) : n < sizeLine := small1000 (by omega)
/-- places -/
def nth (ns : List Int) (k : Nat) : Int := ns.getD k 0
theorem nth_some {ns : List Int} {k : Nat} (h : k < ns.length) : ns[k]? = some (nth ns k) := by
  unfold nth
  rw [List.getD_eq_getElem?_getD, List.getElem?_eq_getElem h]; rfl
theorem nth_of {ns : List Int} {k : Nat} {x : Int} (h : ns[k]? = some x) : nth ns k = x := by
  unfold nth
  rw [List.getD_eq_getElem?_getD, h]; rfl
theorem at_nth {ns : List Int} {k : Nat} (h : k < ns.length) : L2.atI (ns.map PyData.int) (k : Int) = some (.int (nth ns k)) := atI_nat (by
  rw [List.getElem?_map, nth_some h]; rfl)
theorem at_getL {α : Type} {f : α → PyData} {ns : List α} {k : Nat} {x : α} (h : ns[k]? = some x) : L2.atI (ns.map f) (k : Int) = some (f x) := atI_nat (by
  rw [List.getElem?_map, h]; rfl)
theorem at_last {ns : List Int} {x : Int} (h : ns.getLast? = some x) : L2.atI (ns.map PyData.int) (-1) = some (.int x) := by
  obtain ⟨ys, rfl⟩ := List.getLast?_eq_some_iff.mp h
  rw [List.map_append, List.map_singleton]
  exact atI_last _ _
theorem cut_from {α : Type} {ns : List α} {a : Nat} (h1 : a ≤ ns.length) : cutD ns (some (a : Int)) none = ns.drop a := by
  unfold cutD
  rw [HT.sIx_nat, HT.sIx_none, Nat.min_eq_left h1, List.take_of_length_le (by rw [List.length_drop]; omega)]
theorem cut_to {α : Type} {ns : List α} {b : Nat} (h1 : b ≤ ns.length) : cutD ns none (some (b : Int)) = ns.take b := by
  unfold cutD
  rw [HT.sIx_nat, HT.sIx_none, Nat.min_eq_left h1, List.drop_zero, Nat.sub_zero]
theorem cut_both {α : Type} {ns : List α} {a b : Nat} (h1 : a ≤ ns.length) (h2 : b ≤ ns.length) : cutD ns (some (a : Int)) (some (b : Int)) = (ns.drop a).take (b - a) := by
  unfold cutD
  rw [HT.sIx_nat, HT.sIx_nat, Nat.min_eq_left h1, Nat.min_eq_left h2]
theorem enumD_ext {ds : List PyData} {i : Nat} {d : PyData} (h : (enumD 0 ds)[i]? = some d) : ∃ x, ds[i]? = some x ∧ d = .tuple [.int (i : Nat), x] := by
  have hl : i < ds.length := by
    have := (List.getElem?_eq_some_iff.mp h).1
    rwa [enumD_length] at this
  have e := enumD_get ds 0 i _ (List.getElem?_eq_getElem hl)
  rw [h, Nat.zero_add] at e
  exact ⟨_, List.getElem?_eq_getElem hl, Option.some.inj e⟩
theorem enumD_range (f : Nat → PyData) (m : Nat) : enumD 0 ((List.range m).map f) = (List.range m).map fun k => .tuple [.int (k : Nat), f k] := by
  apply List.ext_getElem?
  intro i
  by_cases h : i < m
  · rw [List.getElem?_map, List.getElem?_range h]
    have := enumD_get ((List.range m).map f) 0 i (f i) (by rw [List.getElem?_map, List.getElem?_range h]; rfl)
    rw [this, Nat.zero_add]; rfl
  · rw [List.getElem?_eq_none (by rw [enumD_length, List.length_map, List.length_range]; omega), List.getElem?_eq_none (by rw [List.length_map, List.length_range]; omega)]
theorem list_range {α : Type} (d : α) (xs : List α) : xs = (List.range xs.length).map fun k => xs.getD k d := by
  apply List.ext_getElem?
  intro i
  by_cases h : i < xs.length
  · rw [List.getElem?_map, List.getElem?_range h]
    show _ = some (xs.getD i d)
    rw [List.getD_eq_getElem?_getD, List.getElem?_eq_getElem h]; rfl
  · rw [List.getElem?_eq_none (by omega), List.getElem?_eq_none (by rw [List.length_map, List.length_range]; omega)]
theorem rgD_range (m : Nat) : rgD 0 m = (List.range m).map fun k => PyData.int (k : Nat) := by
  unfold rgD
  apply List.map_congr_left
  intro k _
  simp
@[simp] theorem rg1_int (j : Nat) (h : j < 4611686018427387904) : rg1 [.int (j : Int)] = some (rgD 0 j) := by
  simp only [rg1]
  rw [if_pos (by omega), Int.toNat_natCast]
@[simp] theorem rg2_int (i j : Nat) (h : i < 4611686018427387904) (h2 : j < 4611686018427387904) : rg2 [.int (i : Int), .int (j : Int)] = some (rgD i (j - i)) := by
  simp only [rg2]
  rw [if_pos (by omega), show ((j : Int) - (i : Int)).toNat = j - i by omega]
theorem cmul_l {i j : Int} (h1 : -18446744073709551616 < i) (h2 : i < 18446744073709551616) : CMulA i j := .inl (.inl ⟨by omega, by omega⟩)
theorem cmul_r {i j : Int} (h1 : -18446744073709551616 < j) (h2 : j < 18446744073709551616) : CMulA i j := .inl (.inr ⟨by omega, by omega⟩)
@[simp] theorem cmul_two (j : Int) : CMulA 2 j = True := eq_true (cmul_l (by omega) (by omega))
@[simp] theorem cdiv_two (i : Int) : CDivW i 2 = True := eq_true (by unfold CDivW; decide)
@[simp] theorem gTup_few (ds : List PyData) (h : ds.length ≤ 1000) : gTup ds = some ⟨.tuple ds, .fr⟩ := by unfold gTup; rw [if_pos (small h)]; rfl
@[simp] theorem gLst_few (ds : List PyData) (h : ds.length ≤ 1000) : gLst ds = some ⟨.list ds, .ow⟩ := by unfold gLst; rw [if_pos (small h)]
end Pv
namespace Pv
open PySem PySem.Spec L2
theorem at_rng {f : Nat → PyData} {m k : Nat} (h : k < m) : L2.atI ((List.range m).map f) (k : Int) = some (f k) := atI_nat (by rw [List.getElem?_map, List.getElem?_range h]; rfl)
theorem at_rng0 {f : Nat → PyData} {m : Nat} (h : 0 < m) : L2.atI ((List.range m).map f) 0 = some (f 0) := at_rng (k := 0) h
theorem cut1 {α : Type} (ns : List α) : cutD ns (some 1) none = ns.drop 1 := by
  cases ns with
  | nil => rfl
  | cons x xs => exact cut_from (a := 1) (by simp)
theorem rng_push {f : Nat → PyData} {m : Nat} : (List.range m).map f ++ [f m] = (List.range (m + 1)).map f := by rw [List.range_succ, List.map_append]; rfl
end Pv
namespace Pv
open PySem PySem.Spec L2
theorem filterMap_if {α β : Type} (p : α → Bool) (f : α → β) : ∀ xs : List α, xs.filterMap (fun x => if p x = true then some (f x) else none) = (xs.filter p).map f
  | [] => rfl
  | x :: xs => by
    have ih := filterMap_if p f xs
    cases h : p x with
    | true => rw [List.filterMap_cons_some (b := f x) (by simp [h]), List.filter_cons_of_pos h, ih]; rfl
    | false => rw [List.filterMap_cons_none (by simp [h]), List.filter_cons_of_neg (by simp [h]), ih]
theorem at_last_map {α : Type} {f : α → PyData} {xs : List α} {x : α} (h : xs.getLast? = some x) : L2.atI (xs.map f) (-1) = some (f x) := by
  obtain ⟨ys, rfl⟩ := List.getLast?_eq_some_iff.mp h
  rw [List.map_append, List.map_singleton]
  exact atI_last _ _
theorem at_head {x : PyData} {xs : List PyData} : L2.atI (x :: xs) 0 = some x := atI_nat (j := 0) rfl
theorem at_one {x y : PyData} {xs : List PyData} : L2.atI (x :: y :: xs) 1 = some y := atI_nat (j := 1) rfl
theorem at_two {x y z : PyData} {xs : List PyData} : L2.atI (x :: y :: z :: xs) 2 = some z := atI_nat (j := 2) rfl
@[simp] theorem ite_not_lk : (Ow.fr = Ow.lk) = False := by simp
@[simp] theorem ite_not_lk2 : (Ow.ow = Ow.lk) = False := by simp
end Pv
namespace Pv
open PySem PySem.Spec L2
theorem map_nat_int {α : Type} (f : α → Int) (xs : List α) : (xs.map fun k => PyData.int (f k)) = (xs.map f).map PyData.int := by rw [List.map_map]; rfl
@[simp] theorem gEq_mapint_nil {α : Type} (n : Bool) (f : α → Int) (xs : List α) : gEq n (.list (xs.map fun k => PyData.int (f k))) (.list []) = some ⟨.bool (if n then !xs.isEmpty else xs.isEmpty), .fr⟩ := by
  rw [map_nat_int, gEq_list_nil]
  cases xs <;> rfl
@[simp] theorem gEq_nil_nil (n : Bool) : gEq n (.list []) (.list []) = some ⟨.bool (if n then false else true), .fr⟩ := by
  have h := gEq_list_nil n []
  simpa using h
end Pv

set_option maxRecDepth 100000
/-! Pv, part Y: least and greatest of whole numbers and of pairs; pairs as data; loops and blocks by what holds at each turn. -/
namespace Pv
open PySem PySem.Spec L2
theorem alikeOk_ints (ns : List Int) : alikeOk (ns.map .int) = true := by
  unfold alikeOk
  simp only [Bool.and_eq_true, decide_eq_true_eq, List.all_eq_true]
  refine ⟨⟨⟨?_, ?_⟩, canLay_ints ns⟩, by have := depth_ints ns; omega⟩
  · intro x hx y hy
    obtain ⟨i, _, rfl⟩ := List.mem_map.mp hx
    obtain ⟨j, _, rfl⟩ := List.mem_map.mp hy
    simp [PySem.W.alike]
  · intro x hx
    obtain ⟨i, _, rfl⟩ := List.mem_map.mp hx
    rfl
theorem best_max (n : Int) (ns : List Int) : gBest PySem.W.maxD [.list ((n :: ns).map .int)] = some ⟨.int (ns.foldl max n), .fr⟩ := by
  have h := alikeOk_ints (n :: ns)
  rw [List.map_cons] at h ⊢
  rw [gBest_list h, PySem.W.maxD_ints]; rfl
theorem best_min (n : Int) (ns : List Int) : gBest PySem.W.minD [.list ((n :: ns).map .int)] = some ⟨.int (ns.foldl min n), .fr⟩ := by
  have h := alikeOk_ints (n :: ns)
  rw [List.map_cons] at h ⊢
  rw [gBest_list h, PySem.W.minD_ints]; rfl
theorem best_maxT (n : Int) (ns : List Int) : gBest PySem.W.maxD [.tuple ((n :: ns).map .int)] = some ⟨.int (ns.foldl max n), .fr⟩ := by
  have h := alikeOk_ints (n :: ns)
  rw [List.map_cons] at h ⊢
  rw [gBest_tuple h, PySem.W.maxD_ints]; rfl
theorem best_minT (n : Int) (ns : List Int) : gBest PySem.W.minD [.tuple ((n :: ns).map .int)] = some ⟨.int (ns.foldl min n), .fr⟩ := by
  have h := alikeOk_ints (n :: ns)
  rw [List.map_cons] at h ⊢
  rw [gBest_tuple h, PySem.W.minD_ints]; rfl
/-- the greatest, the least of some numbers (0 for none) -/
def mxI : List Int → Int
  | [] => 0
  | n :: ns => ns.foldl max n
def mnI : List Int → Int
  | [] => 0
  | n :: ns => ns.foldl min n
theorem best_mx {ns : List Int} (h : ns ≠ []) : gBest PySem.W.maxD [.list (ns.map .int)] = some ⟨.int (mxI ns), .fr⟩ := by
  cases ns with
  | nil => exact absurd rfl h
  | cons n ns => exact best_max n ns
theorem best_mn {ns : List Int} (h : ns ≠ []) : gBest PySem.W.minD [.list (ns.map .int)] = some ⟨.int (mnI ns), .fr⟩ := by
  cases ns with
  | nil => exact absurd rfl h
  | cons n ns => exact best_min n ns
theorem best_mxT {ns : List Int} (h : ns ≠ []) : gBest PySem.W.maxD [.tuple (ns.map .int)] = some ⟨.int (mxI ns), .fr⟩ := by
  cases ns with
  | nil => exact absurd rfl h
  | cons n ns => exact best_maxT n ns
theorem best_mnT {ns : List Int} (h : ns ≠ []) : gBest PySem.W.minD [.tuple (ns.map .int)] = some ⟨.int (mnI ns), .fr⟩ := by
  cases ns with
  | nil => exact absurd rfl h
  | cons n ns => exact best_minT n ns
theorem foldl_mx : ∀ (ns : List Int) (m : Int), m ≤ ns.foldl max m ∧ (∀ x ∈ ns, x ≤ ns.foldl max m) ∧ (ns.foldl max m = m ∨ ns.foldl max m ∈ ns)
  | [], m => ⟨Int.le_refl _, fun x h => (nomatch h), .inl rfl⟩
  | x :: xs, m => by
    obtain ⟨h1, h2, h3⟩ := foldl_mx xs (max m x)
    rw [List.foldl_cons]
    refine ⟨by omega, fun y hy => ?_, ?_⟩
    · rcases List.mem_cons.mp hy with e | hy
      · subst e; omega
      · exact h2 y hy
    · rcases h3 with h3 | h3
      · by_cases q : m ≤ x
        · right
          rw [h3, show max m x = x by omega]; exact List.mem_cons_self
        · left
          rw [h3]; omega
      · exact .inr (List.mem_cons_of_mem _ h3)
theorem foldl_mn : ∀ (ns : List Int) (m : Int), ns.foldl min m ≤ m ∧ (∀ x ∈ ns, ns.foldl min m ≤ x) ∧ (ns.foldl min m = m ∨ ns.foldl min m ∈ ns)
  | [], m => ⟨Int.le_refl _, fun x h => (nomatch h), .inl rfl⟩
  | x :: xs, m => by
    obtain ⟨h1, h2, h3⟩ := foldl_mn xs (min m x)
    rw [List.foldl_cons]
    refine ⟨by omega, fun y hy => ?_, ?_⟩
    · rcases List.mem_cons.mp hy with e | hy
      · subst e; omega
      · exact h2 y hy
    · rcases h3 with h3 | h3
      · by_cases q : x ≤ m
        · right
          rw [h3, show min m x = x by omega]; exact List.mem_cons_self
        · left
          rw [h3]; omega
      · exact .inr (List.mem_cons_of_mem _ h3)
theorem mxI_ge {ns : List Int} {x : Int} (h : x ∈ ns) : x ≤ mxI ns := by
  cases ns with
  | nil => cases h
  | cons n ns =>
    obtain ⟨h1, h2, _⟩ := foldl_mx ns n
    rcases List.mem_cons.mp h with e | h
    · subst e; exact h1
    · exact h2 x h
theorem mxI_mem {ns : List Int} (h : ns ≠ []) : mxI ns ∈ ns := by
  cases ns with
  | nil => exact absurd rfl h
  | cons n ns =>
    rcases (foldl_mx ns n).2.2 with e | e
    · show ns.foldl max n ∈ n :: ns
      rw [e]; exact List.mem_cons_self
    · exact List.mem_cons_of_mem _ e
theorem mnI_le {ns : List Int} {x : Int} (h : x ∈ ns) : mnI ns ≤ x := by
  cases ns with
  | nil => cases h
  | cons n ns =>
    obtain ⟨h1, h2, _⟩ := foldl_mn ns n
    rcases List.mem_cons.mp h with e | h
    · subst e; exact h1
    · exact h2 x h
theorem mnI_mem {ns : List Int} (h : ns ≠ []) : mnI ns ∈ ns := by
  cases ns with
  | nil => exact absurd rfl h
  | cons n ns =>
    rcases (foldl_mn ns n).2.2 with e | e
    · show ns.foldl min n ∈ n :: ns
      rw [e]; exact List.mem_cons_self
    · exact List.mem_cons_of_mem _ e
theorem mxI_eq {ns : List Int} {m : Int} (h : m ∈ ns) (g : ∀ x ∈ ns, x ≤ m) : mxI ns = m := by
  have a := mxI_ge h
  have b := g _ (mxI_mem (List.ne_nil_of_mem h))
  omega
theorem mnI_eq {ns : List Int} {m : Int} (h : m ∈ ns) (g : ∀ x ∈ ns, m ≤ x) : mnI ns = m := by
  have a := mnI_le h
  have b := g _ (mnI_mem (List.ne_nil_of_mem h))
  omega
/-! ### pairs -/
def prD (p : Int × Int) : PyData := .tuple [.int p.1, .int p.2]
theorem canLay_prs : ∀ ps : List (Int × Int), PyData.canLayAll0 (ps.map prD) = true
  | [] => by simp [PyData.canLayAll0]
  | p :: ps => by
    rw [List.map_cons]
    unfold PyData.canLayAll0
    rw [canLay_prs ps]
    simp [prD, PyData.canLay0, PyData.canLayAll0]
theorem depth_prs : ∀ ps : List (Int × Int), PyData.depthAll (ps.map prD) ≤ 3
  | [] => by simp [PyData.depthAll]
  | p :: ps => by
    have ih := depth_prs ps
    rw [List.map_cons]
    unfold PyData.depthAll
    have : PyData.depth (prD p) ≤ 3 := by simp [prD, PyData.depth, PyData.depthAll]
    omega
theorem alikeOk_prs (ps : List (Int × Int)) : alikeOk (ps.map prD) = true := by
  unfold alikeOk
  simp only [Bool.and_eq_true, decide_eq_true_eq, List.all_eq_true]
  refine ⟨⟨⟨?_, ?_⟩, canLay_prs ps⟩, by have := depth_prs ps; omega⟩
  · intro x hx y hy
    obtain ⟨i, _, rfl⟩ := List.mem_map.mp hx
    obtain ⟨j, _, rfl⟩ := List.mem_map.mp hy
    simp [prD, PySem.W.alike, PySem.W.alikeAll]
  · intro x hx
    obtain ⟨i, _, rfl⟩ := List.mem_map.mp hx
    rfl
theorem minD_prs : ∀ (ps : List (Int × Int)) (p : Int × Int), ∃ q, PySem.W.minD (prD p) (ps.map prD) = prD q ∧ q ∈ p :: ps ∧ ∀ r ∈ p :: ps, q.1 ≤ r.1
  | [], p => ⟨p, rfl, List.mem_cons_self, fun r h => by
    rcases List.mem_cons.mp h with e | h
    · subst e; exact Int.le_refl _
    · cases h⟩
  | a :: ps, p => by
    have e : PySem.W.minD (prD p) ((a :: ps).map prD) = PySem.W.minD (if PySem.W.dataLt (prD a) (prD p) = true then prD a else prD p) (ps.map prD) := rfl
    rw [e]
    have d : PySem.W.dataLt (prD a) (prD p) = decide (a.1 < p.1 ∨ (a.1 = p.1 ∧ a.2 < p.2)) := PySem.W.dataLt_ii _ _ _ _
    rw [d]
    by_cases h : a.1 < p.1 ∨ (a.1 = p.1 ∧ a.2 < p.2)
    · rw [decide_eq_true h, if_pos rfl]
      obtain ⟨q, h1, h2, h3⟩ := minD_prs ps a
      refine ⟨q, h1, List.mem_cons_of_mem _ h2, fun r hr => ?_⟩
      rcases List.mem_cons.mp hr with e | hr
      · subst e
        have := h3 a List.mem_cons_self
        omega
      · exact h3 r hr
    · rw [decide_eq_false h, if_neg Bool.false_ne_true]
      obtain ⟨q, h1, h2, h3⟩ := minD_prs ps p
      refine ⟨q, h1, ?_, fun r hr => ?_⟩
      · rcases List.mem_cons.mp h2 with e | h2
        · subst e; exact List.mem_cons_self
        · exact List.mem_cons_of_mem _ (List.mem_cons_of_mem _ h2)
      · have := h3 p List.mem_cons_self
        rcases List.mem_cons.mp hr with e | hr
        · subst e; exact this
        · rcases List.mem_cons.mp hr with e | hr
          · subst e; omega
          · exact h3 r (List.mem_cons_of_mem _ hr)
theorem best_prs {ps : List (Int × Int)} (h : ps ≠ []) : ∃ q, gBest PySem.W.minD [.list (ps.map prD)] = some ⟨prD q, .fr⟩ ∧ q ∈ ps ∧ ∀ r ∈ ps, q.1 ≤ r.1 := by
  cases ps with
  | nil => exact absurd rfl h
  | cons p ps =>
    obtain ⟨q, h1, h2, h3⟩ := minD_prs ps p
    refine ⟨q, ?_, h2, h3⟩
    have e := alikeOk_prs (p :: ps)
    rw [List.map_cons] at e ⊢
    rw [gBest_list e, h1]; rfl
theorem eqv_pr (p : Int × Int) : PyData.eqv (prD p) (prD p) = true := by simp [prD, PyData.eqv, PyData.eqvAll]
theorem eqvAll_prs : ∀ ps : List (Int × Int), PyData.eqvAll (ps.map prD) (ps.map prD) = true
  | [] => by simp [PyData.eqvAll]
  | p :: ps => by
    rw [List.map_cons]
    unfold PyData.eqvAll
    rw [eqvAll_prs ps, eqv_pr]; rfl
theorem shaped_tuple_prs (ps : List (Int × Int)) : SeqAt.shaped (.tuple (ps.map prD)) = true := by
  have h : PyData.depthAll (ps.map prD) + 1 ≤ 64 := by have := depth_prs ps; omega
  unfold SeqAt.shaped
  simp only [PyData.canLay0, canLay_prs, Bool.true_and, decide_eq_true_eq]
  unfold PyData.depth
  exact h
theorem gEq_self (n : Bool) {d : PyData} (h : SeqAt.shaped d = true) (e : PyData.eqv d d = true) : gEq n d d = some ⟨.bool (if n then false else true), .fr⟩ := by
  unfold gEq
  rw [h, e]
  cases n <;> rfl
theorem gEq_prs (n : Bool) (ps : List (Int × Int)) : gEq n (.tuple (ps.map prD)) (.tuple (ps.map prD)) = some ⟨.bool (if n then false else true), .fr⟩ := by
  refine gEq_self n (shaped_tuple_prs ps) ?_
  unfold PyData.eqv
  exact eqvAll_prs ps
/-! ### loops and blocks, by what holds at each turn -/
theorem forL_inv {ft : PyData → M Unit} {fb : M Fl} (I : Nat → PEnv → Prop) : ∀ (ds : List PyData) (k : Nat) (ρ : PEnv), I k ρ → (∀ (i : Nat) (d : PyData) (ρ : PEnv), ds[i]? = some d → I (k + i) ρ → ∃ fl ρ', (fl = .nx ∨ fl = .ct) ∧ (ft d >>= fun _ => fb) ρ = .ok fl ρ' ∧ I (k + i + 1) ρ') → ∃ ρ', forL ft fb ds ρ = .ok .nx ρ' ∧ I (k + ds.length) ρ'
  | [], k, ρ, h0, _ => ⟨ρ, rfl, h0⟩
  | d :: ds, k, ρ, h0, h => by
    obtain ⟨fl, ρ', hfl, e, h1⟩ := h 0 d ρ rfl h0
    obtain ⟨ρ2, e2, h2⟩ := forL_inv I ds (k + 1) ρ' h1 fun i d' ρ hd hI => by
      have := h (i + 1) d' ρ (by simpa using hd) (by rwa [show k + (i + 1) = k + 1 + i by omega])
      rwa [show k + (i + 1) = k + 1 + i by omega] at this
    refine ⟨ρ2, ?_, by rwa [show k + (d :: ds).length = k + 1 + ds.length by simp only [List.length_cons]; omega]⟩
    rw [forL_cons]
    rw [bind_run] at e ⊢
    cases e1 : ft d ρ with
    | bad => rw [e1] at e; cases e
    | exc c x => rw [e1] at e; cases e
    | ok u ρ1 =>
      rw [e1] at e
      have e : fb ρ1 = .ok fl ρ' := e
      show (fb >>= _) ρ1 = _
      rw [bind_run, e]
      rcases hfl with rfl | rfl <;> exact e2
/-- a block whose turns change what is outside it -/
theorem lcL_inv {vs : List Nat} {ft : PyData → M Unit} {tt : M Bool} {te : M PyData} (I : Nat → PEnv → Prop) (J : Nat → PyData → Prop) : ∀ (ds acc : List PyData) (k : Nat) (ρ : PEnv), acc.length + ds.length ≤ sizeLine → I k ρ →
    (∀ (i : Nat) (d : PyData) (ρ : PEnv), ds[i]? = some d → I (k + i) ρ → ∃ y ρ', lcT vs ft tt te d ρ = .ok (some y) ρ' ∧ J (k + i) y ∧ I (k + i + 1) ρ') →
    ∃ ys ρ', lcL vs ft tt te ds acc ρ = .ok (acc ++ ys) ρ' ∧ ys.length = ds.length ∧ (∀ (i : Nat) (y : PyData), ys[i]? = some y → J (k + i) y) ∧ I (k + ds.length) ρ'
  | [], acc, k, ρ, _, h0, _ => ⟨[], ρ, by rw [List.append_nil]; rfl, rfl, fun i y h => by simp at h, h0⟩
  | d :: ds, acc, k, ρ, hl, h0, h => by
    obtain ⟨y, ρ', e, hj, h1⟩ := h 0 d ρ rfl h0
    simp only [List.length_cons] at hl
    obtain ⟨ys, ρ2, e2, hn, hJ, h2⟩ := lcL_inv I J ds (acc ++ [y]) (k + 1) ρ' (by rw [List.length_append]; simp only [List.length_singleton]; omega) h1 fun i d' ρ hd hI => by
      have := h (i + 1) d' ρ (by simpa using hd) (by rwa [show k + (i + 1) = k + 1 + i by omega])
      rwa [show k + (i + 1) = k + 1 + i by omega] at this
    refine ⟨y :: ys, ρ2, ?_, by simp [hn], fun i z hz => ?_, by rwa [show k + (d :: ds).length = k + 1 + ds.length by simp only [List.length_cons]; omega]⟩
    · show (ft d >>= fun _ => tt >>= fun c => if c = true then (te >>= fun y => mWipe vs >>= fun _ => if acc.length < sizeLine then lcL vs ft tt te ds (acc ++ [y]) else M.bad) else (mWipe vs >>= fun _ => lcL vs ft tt te ds acc)) ρ = _
      unfold lcT at e
      rw [bind_run] at e ⊢
      cases e0 : ft d ρ with
      | bad => rw [e0] at e; cases e
      | exc c d => rw [e0] at e; cases e
      | ok u ρ0 =>
        rw [e0, to_ok, bind_run] at e
        rw [to_ok, bind_run]
        cases e2' : tt ρ0 with
        | bad => rw [e2'] at e; cases e
        | exc c d => rw [e2'] at e; cases e
        | ok c ρ1 =>
          rw [e2', to_ok] at e
          rw [to_ok]
          cases c with
          | false =>
            simp only [Bool.false_eq_true, if_false, bind_run, mWipe_run, to_ok, pure_run] at e
            injection e with a b
            cases a
          | true =>
            simp only [if_true, bind_run] at e ⊢
            cases e3 : te ρ1 with
            | bad => rw [e3] at e; cases e
            | exc c d => rw [e3] at e; cases e
            | ok y' ρ2' =>
              rw [e3, to_ok] at e
              rw [to_ok]
              simp only [bind_run, mWipe_run, to_ok, pure_run] at e ⊢
              injection e with a b
              cases a
              rw [b, if_pos (by omega), e2]
              simp
    · cases i with
      | zero => cases hz; exact hj
      | succ i =>
        have := hJ i z (by simpa using hz)
        rwa [show k + 1 + i = k + (i + 1) by omega] at this
theorem mLc_inv {fi : M (List PyData)} {vs : List Nat} {ft : PyData → M Unit} {tt : M Bool} {te : M PyData} {ρ ρ1 : PEnv} (I : Nat → PEnv → Prop) (J : Nat → PyData → Prop) (ds : List PyData) (hi : fi ρ = .ok ds ρ1) (hp : plainAt ρ1 vs = true) (hl : ds.length ≤ sizeLine) (h0 : I 0 (wipeE ρ1 vs))
    (h : ∀ (i : Nat) (d : PyData) (ρ : PEnv), ds[i]? = some d → I i ρ → ∃ y ρ', lcT vs ft tt te d ρ = .ok (some y) ρ' ∧ J i y ∧ I (i + 1) ρ') :
    ∃ ys ρ', mLc fi vs ft tt te ρ = .ok ⟨.list ys, .ow⟩ (restE ρ1 ρ' vs) ∧ ys.length = ds.length ∧ (∀ (i : Nat) (y : PyData), ys[i]? = some y → J i y) ∧ I ds.length ρ' := by
  obtain ⟨ys, ρ', e, hn, hJ, h2⟩ := lcL_inv (vs := vs) (ft := ft) (tt := tt) (te := te) I J ds [] 0 (wipeE ρ1 vs) (by simpa using hl) h0 fun i d ρ hd hI => by
    rw [Nat.zero_add] at hI ⊢
    exact h i d ρ hd hI
  refine ⟨ys, ρ', ?_, hn, fun i y hy => by have := hJ i y hy; rwa [Nat.zero_add] at this, by rwa [Nat.zero_add] at h2⟩
  show (fi >>= fun ds => mBlk vs (lcL vs ft tt te ds []) >>= fun ys => (pure ⟨.list ys, .ow⟩ : M SV)) ρ = _
  rw [bind_run, hi, to_ok, bind_run]
  have e' : mBlk vs (lcL vs ft tt te ds []) ρ1 = .ok ys (restE ρ1 ρ' vs) := by
    unfold mBlk
    rw [if_pos hp, e, List.nil_append]
  rw [e']; rfl
/-- a loop that checks: it runs to its end, or ends at the first turn that fails -/
theorem forL_chk {ft : PyData → M Unit} {fb : M Fl} (I : Nat → PEnv) (p : Nat → Prop) (sv : SV) (J : PEnv → Prop) : ∀ (ds : List PyData) (k : Nat), (∀ (i : Nat) (d : PyData), ds[i]? = some d → (p (k + i) ∧ ∃ fl, (fl = .nx ∨ fl = .ct) ∧ (ft d >>= fun _ => fb) (I (k + i)) = .ok fl (I (k + i + 1))) ∨ (¬p (k + i) ∧ ∃ ρ, (ft d >>= fun _ => fb) (I (k + i)) = .ok (.rt sv) ρ ∧ J ρ)) →
    ((∀ i, i < ds.length → p (k + i)) ∧ forL ft fb ds (I k) = .ok .nx (I (k + ds.length))) ∨ (¬(∀ i, i < ds.length → p (k + i)) ∧ ∃ ρ, forL ft fb ds (I k) = .ok (.rt sv) ρ ∧ J ρ)
  | [], k, _ => .inl ⟨fun i hi => absurd hi (Nat.not_lt_zero _), rfl⟩
  | d :: ds, k, h => by
    rcases h 0 d rfl with ⟨hp, fl, hfl, e⟩ | ⟨hp, ρ, e, hJ⟩
    · have ih := forL_chk I p sv J ds (k + 1) fun i d' hd => by
        have := h (i + 1) d' (by simpa using hd)
        rw [show k + (i + 1) = k + 1 + i by omega] at this
        exact this
      have step : forL ft fb (d :: ds) (I k) = forL ft fb ds (I (k + 1)) := by
        rw [forL_cons]
        rw [bind_run] at e ⊢
        cases e1 : ft d (I k) with
        | bad => rw [Nat.add_zero, e1] at e; cases e
        | exc c x => rw [Nat.add_zero, e1] at e; cases e
        | ok u ρ =>
          rw [Nat.add_zero, e1] at e
          have e : fb ρ = .ok fl (I (k + 1)) := e
          show (fb >>= _) ρ = _
          rw [bind_run, e]
          rcases hfl with rfl | rfl <;> rfl
      rw [step]
      rcases ih with ⟨a, b⟩ | ⟨a, ρ, b, c⟩
      · refine .inl ⟨fun i hi => ?_, by rw [b, show k + (d :: ds).length = k + 1 + ds.length by simp only [List.length_cons]; omega]⟩
        cases i with
        | zero => exact hp
        | succ i =>
          have := a i (by simpa using hi)
          rwa [show k + 1 + i = k + (i + 1) by omega] at this
      · refine .inr ⟨fun q => a fun i hi => ?_, ρ, b, c⟩
        have := q (i + 1) (by simpa using hi)
        rwa [show k + (i + 1) = k + 1 + i by omega] at this
    · refine .inr ⟨fun q => hp (q 0 (Nat.succ_pos _)), ρ, ?_, hJ⟩
      rw [forL_cons]
      rw [bind_run] at e ⊢
      cases e1 : ft d (I k) with
      | bad => rw [Nat.add_zero, e1] at e; cases e
      | exc c x => rw [Nat.add_zero, e1] at e; cases e
      | ok u ρ1 =>
        rw [Nat.add_zero, e1] at e
        have e : fb ρ1 = .ok (.rt sv) ρ := e
        show (fb >>= _) ρ1 = _
        rw [bind_run, e]; rfl
theorem zipD_ext {ds es : List PyData} {i : Nat} {d : PyData} (h : (zipD ds es)[i]? = some d) : ∃ x y, ds[i]? = some x ∧ es[i]? = some y ∧ d = .tuple [x, y] := by
  unfold zipD at h
  rw [List.getElem?_zipWith] at h
  cases e1 : ds[i]? with
  | none => rw [e1] at h; cases h
  | some x =>
    cases e2 : es[i]? with
    | none => rw [e1, e2] at h; cases h
    | some y => rw [e1, e2] at h; exact ⟨x, y, rfl, rfl, (Option.some.inj h).symm⟩
theorem zipD_range {ds es : List PyData} {m : Nat} {f g : Nat → PyData} (hm : min ds.length es.length = m) (hf : ∀ i, i < m → ds[i]? = some (f i)) (hg : ∀ i, i < m → es[i]? = some (g i)) : zipD ds es = (List.range m).map fun k => .tuple [f k, g k] := by
  apply List.ext_getElem?
  intro i
  by_cases h : i < m
  · rw [List.getElem?_map, List.getElem?_range h]
    unfold zipD
    rw [List.getElem?_zipWith, hf i h, hg i h]; rfl
  · rw [List.getElem?_eq_none (by unfold zipD; rw [List.length_zipWith]; omega), List.getElem?_eq_none (by rw [List.length_map, List.length_range]; omega)]
theorem zip3D_range {ds es fs : List PyData} {m : Nat} {f g h : Nat → PyData} (hm : min (min ds.length es.length) fs.length = m) (hf : ∀ i, i < m → ds[i]? = some (f i)) (hg : ∀ i, i < m → es[i]? = some (g i)) (hh : ∀ i, i < m → fs[i]? = some (h i)) : zip3D ds es fs = (List.range m).map fun k => .tuple [f k, g k, h k] := by
  apply List.ext_getElem?
  intro i
  by_cases hi : i < m
  · rw [List.getElem?_map, List.getElem?_range hi, zip3D_get _ _ _ _ _ _ _ (hf i hi) (hg i hi) (hh i hi)]; rfl
  · rw [List.getElem?_eq_none (by rw [zip3D_length]; omega), List.getElem?_eq_none (by rw [List.length_map, List.length_range]; omega)]
theorem mapint_get {ns : List Int} {k : Nat} (h : k < ns.length) : (ns.map PyData.int)[k]? = some (.int (nth ns k)) := by rw [List.getElem?_map, nth_some h]; rfl
theorem drop_get {ns : List Int} {a k : Nat} (h : a + k < ns.length) : ((ns.drop a).map PyData.int)[k]? = some (.int (nth ns (a + k))) := by rw [List.getElem?_map, List.getElem?_drop, nth_some h]; rfl
/-- all of the first so many -/
theorem allR (p : Nat → Bool) (m : Nat) : (((List.range m).map p).all id) = decide (∀ k, k < m → p k = true) := by
  rw [Bool.eq_iff_iff, decide_eq_true_eq, List.all_eq_true]
  constructor
  · intro h k hk
    exact h _ (List.mem_map.mpr ⟨k, List.mem_range.mpr hk, rfl⟩)
  · intro h x hx
    obtain ⟨k, hk, rfl⟩ := List.mem_map.mp hx
    exact h k (List.mem_range.mp hk)
theorem range_mapb (p : Nat → Bool) (m : Nat) : (List.range m).map (fun k => PyData.bool (p k)) = ((List.range m).map p).map .bool := by rw [List.map_map]; rfl
theorem mIfS_t {fc : M Bool} {ft fe : M Fl} {ρ ρ' : PEnv} (h : fc ρ = .ok true ρ') : mIfS fc ft fe ρ = ft ρ' := by rw [mIfS_e, bind_run, h, to_ok, if_pos rfl]
theorem mIfS_f {fc : M Bool} {ft fe : M Fl} {ρ ρ' : PEnv} (h : fc ρ = .ok false ρ') : mIfS fc ft fe ρ = fe ρ' := by rw [mIfS_e, bind_run, h, to_ok, if_neg Bool.false_ne_true]
theorem mExtend_run {i : Nat} {f : M SV} {ρ ρ' : PEnv} {ds es : List PyData} (h : ρ[i]? = some (some ⟨.list ds, .ow⟩)) (hf : f ρ = .ok ⟨.list es, .ow⟩ ρ') (h' : ρ'[i]? = some (some ⟨.list ds, .ow⟩)) (hl : ds.length + es.length ≤ sizeLine) : mExtend i f ρ = .ok .nx (ρ'.set i (some ⟨.list (ds ++ es), .ow⟩)) := by
  have o : ∀ r : PEnv, r[i]? = some (some ⟨.list ds, .ow⟩) → ownL i r = .ok ds r := fun r hr => by rw [ownL_run, hr]
  rw [mExtend_e, bind_run, o ρ h, to_ok, bind_run, hf, to_ok, bind_run, o ρ' h', to_ok]
  show (if ds.length + es.length ≤ sizeLine then putL i (ds ++ es) else M.bad) ρ' = _
  rw [if_pos hl]; rfl
/-- a loop that checks: it runs to its end, or ends at the first turn that fails -/
theorem forL_chk2 {ft : PyData → M Unit} {fb : M Fl} (I : Nat → PEnv) (p : Nat → Prop) (J : SV → PEnv → Prop) : ∀ (ds : List PyData) (k : Nat), (∀ (i : Nat) (d : PyData), ds[i]? = some d → (p (k + i) ∧ ∃ fl, (fl = .nx ∨ fl = .ct) ∧ (ft d >>= fun _ => fb) (I (k + i)) = .ok fl (I (k + i + 1))) ∨ (¬p (k + i) ∧ ∃ sv ρ, (ft d >>= fun _ => fb) (I (k + i)) = .ok (.rt sv) ρ ∧ J sv ρ)) →
    ((∀ i, i < ds.length → p (k + i)) ∧ forL ft fb ds (I k) = .ok .nx (I (k + ds.length))) ∨ (¬(∀ i, i < ds.length → p (k + i)) ∧ ∃ sv ρ, forL ft fb ds (I k) = .ok (.rt sv) ρ ∧ J sv ρ)
  | [], k, _ => .inl ⟨fun i hi => absurd hi (Nat.not_lt_zero _), rfl⟩
  | d :: ds, k, h => by
    rcases h 0 d rfl with ⟨hp, fl, hfl, e⟩ | ⟨hp, sv, ρ, e, hJ⟩
    · have ih := forL_chk2 I p J ds (k + 1) fun i d' hd => by
        have := h (i + 1) d' (by simpa using hd)
        rw [show k + (i + 1) = k + 1 + i by omega] at this
        exact this
      have step : forL ft fb (d :: ds) (I k) = forL ft fb ds (I (k + 1)) := by
        rw [forL_cons]
        rw [bind_run] at e ⊢
        cases e1 : ft d (I k) with
        | bad => rw [Nat.add_zero, e1] at e; cases e
        | exc c x => rw [Nat.add_zero, e1] at e; cases e
        | ok u ρ =>
          rw [Nat.add_zero, e1] at e
          have e : fb ρ = .ok fl (I (k + 1)) := e
          show (fb >>= _) ρ = _
          rw [bind_run, e]
          rcases hfl with rfl | rfl <;> rfl
      rw [step]
      rcases ih with ⟨a, b⟩ | ⟨a, sv, ρ, b, c⟩
      · refine .inl ⟨fun i hi => ?_, by rw [b, show k + (d :: ds).length = k + 1 + ds.length by simp only [List.length_cons]; omega]⟩
        cases i with
        | zero => exact hp
        | succ i =>
          have := a i (by simpa using hi)
          rwa [show k + 1 + i = k + (i + 1) by omega] at this
      · refine .inr ⟨fun q => a fun i hi => ?_, sv, ρ, b, c⟩
        have := q (i + 1) (by simpa using hi)
        rwa [show k + (i + 1) = k + 1 + i by omega] at this
    · refine .inr ⟨fun q => hp (q 0 (Nat.succ_pos _)), sv, ρ, ?_, hJ⟩
      rw [forL_cons]
      rw [bind_run] at e ⊢
      cases e1 : ft d (I k) with
      | bad => rw [Nat.add_zero, e1] at e; cases e
      | exc c x => rw [Nat.add_zero, e1] at e; cases e
      | ok u ρ1 =>
        rw [Nat.add_zero, e1] at e
        have e : fb ρ1 = .ok (.rt sv) ρ := e
        show (fb >>= _) ρ1 = _
        rw [bind_run, e]; rfl
theorem mAppend_run {i : Nat} {f : M PyData} {ρ ρ' : PEnv} {ds : List PyData} {d : PyData} (h : ρ[i]? = some (some ⟨.list ds, .ow⟩)) (hf : f ρ = .ok d ρ') (h' : ρ'[i]? = some (some ⟨.list ds, .ow⟩)) (hl : ds.length < sizeLine) : mAppend i f ρ = .ok .nx (ρ'.set i (some ⟨.list (ds ++ [d]), .ow⟩)) := by
  have o : ∀ r : PEnv, r[i]? = some (some ⟨.list ds, .ow⟩) → ownL i r = .ok ds r := fun r hr => by rw [ownL_run, hr]
  rw [mAppend_e, bind_run, o ρ h, to_ok, bind_run, hf, to_ok, bind_run, o ρ' h', to_ok, if_pos hl]; rfl
@[simp] theorem cmul_m2 (j : Int) : CMulA (-2) j = True := eq_true (cmul_l (by omega) (by omega))
theorem restE_same (ρ : PEnv) (vs : List Nat) : restE ρ ρ vs = ρ := by
  apply List.ext_getElem?
  intro i
  by_cases hi : i ∈ vs
  · by_cases hl : i < ρ.length
    · rw [restE_in hi hl, List.getElem?_eq_getElem hl]; rfl
    · rw [List.getElem?_eq_none (by rw [restE_length]; omega), List.getElem?_eq_none (by omega)]
  · rw [restE_out hi]
theorem mSeq_assoc (f g h : M Fl) : mSeq (mSeq f g) h = mSeq f (mSeq g h) := by
  funext ρ
  rw [mSeq_e (mSeq f g) h, bind_run, mSeq_e f (mSeq g h), bind_run, mSeq_e f g, bind_run]
  cases f ρ with
  | bad => rfl
  | exc c d => rfl
  | ok fl ρ1 =>
    rw [to_ok, to_ok]
    cases fl with
    | nx =>
      dsimp only
      rw [mSeq_e g h]
      exact (bind_run g _ ρ1).symm
    | rt sv => rfl
    | bk => rfl
    | ct => rfl
end Pv

set_option maxRecDepth 100000
/-! Pv, part Z: a law's own promise, from its pure reading. -/
namespace Pv
open PySem PySem.Spec L2
theorem RpL.of_ints {K : PySem.W.Frag} {F : Reg} {H : Hp} : ∀ ns : List Int, RpL K F H (ns.map V.int) (ns.map PyData.int)
  | [] => .nil
  | n :: ns => .cons (.int n) (RpL.of_ints ns)
theorem law_true {K : PySem.W.Frag} {cl : Str → Addr} {fd : FD} {H : Hp} {a : Addr} {ns : List Int} (hio : fd.io = [false]) (he : fd.g [.list (ns.map .int)] = .ok ⟨.bool true, .fr⟩ []) (_hO : Only H) (hS : SqL K H a (ns.map V.int)) : spF K cl fd [.ref a] H (fun v _ => v = .bl true) fun _ _ _ => False := by
  have ls : LsK K (fun b => b = a ∧ H b ≠ none) H a (ns.map V.int) := by
    rcases hS with h | h
    · rcases h with h | h
      · exact .inl ⟨⟨rfl, fun z => by rw [h] at z; cases z⟩, h⟩
      · exact .inr (.inl h)
    · exact .inr (.inr h)
  refine ⟨fun b => b = a ∧ H b ≠ none, [.list (ns.map .int)], [], ?_, fun b h => h.2, ?_⟩
  · rw [hio]
    exact .fz (.lst ls (RpL.of_ints ns)) .nil
  · rw [he]
    intro v F' H' _ _ _ r _ _
    have r : Rp K F' H' v (.bool true) := r
    cases r
    rfl
theorem cx_false {P : Program} {w : World} {H : Hp} {s : Shared} {e : Value} {s' : Shared} (h : L2.CX P w [] H s (fun _ _ _ => False) e s') : False := by
  obtain ⟨_, _, _, _, _, _, _, _, _, _, _, _, h⟩ := h
  exact h
end Pv

set_option maxRecDepth 100000
/-! k10, the plain law: sums along a road, the greatest lack. -/
namespace Lw
/-- the sum of the stretches i .. j - 1 -/
def seg (rs : List Int) (i j : Nat) : Int := ((rs.drop i).take (j - i)).sum
theorem seg_self (rs : List Int) (i : Nat) : seg rs i i = 0 := by simp [seg]
theorem seg_zero_succ (r : Int) (rs : List Int) (j : Nat) : seg (r :: rs) 0 (j + 1) = r + seg rs 0 j := by simp [seg]
theorem seg_succ_succ (r : Int) (rs : List Int) (i j : Nat) : seg (r :: rs) (i + 1) (j + 1) = seg rs i j := by
  unfold seg
  rw [List.drop_succ_cons, Nat.succ_sub_succ]
theorem seg_step (rs : List Int) : ∀ (i j : Nat) (r : Int), i ≤ j → rs[j]? = some r → seg rs i (j + 1) = seg rs i j + r := by
  induction rs with
  | nil => intro i j r _ h; simp at h
  | cons x rs ih =>
    intro i j r hij h
    cases j with
    | zero =>
      have : i = 0 := by omega
      subst this
      have e : x = r := by simpa using h
      subst e
      simp [seg]
    | succ j =>
      cases i with
      | zero =>
        rw [seg_zero_succ, seg_zero_succ, ih 0 j r (Nat.zero_le _) (by simpa using h)]
        omega
      | succ i =>
        rw [seg_succ_succ, seg_succ_succ, ih i j r (by omega) (by simpa using h)]
/-- what is over, step by step -/
def kad : Int → List Int → List Int
  | k, [] => [k]
  | k, r :: rs => k :: kad (max 0 (k - r)) rs
theorem kad_length : ∀ (rs : List Int) (k : Int), (kad k rs).length = rs.length + 1
  | [], _ => rfl
  | r :: rs, k => congrArg (· + 1) (kad_length rs _)
theorem kad_zero (rs : List Int) (k : Int) : (kad k rs)[0]? = some k := by cases rs <;> rfl
theorem kad_step : ∀ (rs : List Int) (k : Int) (j : Nat) (x r : Int), (kad k rs)[j]? = some x → rs[j]? = some r → (kad k rs)[j + 1]? = some (max 0 (x - r))
  | [], _, _, _, _, _, h => by simp at h
  | r0 :: rs, k, 0, x, r, h1, h2 => by
    have e1 : k = x := by simpa [kad] using h1
    have e2 : r0 = r := by simpa using h2
    subst e1; subst e2
    show (kad _ rs)[0]? = _
    exact kad_zero _ _
  | r0 :: rs, k, j + 1, x, r, h1, h2 => kad_step rs _ j x r h1 (by simpa using h2)
theorem kad_ge : ∀ (rs : List Int) (k : Int) (j : Nat) (x : Int), 0 ≤ k → (kad k rs)[j]? = some x → 0 ≤ x
  | [], k, 0, x, hk, h => by
    have e : k = x := by simpa [kad] using h
    omega
  | [], k, j + 1, x, hk, h => by simp [kad] at h
  | r :: rs, k, 0, x, hk, h => by
    have e : k = x := by simpa [kad] using h
    omega
  | r :: rs, k, j + 1, x, hk, h => kad_ge rs _ j x (by omega) h
theorem kad_seg : ∀ (rs : List Int) (k : Int) (j : Nat) (x : Int), 0 ≤ k → (kad k rs)[j]? = some x → k - seg rs 0 j ≤ x ∧ ∀ i, i ≤ j → -seg rs i j ≤ x
  | [], k, 0, x, hk, h => by
    have e : k = x := by simpa [kad] using h
    subst e
    refine ⟨by simp [seg], fun i hi => by simp [seg]; omega⟩
  | [], k, j + 1, x, hk, h => by simp [kad] at h
  | r :: rs, k, 0, x, hk, h => by
    have e : k = x := by simpa [kad] using h
    subst e
    refine ⟨by simp [seg], fun i hi => by
      have : i = 0 := by omega
      subst this
      simp [seg]; omega⟩
  | r :: rs, k, j + 1, x, hk, h => by
    obtain ⟨h1, h2⟩ := kad_seg rs (max 0 (k - r)) j x (by omega) h
    refine ⟨by rw [seg_zero_succ]; omega, fun i hi => ?_⟩
    cases i with
    | zero => rw [seg_zero_succ]; omega
    | succ i => rw [seg_succ_succ]; exact h2 i (by omega)
theorem kad_att : ∀ (rs : List Int) (k : Int) (j : Nat) (x : Int), 0 ≤ k → (kad k rs)[j]? = some x → x = k - seg rs 0 j ∨ ∃ i, i ≤ j ∧ x = -seg rs i j
  | [], k, 0, x, hk, h => by
    have e : k = x := by simpa [kad] using h
    left; simp [seg]; omega
  | [], k, j + 1, x, hk, h => by simp [kad] at h
  | r :: rs, k, 0, x, hk, h => by
    have e : k = x := by simpa [kad] using h
    left; simp [seg]; omega
  | r :: rs, k, j + 1, x, hk, h => by
    rcases kad_att rs (max 0 (k - r)) j x (by omega) h with e | ⟨i, hi, e⟩
    · by_cases q : 0 ≤ k - r
      · left; rw [seg_zero_succ]; omega
      · right; exact ⟨1, by omega, by rw [show (1 : Nat) = 0 + 1 from rfl, seg_succ_succ]; omega⟩
    · right; exact ⟨i + 1, by omega, by rw [seg_succ_succ]; exact e⟩
/-- the greatest lack -/
def lack (rs : List Int) : Int := (kad 0 rs).foldl max 0
theorem foldl_max_ge : ∀ (xs : List Int) (m : Int), m ≤ xs.foldl max m ∧ ∀ x ∈ xs, x ≤ xs.foldl max m
  | [], m => ⟨Int.le_refl _, fun x h => nomatch h⟩
  | x :: xs, m => by
    obtain ⟨h1, h2⟩ := foldl_max_ge xs (max m x)
    refine ⟨by show m ≤ xs.foldl max (max m x); omega, fun y hy => ?_⟩
    rcases List.mem_cons.mp hy with e | hy
    · subst e; show y ≤ xs.foldl max (max m y); omega
    · exact h2 y hy
theorem foldl_max_mem : ∀ (xs : List Int) (m : Int), xs.foldl max m = m ∨ xs.foldl max m ∈ xs
  | [], m => .inl rfl
  | x :: xs, m => by
    rcases foldl_max_mem xs (max m x) with h | h
    · by_cases q : m ≤ x
      · right
        have e : max m x = x := by omega
        show xs.foldl max (max m x) ∈ x :: xs
        rw [h, e]; exact List.mem_cons_self
      · left
        have e : max m x = m := by omega
        show xs.foldl max (max m x) = m
        rw [h, e]
    · right; exact List.mem_cons_of_mem _ h
theorem lack_nn (rs : List Int) : 0 ≤ lack rs := (foldl_max_ge _ 0).1
theorem lack_ge (rs : List Int) {i j : Nat} (hi : i ≤ j) (hj : j ≤ rs.length) : -seg rs i j ≤ lack rs := by
  have hl : j < (kad 0 rs).length := by rw [kad_length]; omega
  have e : (kad 0 rs)[j]? = some (kad 0 rs)[j] := List.getElem?_eq_getElem hl
  have h1 := (kad_seg rs 0 j _ (Int.le_refl _) e).2 i hi
  have h2 := (foldl_max_ge (kad 0 rs) 0).2 _ (List.getElem_mem hl)
  unfold lack
  omega
theorem lack_att (rs : List Int) : lack rs = 0 ∨ ∃ i j, i < j ∧ j ≤ rs.length ∧ lack rs = -seg rs i j := by
  rcases foldl_max_mem (kad 0 rs) 0 with h | h
  · exact .inl h
  · obtain ⟨j, hj, e⟩ := List.getElem_of_mem h
    have hl : j ≤ rs.length := by rw [kad_length] at hj; omega
    have e' : (kad 0 rs)[j]? = some (lack rs) := by rw [List.getElem?_eq_getElem hj, e]; rfl
    have key : ∃ i, i ≤ j ∧ lack rs = -seg rs i j := by
      rcases kad_att rs 0 j _ (Int.le_refl _) e' with q | q
      · exact ⟨0, Nat.zero_le _, by omega⟩
      · exact q
    obtain ⟨i, hi, q⟩ := key
    by_cases ij : i = j
    · subst ij
      rw [seg_self] at q
      exact .inl (by omega)
    · exact .inr ⟨i, j, by omega, hl, q⟩
/-- half, rounded up -/
theorem half_up (x : Int) : -(-x / 2) = (x + 1) / 2 := by omega
/-- the rooms of one car: what is seen less what is needed -/
def rooms1 : List Int → List Int → List Int
  | l :: ls, a :: b :: ss => (b - a - l) :: rooms1 ls (b :: ss)
  | _, _ => []
theorem rooms1_length : ∀ (ls ss : List Int), ss.length = ls.length + 1 → (rooms1 ls ss).length = ls.length
  | [], ss, _ => by cases ss <;> rfl
  | l :: ls, a :: b :: ss, h => by
    show (rooms1 ls (b :: ss)).length + 1 = ls.length + 1
    rw [rooms1_length ls (b :: ss) (by simpa using h)]
  | l :: ls, [a], h => by simp at h
  | l :: ls, [], h => by simp at h
theorem rooms1_get : ∀ (ls ss : List Int) (k : Nat) (l a b : Int), ls[k]? = some l → ss[k]? = some a → ss[k + 1]? = some b → (rooms1 ls ss)[k]? = some (b - a - l)
  | l0 :: ls, a0 :: b0 :: ss, 0, l, a, b, h1, h2, h3 => by
    have e1 : l0 = l := by simpa using h1
    have e2 : a0 = a := by simpa using h2
    have e3 : b0 = b := by simpa using h3
    subst e1; subst e2; subst e3; rfl
  | l0 :: ls, a0 :: b0 :: ss, k + 1, l, a, b, h1, h2, h3 => rooms1_get ls (b0 :: ss) k l a b (by simpa using h1) (by simpa using h2) (by simpa using h3)
  | [], _, _, _, _, _, h, _, _ => by simp at h
  | _ :: _, [], _, _, _, _, _, h, _ => by simp at h
  | _ :: _, [_], _, _, _, _, _, _, h => by simp at h
/-- telescoped -/
theorem rooms1_seg (ls ss : List Int) (hl : ss.length = ls.length + 1) (i : Nat) : ∀ (j : Nat), i ≤ j → j ≤ ls.length → ∀ a b, ss[i]? = some a → ss[j]? = some b → seg (rooms1 ls ss) i j = b - a - seg ls i j := by
  intro j
  induction j with
  | zero =>
    intro hi hj a b ha hb
    have : i = 0 := by omega
    subst this
    rw [ha] at hb; cases hb
    rw [seg_self, seg_self]; omega
  | succ j ih =>
    intro hi hj a b ha hb
    by_cases q : i = j + 1
    · subst q
      rw [ha] at hb; cases hb
      rw [seg_self, seg_self]; omega
    · have hjl : j < ls.length := by omega
      have el : ls[j]? = some ls[j] := List.getElem?_eq_getElem hjl
      have hjs : j < ss.length := by omega
      have es : ss[j]? = some ss[j] := List.getElem?_eq_getElem hjs
      have er := rooms1_get ls ss j _ _ _ el es hb
      rw [seg_step _ i j _ (by omega) er, seg_step _ i j _ (by omega) el, ih (by omega) (by omega) a _ ha es]
      omega
end Lw

set_option maxRecDepth 100000
set_option maxHeartbeats 0
namespace Lw
open PySem PySem.Spec L2 Pv
def topS (i : Nat) : Stmt := PySem.Challenge.pw_nevermisread_k10_whole_clocks_and_times.main.body.getD i (.Pass ⟨0, 0, 0, 0⟩)
structure Bu (mg : Str → Option Value) : Prop where
  b_len : mg "len" = none
  b_min : mg "min" = none
  b_max : mg "max" = none
  b_list : mg "list" = none
  b_range : mg "range" = none
  b_sum : mg "sum" = none
  b_abs : mg "abs" = none
  b_int : mg "int" = none
  b_tuple : mg "tuple" = none
  b_isinstance : mg "isinstance" = none
  b_bool : mg "bool" = none
  b_all : mg "all" = none
  b_enumerate : mg "enumerate" = none
  b_str : mg "str" = none
  b_zip : mg "zip" = none
structure Gc (mg : Str → Option Value) : Prop where
  c_MOST_GATES : ∃ t, mg "MOST_GATES" = some (.int 12 t)
  c_MOST_LEAST : ∃ t, mg "MOST_LEAST" = some (.int 100000 t)
  c_MOST_TIME : ∃ t, mg "MOST_TIME" = some (.int 1000000 t)
  c_MOST_OFF : ∃ t, mg "MOST_OFF" = some (.int 1000 t)
  c_PAIR : ∃ t, mg "PAIR" = some (.int 2 t)
  c_MOST_TIMED : ∃ t, mg "MOST_TIMED" = some (.int 20 t)
  c_MAY : ∃ t, mg "MAY" = some (.str "may" t)
  c_SURELY : ∃ t, mg "SURELY" = some (.str "surely" t)
  c_TRIPLE : ∃ t, mg "TRIPLE" = some (.int 3 t)
  c_FOUR : ∃ t, mg "FOUR" = some (.int 4 t)
section
variable {P : Program} {w : World} {K : PySem.W.Frag} {mg : Str → Option Value} {base : Heap} {cl : Str → Addr}
abbrev s__law_places : Stmt := topS 38
abbrev ps__law_places : List Str := ["script", "most"]
theorem sc__law_places : FnScope ["script", "most"] ps__law_places (defScope s__law_places) := ⟨rfl, rfl, rfl, by decide +kernel, rfl, by decide +kernel, by decide +kernel⟩
noncomputable def b__law_places : M Fl := (mRet (mRgV1 gRgL (mval (mCall (gI2 fun i j => if j > i then j else i) (mcons (mval (pure (frv (.int 1)))) (mcons (mval (mCall (gI2 fun i j => if j < i then j else i) (mcons (mslot 1) (mcons (mval (mCall gLen (mcons (mslot 0) mnil))) mnil)))) mnil))))))
noncomputable def fd__law_places : FD := ⟨[false, false], runF [false, false] 2 b__law_places⟩
@[simp] theorem io__law_places : fd__law_places.io = [false, false] := by
  delta fd__law_places
  rfl
theorem g__law_places (ds : List PyData) : fd__law_places.g ds = Rf.of [false, false] (b__law_places (env0 [false, false] ds 2)) := by
  delta fd__law_places
  exact runF_e [false, false] 2 b__law_places ds
theorem ok__law_places (hB : Bu mg) (hG : Gc mg) (D : Dfn K mg "_law_places" s__law_places ps__law_places) : Cal P w K mg base 1 cl "_law_places" ps__law_places fd__law_places :=
  cal_of (N := ["script", "most"]) (k := 0) (io := [false, false]) (fx := ioIx [false, false]) (body := b__law_places) D sc__law_places rfl (fun _ => mem_ioIx) fun f cdv A outer s H E hr => (qss_one (qs_ret (qe_listR1 rfl rfl hB.b_list rfl hB.b_range (qo_val (ce_max2 rfl rfl hB.b_max (qo_val qe_int) (qo_val (ce_min2 rfl rfl hB.b_min (qo_var (pe_var (i := 1) rfl (.inl rfl) (by decide) (by decide))) (qo_val (ce_len rfl hB.b_len (qo_var (pe_var (i := 0) rfl (.inl rfl) (by decide) (by decide))) rfl)) rfl rfl rfl)) rfl rfl rfl)) rfl rfl)))

abbrev s__law_pot : Stmt := topS 35
abbrev ps__law_pot : List Str := ["script", "place"]
theorem sc__law_pot : FnScope ["script", "place", "cell", "own", "small"] ps__law_pot (defScope s__law_pot) := ⟨rfl, rfl, rfl, by decide +kernel, rfl, by decide +kernel, by decide +kernel⟩
noncomputable def t__law_pot_1 : M Fl := (mSetS 2 (mIte (mB (mOp2 gLt (mslot 1) (mval (mCall gLen (mcons (mslot 0) mnil))))) (mOp2 gIxS (mslot 0) (mslot 1)) (mOp2 gAdd (mval (mOp2 gAdd (mval (mOp2 gMod (mval (mCall gSum (mcons (mval (mSl (mslot 0) none (some (mval (pure (frv (.int 1))))))) mnil))) (mval (pure (frv (.int 1000003)))))) (mval (mOp2 gMul (mval (pure (frv (.int 4679)))) (mslot 1))))) (mval (pure (frv (.int 431)))))))
noncomputable def t__law_pot_2 : M Fl := (mSetS 3 (mOp2 gMul (mval (mOp2 gMod (mval (mCall gInt1 (mcons (mval (mCall gAbs (mcons (mslot 2) mnil))) mnil))) (mval (mOp2 gPow (mval (mOp2 gPow (mval (pure (frv (.int 10)))) (mval (pure (frv (.int 60)))))) (mval (pure (frv (.int 5)))))))) (mval (mCall gInt1 (mcons (mval (mOp2 gGe (mval (mCall gAbs (mcons (mslot 2) mnil))) (mval (mOp2 gPow (mval (pure (frv (.int 10)))) (mval (pure (frv (.int 18)))))))) mnil)))))
noncomputable def t__law_pot_3 : M Fl := (mSetS 4 (mOp2 gMod (mval (mCall gInt1 (mcons (mslot 2) mnil))) (mval (pure (frv (.int 2305843009213693951))))))
noncomputable def t__law_pot_4 : M Fl := (mRet (mLst (mcons (mfz (mget 3)) (mcons (mfz (mOp2 gMod (mval (mCall gInt1 (mcons (mval (mOp2 gAdd (mval (mOp2 gAdd (mval (mOp2 gMul (mslot 4) (mval (pure (frv (.int 92581)))))) (mval (mOp2 gMul (mval (mOp2 gMul (mval (pure (frv (.int 9091)))) (mslot 1))) (mslot 1))))) (mval (pure (frv (.int 838)))))) mnil))) (mval (pure (frv (.int 2305843009213693921)))))) (mcons (mfz (pure (frv (.int 0)))) mnil)))))
noncomputable def b__law_pot : M Fl := (mSeq t__law_pot_1
  (mSeq t__law_pot_2
  (mSeq t__law_pot_3
  t__law_pot_4)))
noncomputable def fd__law_pot : FD := ⟨[false, false], runF [false, false] 5 b__law_pot⟩
@[simp] theorem io__law_pot : fd__law_pot.io = [false, false] := by
  delta fd__law_pot
  rfl
theorem g__law_pot (ds : List PyData) : fd__law_pot.g ds = Rf.of [false, false] (b__law_pot (env0 [false, false] ds 5)) := by
  delta fd__law_pot
  exact runF_e [false, false] 5 b__law_pot ds
theorem ok__law_pot (hB : Bu mg) (hG : Gc mg) (D : Dfn K mg "_law_pot" s__law_pot ps__law_pot) : Cal P w K mg base 1 cl "_law_pot" ps__law_pot fd__law_pot :=
  cal_of (N := ["script", "place", "cell", "own", "small"]) (k := 0) (io := [false, false]) (fx := ioIx [false, false]) (body := b__law_pot) D sc__law_pot rfl (fun _ => mem_ioIx) fun f cdv A outer s H E hr => (qss_cons (qs_set (i := 2) sc__law_pot.nd rfl (.inl rfl) (.inl rfl) (by decide) (qe_ite (ct_cmp (cpLt hr) (qo_var (pe_var (i := 1) rfl (.inl rfl) (by decide) (by decide))) (qo_val (ce_len rfl hB.b_len (qo_var (pe_var (i := 0) rfl (.inl rfl) (by decide) (by decide))) rfl)) (nomark _)) (ce_ix (qo_var (pe_var (i := 0) rfl (.inl rfl) (by decide) (by decide))) (qo_var (pe_var (i := 1) rfl (.inl rfl) (by decide) (by decide))) (fun _ _ => rfl)) (qe_add (qo_val (qe_add (qo_val (qe_mod (qo_val (ce_sum rfl rfl hB.b_sum (qo_val (qe_slice (qo_var (pe_var (i := 0) rfl (.inl rfl) (by decide) (by decide))) .none (.some (qo_val qe_int)))) rfl)) (qo_val qe_int))) (qo_val (qe_mul (qo_val qe_int) (qo_var (pe_var (i := 1) rfl (.inl rfl) (by decide) (by decide))))))) (qo_val qe_int))) rfl rfl)
    (qss_cons (qs_set (i := 3) sc__law_pot.nd rfl (.inl rfl) (.inl rfl) (by decide) (qe_mul (qo_val (qe_mod (qo_val (ce_int rfl hB.b_int (qo_val (ce_abs rfl hB.b_abs (qo_var (pe_var (i := 2) rfl (.inl rfl) (by decide) (by decide))) rfl)) rfl)) (qo_val (qe_pow (qo_val (qe_pow (qo_val qe_int) (qo_val qe_int))) (qo_val qe_int))))) (qo_val (ce_int rfl hB.b_int (qo_val (ce_cmp (cpGe hr) (qo_val (ce_abs rfl hB.b_abs (qo_var (pe_var (i := 2) rfl (.inl rfl) (by decide) (by decide))) rfl)) (qo_val (qe_pow (qo_val qe_int) (qo_val qe_int))) (nomark _))) rfl))) rfl rfl)
    (qss_cons (qs_set (i := 4) sc__law_pot.nd rfl (.inl rfl) (.inl rfl) (by decide) (qe_mod (qo_val (ce_int rfl hB.b_int (qo_var (pe_var (i := 2) rfl (.inl rfl) (by decide) (by decide))) rfl)) (qo_val qe_int)) rfl rfl)
    (qss_one (qs_ret (qe_lst (qaf_cons (qf_of (qe_var (pe_var (i := 3) rfl (.inl rfl) (by decide) (by decide)))) (qaf_cons (qf_of (qe_mod (qo_val (ce_int rfl hB.b_int (qo_val (qe_add (qo_val (qe_add (qo_val (qe_mul (qo_var (pe_var (i := 4) rfl (.inl rfl) (by decide) (by decide))) (qo_val qe_int))) (qo_val (qe_mul (qo_val (qe_mul (qo_val qe_int) (qo_var (pe_var (i := 1) rfl (.inl rfl) (by decide) (by decide))))) (qo_var (pe_var (i := 1) rfl (.inl rfl) (by decide) (by decide))))))) (qo_val qe_int))) rfl)) (qo_val qe_int))) (qaf_cons (qf_of qe_int) qaf_nil rfl) rfl) rfl)))))))

abbrev s__law_take : Stmt := topS 36
abbrev ps__law_take : List Str := ["pot", "upto"]
theorem sc__law_take : FnScope ["pot", "upto", "digit", "prime", "blend"] ps__law_take (defScope s__law_take) := ⟨rfl, rfl, rfl, by decide +kernel, rfl, by decide +kernel, by decide +kernel⟩
noncomputable def t__law_take_1 : M Fl := (mSetS 2 (mOp2 gMod (mval (mCall gInt1 (mcons (mval (mOp2 gIxS (mslot 0) (mval (pure (frv (.int 0)))))) mnil))) (mslot 1)))
noncomputable def t__law_take_2 : M Fl := (mSetIx 0 (mfz (mOp2 gDiv (mval (mOp2 gIxS (mslot 0) (mval (pure (frv (.int 0)))))) (mslot 1))) (mval (pure (frv (.int 0)))))
noncomputable def t__law_take_3 : M Fl := (mRetV 2)
noncomputable def t__law_take_4 : M Fl := (mIfS (mB (mOp2 gGtA (mval (mOp2 gIxS (mslot 0) (mval (pure (frv (.int 0)))))) (mval (pure (frv (.int 0)))))) (mSeq t__law_take_1
  (mSeq t__law_take_2
  t__law_take_3)) (pure .nx))
noncomputable def t__law_take_5 : M Fl := (mSetIx 0 (mfz (mOp2 gAdd (mval (mOp2 gIxS (mslot 0) (mval (pure (frv (.int 2)))))) (mval (pure (frv (.int 1)))))) (mval (pure (frv (.int 2)))))
noncomputable def t__law_take_6 : M Fl := (mSetS 3 (mOp2 gIxS (mval (mLst (mcons (mfz (pure (frv (.int 2147483647)))) (mcons (mfz (pure (frv (.int 2147483629)))) (mcons (mfz (pure (frv (.int 2147483587)))) (mcons (mfz (pure (frv (.int 2147483579)))) (mcons (mfz (pure (frv (.int 2147483563)))) mnil))))))) (mval (mOp2 gMod (mval (mCall gInt1 (mcons (mval (mOp2 gIxS (mslot 0) (mval (pure (frv (.int 2)))))) mnil))) (mval (pure (frv (.int 5))))))))
noncomputable def t__law_take_7 : M Fl := (mSetS 4 (mOp2 gMod (mval (mCall gInt1 (mcons (mval (mOp2 gPow (mval (mCall gInt1 (mcons (mval (mOp2 gAdd (mval (mOp2 gAdd (mval (mOp2 gIxS (mslot 0) (mval (pure (frv (.int 1)))))) (mval (mOp2 gMul (mval (mOp2 gMul (mval (pure (frv (.int 89563)))) (mval (mOp2 gIxS (mslot 0) (mval (pure (frv (.int 2)))))))) (mval (mOp2 gIxS (mslot 0) (mval (pure (frv (.int 2)))))))))) (mval (pure (frv (.int 638)))))) mnil))) (mval (pure (frv (.int 3)))))) mnil))) (mslot 3)))
noncomputable def t__law_take_8 : M Fl := (mSetS 4 (mOp2 gMod (mval (mCall gInt1 (mcons (mval (mOp2 gMul (mslot 4) (mval (mOp2 gAdd (mval (mOp2 gMod (mval (mCall gInt1 (mcons (mslot 4) mnil))) (mval (pure (frv (.int 10259)))))) (mval (mOp2 gMul (mval (pure (frv (.int 122)))) (mval (mOp2 gIxS (mslot 0) (mval (pure (frv (.int 2)))))))))))) mnil))) (mval (pure (frv (.int 2305843009213693907))))))
noncomputable def t__law_take_9 : M Fl := (mRet (mOp2 gMod (mval (mCall gInt1 (mcons (mval (mOp2 gDiv (mslot 4) (mval (pure (frv (.int 152)))))) mnil))) (mslot 1)))
noncomputable def b__law_take : M Fl := (mSeq t__law_take_4
  (mSeq t__law_take_5
  (mSeq t__law_take_6
  (mSeq t__law_take_7
  (mSeq t__law_take_8
  t__law_take_9)))))
noncomputable def fd__law_take : FD := ⟨[true, false], runF [true, false] 5 b__law_take⟩
@[simp] theorem io__law_take : fd__law_take.io = [true, false] := by
  delta fd__law_take
  rfl
theorem g__law_take (ds : List PyData) : fd__law_take.g ds = Rf.of [true, false] (b__law_take (env0 [true, false] ds 5)) := by
  delta fd__law_take
  exact runF_e [true, false] 5 b__law_take ds
theorem ok__law_take (hB : Bu mg) (hG : Gc mg) (D : Dfn K mg "_law_take" s__law_take ps__law_take) : Cal P w K mg base 1 cl "_law_take" ps__law_take fd__law_take :=
  cal_of (N := ["pot", "upto", "digit", "prime", "blend"]) (k := 0) (io := [true, false]) (fx := ioIx [true, false]) (body := b__law_take) D sc__law_take rfl (fun _ => mem_ioIx) fun f cdv A outer s H E hr => (qss_cons (qs_if (ct_cmp (cpGt hr) (qo_val (ce_ix (qo_var (pe_var (i := 0) rfl (.inl rfl) (by decide) (by decide))) (qo_val qe_int) (fun _ _ => rfl))) (qo_val qe_int) (nomark _)) (qss_cons (qs_set (i := 2) sc__law_take.nd rfl (.inl rfl) (.inl rfl) (by decide) (qe_mod (qo_val (ce_int rfl hB.b_int (qo_val (ce_ix (qo_var (pe_var (i := 0) rfl (.inl rfl) (by decide) (by decide))) (qo_val qe_int) (fun _ _ => rfl))) rfl)) (qo_var (pe_var (i := 1) rfl (.inl rfl) (by decide) (by decide)))) rfl rfl)
    (qss_cons (qs_setIx (pe_var (i := 0) rfl (.inl rfl) (by decide) (by decide)) (qf_of (qe_fdiv (qo_val (ce_ix (qo_var (pe_var (i := 0) rfl (.inl rfl) (by decide) (by decide))) (qo_val qe_int) (fun _ _ => rfl))) (qo_var (pe_var (i := 1) rfl (.inl rfl) (by decide) (by decide))))) (qo_val qe_int) rfl rfl rfl (fun _ => rfl))
    (qss_one (qs_retV (pe_var (i := 2) rfl (.inl rfl) (by decide) (by decide)))))) qss_nil)
    (qss_cons (qs_setIx (pe_var (i := 0) rfl (.inl rfl) (by decide) (by decide)) (qf_of (qe_add (qo_val (ce_ix (qo_var (pe_var (i := 0) rfl (.inl rfl) (by decide) (by decide))) (qo_val qe_int) (fun _ _ => rfl))) (qo_val qe_int))) (qo_val qe_int) rfl rfl rfl (fun _ => rfl))
    (qss_cons (qs_set (i := 3) sc__law_take.nd rfl (.inl rfl) (.inl rfl) (by decide) (ce_ix (qo_val (qe_lst (qaf_cons (qf_of qe_int) (qaf_cons (qf_of qe_int) (qaf_cons (qf_of qe_int) (qaf_cons (qf_of qe_int) (qaf_cons (qf_of qe_int) qaf_nil rfl) rfl) rfl) rfl) rfl))) (qo_val (qe_mod (qo_val (ce_int rfl hB.b_int (qo_val (ce_ix (qo_var (pe_var (i := 0) rfl (.inl rfl) (by decide) (by decide))) (qo_val qe_int) (fun _ _ => rfl))) rfl)) (qo_val qe_int))) (fun _ _ => rfl)) rfl rfl)
    (qss_cons (qs_set (i := 4) sc__law_take.nd rfl (.inl rfl) (.inl rfl) (by decide) (qe_mod (qo_val (ce_int rfl hB.b_int (qo_val (qe_pow (qo_val (ce_int rfl hB.b_int (qo_val (qe_add (qo_val (qe_add (qo_val (ce_ix (qo_var (pe_var (i := 0) rfl (.inl rfl) (by decide) (by decide))) (qo_val qe_int) (fun _ _ => rfl))) (qo_val (qe_mul (qo_val (qe_mul (qo_val qe_int) (qo_val (ce_ix (qo_var (pe_var (i := 0) rfl (.inl rfl) (by decide) (by decide))) (qo_val qe_int) (fun _ _ => rfl))))) (qo_val (ce_ix (qo_var (pe_var (i := 0) rfl (.inl rfl) (by decide) (by decide))) (qo_val qe_int) (fun _ _ => rfl))))))) (qo_val qe_int))) rfl)) (qo_val qe_int))) rfl)) (qo_var (pe_var (i := 3) rfl (.inl rfl) (by decide) (by decide)))) rfl rfl)
    (qss_cons (qs_set (i := 4) sc__law_take.nd rfl (.inl rfl) (.inl rfl) (by decide) (qe_mod (qo_val (ce_int rfl hB.b_int (qo_val (qe_mul (qo_var (pe_var (i := 4) rfl (.inl rfl) (by decide) (by decide))) (qo_val (qe_add (qo_val (qe_mod (qo_val (ce_int rfl hB.b_int (qo_var (pe_var (i := 4) rfl (.inl rfl) (by decide) (by decide))) rfl)) (qo_val qe_int))) (qo_val (qe_mul (qo_val qe_int) (qo_val (ce_ix (qo_var (pe_var (i := 0) rfl (.inl rfl) (by decide) (by decide))) (qo_val qe_int) (fun _ _ => rfl))))))))) rfl)) (qo_val qe_int)) rfl rfl)
    (qss_one (qs_ret (qe_mod (qo_val (ce_int rfl hB.b_int (qo_val (qe_fdiv (qo_var (pe_var (i := 4) rfl (.inl rfl) (by decide) (by decide))) (qo_val qe_int))) rfl)) (qo_var (pe_var (i := 1) rfl (.inl rfl) (by decide) (by decide)))))))))))

abbrev s__law_of : Stmt := topS 37
abbrev ps__law_of : List Str := ["pot", "some"]
theorem sc__law_of : FnScope ["pot", "some"] ps__law_of (defScope s__law_of) := ⟨rfl, rfl, rfl, by decide +kernel, rfl, by decide +kernel, by decide +kernel⟩
noncomputable def b__law_of : M Fl := (mRet (mOp2 gIxS (mslot 1) (mval (mCallF fd__law_take (mcons (mArgI 0) (mcons (mArgF (mfz (mCall gLen (mcons (mslot 1) mnil)))) mnil))))))
noncomputable def fd__law_of : FD := ⟨[true, false], runF [true, false] 2 b__law_of⟩
@[simp] theorem io__law_of : fd__law_of.io = [true, false] := by
  delta fd__law_of
  rfl
theorem g__law_of (ds : List PyData) : fd__law_of.g ds = Rf.of [true, false] (b__law_of (env0 [true, false] ds 2)) := by
  delta fd__law_of
  exact runF_e [true, false] 2 b__law_of ds
theorem ok__law_of (hB : Bu mg) (hG : Gc mg) (D : Dfn K mg "_law_of" s__law_of ps__law_of) (h__law_take : Cal P w K mg base 1 cl "_law_take" ps__law_take fd__law_take) : Cal P w K mg base 2 cl "_law_of" ps__law_of fd__law_of :=
  cal_of (N := ["pot", "some"]) (k := 1) (io := [true, false]) (fx := ioIx [true, false]) (body := b__law_of) D sc__law_of rfl (fun _ => mem_ioIx) fun f cdv A outer s H E hr => (qss_one (qs_ret (ce_ix (qo_var (pe_var (i := 1) rfl (.inl rfl) (by decide) (by decide))) (qo_val (qe_callC (h__law_take.mono (by decide)) hr rfl hxD (qar_cons (qr_io (pe_var (i := 0) rfl (.inl rfl) (by decide) (by decide))) (qar_cons (qr_fz (qf_of (ce_len rfl hB.b_len (qo_var (pe_var (i := 1) rfl (.inl rfl) (by decide) (by decide))) rfl))) qar_nil rfl) rfl) (by decide) rfl rfl)) (fun _ _ => rfl))))

abbrev s_is_tuple : Stmt := topS 1
abbrev ps_is_tuple : List Str := ["value", "least", "most"]
theorem sc_is_tuple : FnScope ["value", "least", "most"] ps_is_tuple (defScope s_is_tuple) := ⟨rfl, rfl, rfl, by decide +kernel, rfl, by decide +kernel, by decide +kernel⟩
noncomputable def b_is_tuple : M Fl := (mRet (mAndV (mOp1 (isiD "tuple") (mslot 0)) (mChain gLe gLe (mslot 1) (mval (mCall gLen (mcons (mslot 0) mnil))) (mslot 2))))
noncomputable def fd_is_tuple : FD := ⟨[false, false, false], runF [false, false, false] 3 b_is_tuple⟩
@[simp] theorem io_is_tuple : fd_is_tuple.io = [false, false, false] := by
  delta fd_is_tuple
  rfl
theorem g_is_tuple (ds : List PyData) : fd_is_tuple.g ds = Rf.of [false, false, false] (b_is_tuple (env0 [false, false, false] ds 3)) := by
  delta fd_is_tuple
  exact runF_e [false, false, false] 3 b_is_tuple ds
theorem ok_is_tuple (hB : Bu mg) (hG : Gc mg) (D : Dfn K mg "is_tuple" s_is_tuple ps_is_tuple) : Cal P w K mg base 1 cl "is_tuple" ps_is_tuple fd_is_tuple :=
  cal_of (N := ["value", "least", "most"]) (k := 0) (io := [false, false, false]) (fx := ioIx [false, false, false]) (body := b_is_tuple) D sc_is_tuple rfl (fun _ => mem_ioIx) fun f cdv A outer s H E hr => (qss_one (qs_ret (qe_and (qe_isi rfl hB.b_isinstance rfl hB.b_tuple PyProof.Rows.boot_tuple (by decide) (by decide) (qo_var (pe_var (i := 0) rfl (.inl rfl) (by decide) (by decide))) rfl rfl rfl) (qe_one (ce_chain (cpLe hr) (cpLe hr) (qo_var (pe_var (i := 1) rfl (.inl rfl) (by decide) (by decide))) (qo_val (ce_len rfl hB.b_len (qo_var (pe_var (i := 0) rfl (.inl rfl) (by decide) (by decide))) rfl)) (qo_var (pe_var (i := 2) rfl (.inl rfl) (by decide) (by decide))) (by with_unfolding_all rfl))))))

abbrev s_is_whole : Stmt := topS 2
abbrev ps_is_whole : List Str := ["value"]
theorem sc_is_whole : FnScope ["value"] ps_is_whole (defScope s_is_whole) := ⟨rfl, rfl, rfl, by decide +kernel, rfl, by decide +kernel, by decide +kernel⟩
noncomputable def b_is_whole : M Fl := (mRet (mAndV (mOp1 (isiD "int") (mslot 0)) (mNotV (mOp1 (isiD "bool") (mslot 0)))))
noncomputable def fd_is_whole : FD := ⟨[false], runF [false] 1 b_is_whole⟩
@[simp] theorem io_is_whole : fd_is_whole.io = [false] := by
  delta fd_is_whole
  rfl
theorem g_is_whole (ds : List PyData) : fd_is_whole.g ds = Rf.of [false] (b_is_whole (env0 [false] ds 1)) := by
  delta fd_is_whole
  exact runF_e [false] 1 b_is_whole ds
theorem ok_is_whole (hB : Bu mg) (hG : Gc mg) (D : Dfn K mg "is_whole" s_is_whole ps_is_whole) : Cal P w K mg base 1 cl "is_whole" ps_is_whole fd_is_whole :=
  cal_of (N := ["value"]) (k := 0) (io := [false]) (fx := ioIx [false]) (body := b_is_whole) D sc_is_whole rfl (fun _ => mem_ioIx) fun f cdv A outer s H E hr => (qss_one (qs_ret (qe_and (qe_isi rfl hB.b_isinstance rfl hB.b_int PyProof.Rows.boot_int (by decide) (by decide) (qo_var (pe_var (i := 0) rfl (.inl rfl) (by decide) (by decide))) rfl rfl rfl) (qe_one (qe_not (qe_isi rfl hB.b_isinstance rfl hB.b_bool PyProof.Rows.boot_bool (by decide) (by decide) (qo_var (pe_var (i := 0) rfl (.inl rfl) (by decide) (by decide))) rfl rfl rfl))))))

abbrev s_is_integer : Stmt := topS 3
abbrev ps_is_integer : List Str := ["value", "low", "high"]
theorem sc_is_integer : FnScope ["value", "low", "high"] ps_is_integer (defScope s_is_integer) := ⟨rfl, rfl, rfl, by decide +kernel, rfl, by decide +kernel, by decide +kernel⟩
noncomputable def b_is_integer : M Fl := (mRet (mAndV (mCallF fd_is_whole (mcons (mArgF (mfz (mget 0))) mnil)) (mChain gLe gLe (mslot 1) (mslot 0) (mslot 2))))
noncomputable def fd_is_integer : FD := ⟨[false, false, false], runF [false, false, false] 3 b_is_integer⟩
@[simp] theorem io_is_integer : fd_is_integer.io = [false, false, false] := by
  delta fd_is_integer
  rfl
theorem g_is_integer (ds : List PyData) : fd_is_integer.g ds = Rf.of [false, false, false] (b_is_integer (env0 [false, false, false] ds 3)) := by
  delta fd_is_integer
  exact runF_e [false, false, false] 3 b_is_integer ds
theorem ok_is_integer (hB : Bu mg) (hG : Gc mg) (D : Dfn K mg "is_integer" s_is_integer ps_is_integer) (h_is_whole : Cal P w K mg base 1 cl "is_whole" ps_is_whole fd_is_whole) : Cal P w K mg base 2 cl "is_integer" ps_is_integer fd_is_integer :=
  cal_of (N := ["value", "low", "high"]) (k := 1) (io := [false, false, false]) (fx := ioIx [false, false, false]) (body := b_is_integer) D sc_is_integer rfl (fun _ => mem_ioIx) fun f cdv A outer s H E hr => (qss_one (qs_ret (qe_and (qe_callC (h_is_whole.mono (by decide)) hr rfl hxD (qar_cons (qr_fz (qf_of (qe_var (pe_var (i := 0) rfl (.inl rfl) (by decide) (by decide))))) qar_nil rfl) (by decide) rfl rfl) (qe_one (ce_chain (cpLe hr) (cpLe hr) (qo_var (pe_var (i := 1) rfl (.inl rfl) (by decide) (by decide))) (qo_var (pe_var (i := 0) rfl (.inl rfl) (by decide) (by decide))) (qo_var (pe_var (i := 2) rfl (.inl rfl) (by decide) (by decide))) (by with_unfolding_all rfl))))))

abbrev s_is_row : Stmt := topS 19
abbrev ps_is_row : List Str := ["value", "long", "most"]
theorem sc_is_row : FnScope ["value", "long", "most", "one"] ps_is_row (defScope s_is_row) := ⟨rfl, rfl, rfl, by decide +kernel, rfl, by decide +kernel, by decide +kernel⟩
noncomputable def c_is_row_1 : M SV := mLc (mIt (mfz (mget 0))) [3] (putS 3) (pure true) (mfz (mCallF fd_is_integer (mcons (mArgF (mfz (mget 3))) (mcons (mArgF (mfz (pure (frv (.int 0))))) (mcons (mArgF (mfz (mget 2))) mnil)))))
noncomputable def b_is_row : M Fl := (mRet (mAndV (mCallF fd_is_tuple (mcons (mArgF (mfz (mget 0))) (mcons (mArgF (mfz (mget 1))) (mcons (mArgF (mfz (mget 1))) mnil)))) (mCall (gAllAny (·.all id)) (mcons (mval c_is_row_1) mnil))))
noncomputable def fd_is_row : FD := ⟨[false, false, false], runF [false, false, false] 4 b_is_row⟩
@[simp] theorem io_is_row : fd_is_row.io = [false, false, false] := by
  delta fd_is_row
  rfl
theorem g_is_row (ds : List PyData) : fd_is_row.g ds = Rf.of [false, false, false] (b_is_row (env0 [false, false, false] ds 4)) := by
  delta fd_is_row
  exact runF_e [false, false, false] 4 b_is_row ds
theorem ok_is_row (hB : Bu mg) (hG : Gc mg) (D : Dfn K mg "is_row" s_is_row ps_is_row) (h_is_tuple : Cal P w K mg base 1 cl "is_tuple" ps_is_tuple fd_is_tuple) (h_is_integer : Cal P w K mg base 2 cl "is_integer" ps_is_integer fd_is_integer) : Cal P w K mg base 3 cl "is_row" ps_is_row fd_is_row :=
  cal_of (N := ["value", "long", "most", "one"]) (k := 2) (io := [false, false, false]) (fx := ioIx [false, false, false]) (body := b_is_row) D sc_is_row rfl (fun _ => mem_ioIx) fun f cdv A outer s H E hr => (qss_one (qs_ret (qe_and (qe_callC (h_is_tuple.mono (by decide)) hr rfl hxD (qar_cons (qr_fz (qf_of (qe_var (pe_var (i := 0) rfl (.inl rfl) (by decide) (by decide))))) (qar_cons (qr_fz (qf_of (qe_var (pe_var (i := 1) rfl (.inl rfl) (by decide) (by decide))))) (qar_cons (qr_fz (qf_of (qe_var (pe_var (i := 1) rfl (.inl rfl) (by decide) (by decide))))) qar_nil rfl) rfl) rfl) (by decide) rfl rfl) (qe_one (ce_all rfl rfl hB.b_all (qo_val (qe_lc (own := [("one", 3)]) rfl sc_is_row.nd (qi_seq (qf_of (qe_var (pe_var (i := 0) rfl (.inl rfl) (by decide) (by decide))))) (blkOk_by (by kernel_rfl)) (fun _ _ _ _ _ => (qg_name (i := 3) sc_is_row.nd rfl (.inl rfl) (.inr rfl) (nbut (by decide)))) (fun _ _ _ _ _ => qts_nil) (fun _ _ _ _ _ => (qf_of (qe_callC0 (h_is_integer.mono (by decide)) hr rfl (qar_cons (qr_fz (qf_of (qe_var (pe_var (i := 3) rfl (.inl rfl) (by decide) (by decide))))) (qar_cons (qr_fz (qf_of qe_int)) (qar_cons (qr_fz (qf_of (qe_var (pe_var (i := 2) rfl (.inr (.inl  rfl)) (by decide) (by decide))))) qar_nil rfl) rfl) rfl) (by decide) rfl rfl))) (fun _ => rfl))) rfl)))))

abbrev s_check_least : Stmt := topS 20
abbrev ps_check_least : List Str := ["least"]
theorem sc_check_least : FnScope ["least"] ps_check_least (defScope s_check_least) := ⟨rfl, rfl, rfl, by decide +kernel, rfl, by decide +kernel, by decide +kernel⟩
noncomputable def b_check_least : M Fl := (mIfS (mOr (mNot (mB (mCallF fd_is_tuple (mcons (mArgF (mfz (mget 0))) (mcons (mArgF (mfz (pure (frv (.int 1))))) (mcons (mArgF (mfz (mOp2 gSub (mval (pure (frv (.int 12)))) (mval (pure (frv (.int 1))))))) mnil)))))) (mNot (mB (mCallF fd_is_row (mcons (mArgF (mfz (mget 0))) (mcons (mArgF (mfz (mCall gLen (mcons (mslot 0) mnil)))) (mcons (mArgF (mfz (pure (frv (.int 100000))))) mnil))))))) (M.bad : M Fl) (pure .nx))
noncomputable def fd_check_least : FD := ⟨[false], runF [false] 1 b_check_least⟩
@[simp] theorem io_check_least : fd_check_least.io = [false] := by
  delta fd_check_least
  rfl
theorem g_check_least (ds : List PyData) : fd_check_least.g ds = Rf.of [false] (b_check_least (env0 [false] ds 1)) := by
  delta fd_check_least
  exact runF_e [false] 1 b_check_least ds
theorem ok_check_least (hB : Bu mg) (hG : Gc mg) (D : Dfn K mg "check_least" s_check_least ps_check_least) (h_is_tuple : Cal P w K mg base 1 cl "is_tuple" ps_is_tuple fd_is_tuple) (h_is_row : Cal P w K mg base 3 cl "is_row" ps_is_row fd_is_row) : Cal P w K mg base 4 cl "check_least" ps_check_least fd_check_least :=
  cal_of (N := ["least"]) (k := 3) (io := [false]) (fx := ioIx [false]) (body := b_check_least) D sc_check_least rfl (fun _ => mem_ioIx) fun f cdv A outer s H E hr => (qss_one (qs_if (PW.pt (qw_or (qt_not (qt_val (qe_callC (h_is_tuple.mono (by decide)) hr rfl hxD (qar_cons (qr_fz (qf_of (qe_var (pe_var (i := 0) rfl (.inl rfl) (by decide) (by decide))))) (qar_cons (qr_fz (qf_of qe_int)) (qar_cons (qr_fz (qf_of (qe_sub (qo_val (qe_gintE rfl hG.c_MOST_GATES (by decide))) (qo_val qe_int)))) qar_nil rfl) rfl) rfl) (by decide) rfl rfl) fun _ => rfl)) (qw_or1 (qt_not (qt_val (qe_callC (h_is_row.mono (by decide)) hr rfl hxD (qar_cons (qr_fz (qf_of (qe_var (pe_var (i := 0) rfl (.inl rfl) (by decide) (by decide))))) (qar_cons (qr_fz (qf_of (ce_len rfl hB.b_len (qo_var (pe_var (i := 0) rfl (.inl rfl) (by decide) (by decide))) rfl))) (qar_cons (qr_fz (qf_of (qe_gintE rfl hG.c_MOST_LEAST (by decide)))) qar_nil rfl) rfl) rfl) (by decide) rfl rfl) fun _ => rfl))))) (qss_one qs_never) qss_nil))

abbrev s_check_seen : Stmt := topS 21
abbrev ps_check_seen : List Str := ["least", "seen", "off"]
theorem sc_check_seen : FnScope ["least", "seen", "off"] ps_check_seen (defScope s_check_seen) := ⟨rfl, rfl, rfl, by decide +kernel, rfl, by decide +kernel, by decide +kernel⟩
noncomputable def t_check_seen_1 : M Fl := (mDrop (mCallF fd_check_least (mcons (mArgF (mfz (mget 0))) mnil)))
noncomputable def t_check_seen_2 : M Fl := (mIfS (mNot (mB (mCallF fd_is_row (mcons (mArgF (mfz (mget 1))) (mcons (mArgF (mfz (mOp2 gAdd (mval (mCall gLen (mcons (mslot 0) mnil))) (mval (pure (frv (.int 1))))))) (mcons (mArgF (mfz (pure (frv (.int 1000000))))) mnil)))))) (M.bad : M Fl) (pure .nx))
noncomputable def t_check_seen_3 : M Fl := (mIfS (mNot (mB (mCallF fd_is_integer (mcons (mArgF (mfz (mget 2))) (mcons (mArgF (mfz (pure (frv (.int 0))))) (mcons (mArgF (mfz (pure (frv (.int 1000))))) mnil)))))) (M.bad : M Fl) (pure .nx))
noncomputable def b_check_seen : M Fl := (mSeq t_check_seen_1
  (mSeq t_check_seen_2
  t_check_seen_3))
noncomputable def fd_check_seen : FD := ⟨[false, false, false], runF [false, false, false] 3 b_check_seen⟩
@[simp] theorem io_check_seen : fd_check_seen.io = [false, false, false] := by
  delta fd_check_seen
  rfl
theorem g_check_seen (ds : List PyData) : fd_check_seen.g ds = Rf.of [false, false, false] (b_check_seen (env0 [false, false, false] ds 3)) := by
  delta fd_check_seen
  exact runF_e [false, false, false] 3 b_check_seen ds
theorem ok_check_seen (hB : Bu mg) (hG : Gc mg) (D : Dfn K mg "check_seen" s_check_seen ps_check_seen) (h_check_least : Cal P w K mg base 4 cl "check_least" ps_check_least fd_check_least) (h_is_row : Cal P w K mg base 3 cl "is_row" ps_is_row fd_is_row) (h_is_integer : Cal P w K mg base 2 cl "is_integer" ps_is_integer fd_is_integer) : Cal P w K mg base 5 cl "check_seen" ps_check_seen fd_check_seen :=
  cal_of (N := ["least", "seen", "off"]) (k := 4) (io := [false, false, false]) (fx := ioIx [false, false, false]) (body := b_check_seen) D sc_check_seen rfl (fun _ => mem_ioIx) fun f cdv A outer s H E hr => (qss_cons (qs_drop (qe_callC (h_check_least.mono (by decide)) hr rfl hxD (qar_cons (qr_fz (qf_of (qe_var (pe_var (i := 0) rfl (.inl rfl) (by decide) (by decide))))) qar_nil rfl) (by decide) rfl rfl) rfl)
    (qss_cons (qs_if (qt_not (qt_val (qe_callC (h_is_row.mono (by decide)) hr rfl hxD (qar_cons (qr_fz (qf_of (qe_var (pe_var (i := 1) rfl (.inl rfl) (by decide) (by decide))))) (qar_cons (qr_fz (qf_of (qe_add (qo_val (ce_len rfl hB.b_len (qo_var (pe_var (i := 0) rfl (.inl rfl) (by decide) (by decide))) rfl)) (qo_val qe_int)))) (qar_cons (qr_fz (qf_of (qe_gintE rfl hG.c_MOST_TIME (by decide)))) qar_nil rfl) rfl) rfl) (by decide) rfl rfl) fun _ => rfl)) (qss_one qs_never) qss_nil)
    (qss_one (qs_if (qt_not (qt_val (qe_callC (h_is_integer.mono (by decide)) hr rfl hxD (qar_cons (qr_fz (qf_of (qe_var (pe_var (i := 2) rfl (.inl rfl) (by decide) (by decide))))) (qar_cons (qr_fz (qf_of qe_int)) (qar_cons (qr_fz (qf_of (qe_gintE rfl hG.c_MOST_OFF (by decide)))) qar_nil rfl) rfl) rfl) (by decide) rfl rfl) fun _ => rfl)) (qss_one qs_never) qss_nil))))

abbrev s_needed : Stmt := topS 22
abbrev ps_needed : List Str := ["least", "one", "other"]
theorem sc_needed : FnScope ["least", "one", "other"] ps_needed (defScope s_needed) := ⟨rfl, rfl, rfl, by decide +kernel, rfl, by decide +kernel, by decide +kernel⟩
noncomputable def b_needed : M Fl := (mRet (mCall gSum (mcons (mval (mSl (mslot 0) (some (mslot 1)) (some (mslot 2)))) mnil)))
noncomputable def fd_needed : FD := ⟨[false, false, false], runF [false, false, false] 3 b_needed⟩
@[simp] theorem io_needed : fd_needed.io = [false, false, false] := by
  delta fd_needed
  rfl
theorem g_needed (ds : List PyData) : fd_needed.g ds = Rf.of [false, false, false] (b_needed (env0 [false, false, false] ds 3)) := by
  delta fd_needed
  exact runF_e [false, false, false] 3 b_needed ds
theorem ok_needed (hB : Bu mg) (hG : Gc mg) (D : Dfn K mg "needed" s_needed ps_needed) : Cal P w K mg base 1 cl "needed" ps_needed fd_needed :=
  cal_of (N := ["least", "one", "other"]) (k := 0) (io := [false, false, false]) (fx := ioIx [false, false, false]) (body := b_needed) D sc_needed rfl (fun _ => mem_ioIx) fun f cdv A outer s H E hr => (qss_one (qs_ret (ce_sum rfl rfl hB.b_sum (qo_val (qe_slice (qo_var (pe_var (i := 0) rfl (.inl rfl) (by decide) (by decide))) (.some (qo_var (pe_var (i := 1) rfl (.inl rfl) (by decide) (by decide)))) (.some (qo_var (pe_var (i := 2) rfl (.inl rfl) (by decide) (by decide)))))) rfl)))

abbrev s_shortest : Stmt := topS 31
abbrev ps_shortest : List Str := ["over", "under"]
theorem sc_shortest : FnScope ["over", "under", "one", "other"] ps_shortest (defScope s_shortest) := ⟨rfl, rfl, rfl, by decide +kernel, rfl, by decide +kernel, by decide +kernel⟩
noncomputable def t_shortest_1 : M Fl := (mIfS (mB (mOp2 gLe (mslot 1) (mval (pure (frv (.int 0)))))) (mRet (pure (frv .none))) (pure .nx))
noncomputable def t_shortest_2 : M Fl := (mPar2 2 3 (mget 0) (mget 1))
noncomputable def u_shortest_1 : M Fl := (mPar2 2 3 (mget 3) (mOp2 gMod (mslot 2) (mslot 3)))
noncomputable def l_shortest_1 : M Fl := mWhile (mB (mOp2 (gEq true) (mslot 3) (mval (pure (frv (.int 0)))))) u_shortest_1
noncomputable def t_shortest_3 : M Fl := (mRet (mTup (mcons (mfz (mOp2 gDiv (mslot 0) (mslot 2))) (mcons (mfz (mOp2 gDiv (mslot 1) (mslot 2))) mnil))))
noncomputable def b_shortest : M Fl := (mSeq t_shortest_1
  (mSeq t_shortest_2
  (mSeq l_shortest_1
  t_shortest_3)))
noncomputable def fd_shortest : FD := ⟨[false, false], runF [false, false] 4 b_shortest⟩
@[simp] theorem io_shortest : fd_shortest.io = [false, false] := by
  delta fd_shortest
  rfl
theorem g_shortest (ds : List PyData) : fd_shortest.g ds = Rf.of [false, false] (b_shortest (env0 [false, false] ds 4)) := by
  delta fd_shortest
  exact runF_e [false, false] 4 b_shortest ds
theorem ok_shortest (hB : Bu mg) (hG : Gc mg) (D : Dfn K mg "shortest" s_shortest ps_shortest) : Cal P w K mg base 1 cl "shortest" ps_shortest fd_shortest :=
  cal_of (N := ["over", "under", "one", "other"]) (k := 0) (io := [false, false]) (fx := ioIx [false, false]) (body := b_shortest) D sc_shortest rfl (fun _ => mem_ioIx) fun f cdv A outer s H E hr => (qss_cons (qs_if (ct_cmp (cpLe hr) (qo_var (pe_var (i := 1) rfl (.inl rfl) (by decide) (by decide))) (qo_val qe_int) (nomark _)) (qss_one (qs_ret qe_non)) qss_nil)
    (qss_cons (qs_par2 (i := 2) (j := 3) rfl sc_shortest.nd rfl rfl (by decide) (by decide) (by decide) rfl rfl (qe_var (pe_var (i := 0) rfl (.inl rfl) (by decide) (by decide))) (qe_var (pe_var (i := 1) rfl (.inl rfl) (by decide) (by decide))) rfl rfl rfl rfl)
    (qss_cons (qs_while hpD (ct_cmp (cpNe hr) (qo_var (pe_var (i := 3) rfl (.inl rfl) (by decide) (by decide))) (qo_val qe_int) (nomark _)) (qss_one (qs_par2 (i := 2) (j := 3) rfl sc_shortest.nd rfl rfl (by decide) (by decide) (by decide) rfl rfl (qe_var (pe_var (i := 3) rfl (.inl rfl) (by decide) (by decide))) (qe_mod (qo_var (pe_var (i := 2) rfl (.inl rfl) (by decide) (by decide))) (qo_var (pe_var (i := 3) rfl (.inl rfl) (by decide) (by decide)))) rfl rfl rfl rfl)))
    (qss_one (qs_ret (qe_tup (qaf_cons (qf_of (qe_fdiv (qo_var (pe_var (i := 0) rfl (.inl rfl) (by decide) (by decide))) (qo_var (pe_var (i := 2) rfl (.inl rfl) (by decide) (by decide))))) (qaf_cons (qf_of (qe_fdiv (qo_var (pe_var (i := 1) rfl (.inl rfl) (by decide) (by decide))) (qo_var (pe_var (i := 2) rfl (.inl rfl) (by decide) (by decide))))) qaf_nil rfl) rfl)))))))

abbrev s_averages : Stmt := topS 32
abbrev ps_averages : List Str := ["lengths", "seen", "off", "one", "other"]
theorem sc_averages : FnScope ["lengths", "seen", "off", "one", "other", "gate", "length", "time"] ps_averages (defScope s_averages) := ⟨rfl, rfl, rfl, by decide +kernel, rfl, by decide +kernel, by decide +kernel⟩
noncomputable def t_averages_1 : M Fl := (mDrop (mCallF fd_check_seen (mcons (mArgF (mfz (mget 0))) (mcons (mArgF (mfz (mget 1))) (mcons (mArgF (mfz (mget 2))) mnil)))))
noncomputable def u_averages_1 : M Fl := (mIfS (mNot (mB (mCallF fd_is_integer (mcons (mArgF (mfz (mget 5))) (mcons (mArgF (mfz (pure (frv (.int 0))))) (mcons (mArgF (mfz (mCall gLen (mcons (mslot 0) mnil)))) mnil)))))) (M.bad : M Fl) (pure .nx))
noncomputable def l_averages_1 : M Fl := mFor (mIt (mfz (mTup (mcons (mfz (mget 3)) (mcons (mfz (mget 4)) mnil))))) (putS 5) u_averages_1
noncomputable def t_averages_2 : M Fl := (mIfS (mB (mOp2 gGe (mslot 3) (mslot 4))) (M.bad : M Fl) (pure .nx))
noncomputable def t_averages_3 : M Fl := (mPar2 6 7 (mCallF fd_needed (mcons (mArgF (mfz (mget 0))) (mcons (mArgF (mfz (mget 3))) (mcons (mArgF (mfz (mget 4))) mnil)))) (mOp2 gSub (mval (mOp2 gIxS (mslot 1) (mslot 4))) (mval (mOp2 gIxS (mslot 1) (mslot 3)))))
noncomputable def t_averages_4 : M Fl := (mRet (mTup (mcons (mfz (mCallF fd_shortest (mcons (mArgF (mfz (mget 6))) (mcons (mArgF (mfz (mOp2 gAdd (mslot 7) (mval (mOp2 gMul (mval (pure (frv (.int 2)))) (mslot 2)))))) mnil)))) (mcons (mfz (mCallF fd_shortest (mcons (mArgF (mfz (mget 6))) (mcons (mArgF (mfz (mOp2 gSub (mslot 7) (mval (mOp2 gMul (mval (pure (frv (.int 2)))) (mslot 2)))))) mnil)))) mnil))))
noncomputable def b_averages : M Fl := (mSeq t_averages_1
  (mSeq l_averages_1
  (mSeq t_averages_2
  (mSeq t_averages_3
  t_averages_4))))
noncomputable def fd_averages : FD := ⟨[false, false, false, false, false], runF [false, false, false, false, false] 8 b_averages⟩
@[simp] theorem io_averages : fd_averages.io = [false, false, false, false, false] := by
  delta fd_averages
  rfl
theorem g_averages (ds : List PyData) : fd_averages.g ds = Rf.of [false, false, false, false, false] (b_averages (env0 [false, false, false, false, false] ds 8)) := by
  delta fd_averages
  exact runF_e [false, false, false, false, false] 8 b_averages ds
theorem ok_averages (hB : Bu mg) (hG : Gc mg) (D : Dfn K mg "averages" s_averages ps_averages) (h_check_seen : Cal P w K mg base 5 cl "check_seen" ps_check_seen fd_check_seen) (h_is_integer : Cal P w K mg base 2 cl "is_integer" ps_is_integer fd_is_integer) (h_needed : Cal P w K mg base 1 cl "needed" ps_needed fd_needed) (h_shortest : Cal P w K mg base 1 cl "shortest" ps_shortest fd_shortest) : Cal P w K mg base 6 cl "averages" ps_averages fd_averages :=
  cal_of (N := ["lengths", "seen", "off", "one", "other", "gate", "length", "time"]) (k := 5) (io := [false, false, false, false, false]) (fx := ioIx [false, false, false, false, false]) (body := b_averages) D sc_averages rfl (fun _ => mem_ioIx) fun f cdv A outer s H E hr => (qss_cons (qs_drop (qe_callC (h_check_seen.mono (by decide)) hr rfl hxD (qar_cons (qr_fz (qf_of (qe_var (pe_var (i := 0) rfl (.inl rfl) (by decide) (by decide))))) (qar_cons (qr_fz (qf_of (qe_var (pe_var (i := 1) rfl (.inl rfl) (by decide) (by decide))))) (qar_cons (qr_fz (qf_of (qe_var (pe_var (i := 2) rfl (.inl rfl) (by decide) (by decide))))) qar_nil rfl) rfl) rfl) (by decide) rfl rfl) rfl)
    (qss_cons (qs_for hpD rfl (qi_seq (qf_of (qe_tup (qaf_cons (qf_of (qe_var (pe_var (i := 3) rfl (.inl rfl) (by decide) (by decide)))) (qaf_cons (qf_of (qe_var (pe_var (i := 4) rfl (.inl rfl) (by decide) (by decide)))) qaf_nil rfl) rfl)))) (qg_name (i := 5) sc_averages.nd rfl (.inl rfl) (.inl rfl) (by decide)) (fun _ => noEx_put) (qss_one (qs_if (qt_not (qt_val (qe_callC (h_is_integer.mono (by decide)) hr rfl hxD (qar_cons (qr_fz (qf_of (qe_var (pe_var (i := 5) rfl (.inl rfl) (by decide) (by decide))))) (qar_cons (qr_fz (qf_of qe_int)) (qar_cons (qr_fz (qf_of (ce_len rfl hB.b_len (qo_var (pe_var (i := 0) rfl (.inl rfl) (by decide) (by decide))) rfl))) qar_nil rfl) rfl) rfl) (by decide) rfl rfl) fun _ => rfl)) (qss_one qs_never) qss_nil)) (fun _ => rfl))
    (qss_cons (qs_if (ct_cmp (cpGe hr) (qo_var (pe_var (i := 3) rfl (.inl rfl) (by decide) (by decide))) (qo_var (pe_var (i := 4) rfl (.inl rfl) (by decide) (by decide))) (nomark _)) (qss_one qs_never) qss_nil)
    (qss_cons (qs_par2 (i := 6) (j := 7) rfl sc_averages.nd rfl rfl (by decide) (by decide) (by decide) rfl rfl (qe_callC (h_needed.mono (by decide)) hr rfl hxD (qar_cons (qr_fz (qf_of (qe_var (pe_var (i := 0) rfl (.inl rfl) (by decide) (by decide))))) (qar_cons (qr_fz (qf_of (qe_var (pe_var (i := 3) rfl (.inl rfl) (by decide) (by decide))))) (qar_cons (qr_fz (qf_of (qe_var (pe_var (i := 4) rfl (.inl rfl) (by decide) (by decide))))) qar_nil rfl) rfl) rfl) (by decide) rfl rfl) (qe_sub (qo_val (ce_ix (qo_var (pe_var (i := 1) rfl (.inl rfl) (by decide) (by decide))) (qo_var (pe_var (i := 4) rfl (.inl rfl) (by decide) (by decide))) (fun _ _ => rfl))) (qo_val (ce_ix (qo_var (pe_var (i := 1) rfl (.inl rfl) (by decide) (by decide))) (qo_var (pe_var (i := 3) rfl (.inl rfl) (by decide) (by decide))) (fun _ _ => rfl)))) rfl rfl rfl rfl)
    (qss_one (qs_ret (qe_tup (qaf_cons (qf_of (qe_callC (h_shortest.mono (by decide)) hr rfl hxD (qar_cons (qr_fz (qf_of (qe_var (pe_var (i := 6) rfl (.inl rfl) (by decide) (by decide))))) (qar_cons (qr_fz (qf_of (qe_add (qo_var (pe_var (i := 7) rfl (.inl rfl) (by decide) (by decide))) (qo_val (qe_mul (qo_val (qe_gintE rfl hG.c_PAIR (by decide))) (qo_var (pe_var (i := 2) rfl (.inl rfl) (by decide) (by decide)))))))) qar_nil rfl) rfl) (by decide) rfl rfl)) (qaf_cons (qf_of (qe_callC (h_shortest.mono (by decide)) hr rfl hxD (qar_cons (qr_fz (qf_of (qe_var (pe_var (i := 6) rfl (.inl rfl) (by decide) (by decide))))) (qar_cons (qr_fz (qf_of (qe_sub (qo_var (pe_var (i := 7) rfl (.inl rfl) (by decide) (by decide))) (qo_val (qe_mul (qo_val (qe_gintE rfl hG.c_PAIR (by decide))) (qo_var (pe_var (i := 2) rfl (.inl rfl) (by decide) (by decide)))))))) qar_nil rfl) rfl) (by decide) rfl rfl)) qaf_nil rfl) rfl))))))))

abbrev s_over : Stmt := topS 33
abbrev ps_over : List Str := ["lengths", "seen", "off", "limit"]
theorem sc_over : FnScope ["lengths", "seen", "off", "limit", "found", "one", "other", "time"] ps_over (defScope s_over) := ⟨rfl, rfl, rfl, by decide +kernel, rfl, by decide +kernel, by decide +kernel⟩
noncomputable def t_over_1 : M Fl := (mDrop (mCallF fd_check_seen (mcons (mArgF (mfz (mget 0))) (mcons (mArgF (mfz (mget 1))) (mcons (mArgF (mfz (mget 2))) mnil)))))
noncomputable def t_over_2 : M Fl := (mIfS (mNot (mB (mCallF fd_is_integer (mcons (mArgF (mfz (mget 3))) (mcons (mArgF (mfz (pure (frv (.int 0))))) (mcons (mArgF (mfz (pure (frv (.int 100000))))) mnil)))))) (M.bad : M Fl) (pure .nx))
noncomputable def t_over_3 : M Fl := (mSetS 4 (mLst mnil))
noncomputable def t_over_4 : M Fl := (mSetS 7 (mOp2 gAdd (mval (mOp2 gSub (mval (mOp2 gIxS (mslot 1) (mslot 6))) (mval (mOp2 gIxS (mslot 1) (mslot 5))))) (mval (mOp2 gMul (mval (pure (frv (.int 2)))) (mslot 2)))))
noncomputable def t_over_5 : M Fl := (mIfS (mB (mOp2 gGtA (mval (mCallF fd_needed (mcons (mArgF (mfz (mget 0))) (mcons (mArgF (mfz (mget 5))) (mcons (mArgF (mfz (mget 6))) mnil))))) (mval (mOp2 gMul (mslot 3) (mslot 7))))) (mAppend 4 (mfz (mTup (mcons (mfz (mget 5)) (mcons (mfz (mget 6)) mnil))))) (pure .nx))
noncomputable def u_over_1 : M Fl := (mSeq t_over_4
  t_over_5)
noncomputable def l_over_1 : M Fl := mFor (mRg rg2 (mcons (mval (mOp2 gAdd (mslot 5) (mval (pure (frv (.int 1)))))) (mcons (mval (mCall gLen (mcons (mslot 1) mnil))) mnil))) (putS 6) u_over_1
noncomputable def u_over_2 : M Fl := l_over_1
noncomputable def l_over_2 : M Fl := mFor (mRg rg1 (mcons (mval (mCall gLen (mcons (mslot 1) mnil))) mnil)) (putS 5) u_over_2
noncomputable def t_over_6 : M Fl := (mRet (mCall gTupleOf (mcons (mslot 4) mnil)))
noncomputable def b_over : M Fl := (mSeq t_over_1
  (mSeq t_over_2
  (mSeq t_over_3
  (mSeq l_over_2
  t_over_6))))
noncomputable def fd_over : FD := ⟨[false, false, false, false], runF [false, false, false, false] 8 b_over⟩
@[simp] theorem io_over : fd_over.io = [false, false, false, false] := by
  delta fd_over
  rfl
theorem g_over (ds : List PyData) : fd_over.g ds = Rf.of [false, false, false, false] (b_over (env0 [false, false, false, false] ds 8)) := by
  delta fd_over
  exact runF_e [false, false, false, false] 8 b_over ds
theorem ok_over (hB : Bu mg) (hG : Gc mg) (D : Dfn K mg "over" s_over ps_over) (h_check_seen : Cal P w K mg base 5 cl "check_seen" ps_check_seen fd_check_seen) (h_is_integer : Cal P w K mg base 2 cl "is_integer" ps_is_integer fd_is_integer) (h_needed : Cal P w K mg base 1 cl "needed" ps_needed fd_needed) : Cal P w K mg base 6 cl "over" ps_over fd_over :=
  cal_of (N := ["lengths", "seen", "off", "limit", "found", "one", "other", "time"]) (k := 5) (io := [false, false, false, false]) (fx := ioIx [false, false, false, false]) (body := b_over) D sc_over rfl (fun _ => mem_ioIx) fun f cdv A outer s H E hr => (qss_cons (qs_drop (qe_callC (h_check_seen.mono (by decide)) hr rfl hxD (qar_cons (qr_fz (qf_of (qe_var (pe_var (i := 0) rfl (.inl rfl) (by decide) (by decide))))) (qar_cons (qr_fz (qf_of (qe_var (pe_var (i := 1) rfl (.inl rfl) (by decide) (by decide))))) (qar_cons (qr_fz (qf_of (qe_var (pe_var (i := 2) rfl (.inl rfl) (by decide) (by decide))))) qar_nil rfl) rfl) rfl) (by decide) rfl rfl) rfl)
    (qss_cons (qs_if (qt_not (qt_val (qe_callC (h_is_integer.mono (by decide)) hr rfl hxD (qar_cons (qr_fz (qf_of (qe_var (pe_var (i := 3) rfl (.inl rfl) (by decide) (by decide))))) (qar_cons (qr_fz (qf_of qe_int)) (qar_cons (qr_fz (qf_of (qe_gintE rfl hG.c_MOST_LEAST (by decide)))) qar_nil rfl) rfl) rfl) (by decide) rfl rfl) fun _ => rfl)) (qss_one qs_never) qss_nil)
    (qss_cons (qs_set (i := 4) sc_over.nd rfl (.inl rfl) (.inl rfl) (by decide) (qe_lst qaf_nil) rfl rfl)
    (qss_cons (qs_for hpD rfl (qi_range1 rfl hB.b_range (pa1 (qo_val (ce_len rfl hB.b_len (qo_var (pe_var (i := 1) rfl (.inl rfl) (by decide) (by decide))) rfl)) rfl) rfl) (qg_name (i := 5) sc_over.nd rfl (.inl rfl) (.inl rfl) (by decide)) (fun _ => noEx_put) (qss_one (qs_for hpD rfl (qi_range2 rfl hB.b_range (pa2 (qo_val (qe_add (qo_var (pe_var (i := 5) rfl (.inl rfl) (by decide) (by decide))) (qo_val qe_int))) (qo_val (ce_len rfl hB.b_len (qo_var (pe_var (i := 1) rfl (.inl rfl) (by decide) (by decide))) rfl)) rfl rfl) rfl rfl) (qg_name (i := 6) sc_over.nd rfl (.inl rfl) (.inl rfl) (by decide)) (fun _ => noEx_put) (qss_cons (qs_set (i := 7) sc_over.nd rfl (.inl rfl) (.inl rfl) (by decide) (qe_add (qo_val (qe_sub (qo_val (ce_ix (qo_var (pe_var (i := 1) rfl (.inl rfl) (by decide) (by decide))) (qo_var (pe_var (i := 6) rfl (.inl rfl) (by decide) (by decide))) (fun _ _ => rfl))) (qo_val (ce_ix (qo_var (pe_var (i := 1) rfl (.inl rfl) (by decide) (by decide))) (qo_var (pe_var (i := 5) rfl (.inl rfl) (by decide) (by decide))) (fun _ _ => rfl))))) (qo_val (qe_mul (qo_val (qe_gintE rfl hG.c_PAIR (by decide))) (qo_var (pe_var (i := 2) rfl (.inl rfl) (by decide) (by decide)))))) rfl rfl)
    (qss_one (qs_if (ct_cmp (cpGt hr) (qo_val (qe_callC (h_needed.mono (by decide)) hr rfl hxD (qar_cons (qr_fz (qf_of (qe_var (pe_var (i := 0) rfl (.inl rfl) (by decide) (by decide))))) (qar_cons (qr_fz (qf_of (qe_var (pe_var (i := 5) rfl (.inl rfl) (by decide) (by decide))))) (qar_cons (qr_fz (qf_of (qe_var (pe_var (i := 6) rfl (.inl rfl) (by decide) (by decide))))) qar_nil rfl) rfl) rfl) (by decide) rfl rfl)) (qo_val (qe_mul (qo_var (pe_var (i := 3) rfl (.inl rfl) (by decide) (by decide))) (qo_var (pe_var (i := 7) rfl (.inl rfl) (by decide) (by decide))))) (nomark _)) (qss_one (qs_append (pe_var (i := 4) rfl (.inl rfl) (by decide) (by decide)) (qf_of (qe_tup (qaf_cons (qf_of (qe_var (pe_var (i := 5) rfl (.inl rfl) (by decide) (by decide)))) (qaf_cons (qf_of (qe_var (pe_var (i := 6) rfl (.inl rfl) (by decide) (by decide)))) qaf_nil rfl) rfl))) rfl rfl rfl rfl rfl rfl)) qss_nil))) (fun _ => rfl))) (fun _ => rfl))
    (qss_one (qs_ret (ce_tuple rfl hB.b_tuple (qo_var (pe_var (i := 4) rfl (.inl rfl) (by decide) (by decide))) rfl)))))))

abbrev s__law_gcd : Stmt := topS 39
abbrev ps__law_gcd : List Str := ["one", "other"]
theorem sc__law_gcd : FnScope ["one", "other", "lap"] ps__law_gcd (defScope s__law_gcd) := ⟨rfl, rfl, rfl, by decide +kernel, rfl, by decide +kernel, by decide +kernel⟩
noncomputable def t__law_gcd_1 : M Fl := (mIfS (mB (mOp2 (gEq false) (mslot 1) (mval (pure (frv (.int 0)))))) (pure .bk) (pure .nx))
noncomputable def t__law_gcd_2 : M Fl := (mPar2 0 1 (mget 1) (mOp2 gMod (mslot 0) (mslot 1)))
noncomputable def u__law_gcd_1 : M Fl := (mSeq t__law_gcd_1
  t__law_gcd_2)
noncomputable def l__law_gcd_1 : M Fl := mFor (mRg rg1 (mcons (mval (mOp2 gPow (mval (pure (frv (.int 10)))) (mval (pure (frv (.int 6)))))) mnil)) (putS 2) u__law_gcd_1
noncomputable def t__law_gcd_3 : M Fl := (mRet (mCall gAbs (mcons (mslot 0) mnil)))
noncomputable def b__law_gcd : M Fl := (mSeq l__law_gcd_1
  t__law_gcd_3)
noncomputable def fd__law_gcd : FD := ⟨[false, false], runF [false, false] 3 b__law_gcd⟩
@[simp] theorem io__law_gcd : fd__law_gcd.io = [false, false] := by
  delta fd__law_gcd
  rfl
theorem g__law_gcd (ds : List PyData) : fd__law_gcd.g ds = Rf.of [false, false] (b__law_gcd (env0 [false, false] ds 3)) := by
  delta fd__law_gcd
  exact runF_e [false, false] 3 b__law_gcd ds
theorem ok__law_gcd (hB : Bu mg) (hG : Gc mg) (D : Dfn K mg "_law_gcd" s__law_gcd ps__law_gcd) : Cal P w K mg base 1 cl "_law_gcd" ps__law_gcd fd__law_gcd :=
  cal_of (N := ["one", "other", "lap"]) (k := 0) (io := [false, false]) (fx := ioIx [false, false]) (body := b__law_gcd) D sc__law_gcd rfl (fun _ => mem_ioIx) fun f cdv A outer s H E hr => (qss_cons (qs_for hpD rfl (qi_range1 rfl hB.b_range (pa1 (qo_val (qe_pow (qo_val qe_int) (qo_val qe_int))) rfl) rfl) (qg_name (i := 2) sc__law_gcd.nd rfl (.inl rfl) (.inl rfl) (by decide)) (fun _ => noEx_put) (qss_cons (qs_if (ct_cmp (cpEq hr) (qo_var (pe_var (i := 1) rfl (.inl rfl) (by decide) (by decide))) (qo_val qe_int) (nomark _)) (qss_one qs_break) qss_nil)
    (qss_one (qs_par2 (i := 0) (j := 1) rfl sc__law_gcd.nd rfl rfl (by decide) (by decide) (by decide) rfl rfl (qe_var (pe_var (i := 1) rfl (.inl rfl) (by decide) (by decide))) (qe_mod (qo_var (pe_var (i := 0) rfl (.inl rfl) (by decide) (by decide))) (qo_var (pe_var (i := 1) rfl (.inl rfl) (by decide) (by decide)))) rfl rfl rfl rfl))) (fun _ => rfl))
    (qss_one (qs_ret (ce_abs rfl hB.b_abs (qo_var (pe_var (i := 0) rfl (.inl rfl) (by decide) (by decide))) rfl))))

abbrev s__law_is_speed_right : Stmt := topS 47
abbrev ps__law_is_speed_right : List Str := ["pot", "lengths", "seen", "off"]
theorem sc__law_is_speed_right : FnScope ["pot", "lengths", "seen", "off", "one", "other", "far", "time", "due", "much", "share", "limit", "pairs", "first", "last"] ps__law_is_speed_right (defScope s__law_is_speed_right) := ⟨rfl, rfl, rfl, by decide +kernel, rfl, by decide +kernel, by decide +kernel⟩
noncomputable def t__law_is_speed_right_1 : M Fl := (mSetS 4 (mCall gInt1 (mcons (mval (mCallF fd__law_take (mcons (mArgI 0) (mcons (mArgF (mfz (mOp2 gSub (mval (mCall gLen (mcons (mslot 2) mnil))) (mval (pure (frv (.int 1))))))) mnil)))) mnil)))
noncomputable def t__law_is_speed_right_2 : M Fl := (mSetS 5 (mOp2 gAdd (mval (mOp2 gAdd (mslot 4) (mval (pure (frv (.int 1)))))) (mval (mCall gInt1 (mcons (mval (mCallF fd__law_take (mcons (mArgI 0) (mcons (mArgF (mfz (mOp2 gSub (mval (mOp2 gSub (mval (mCall gLen (mcons (mslot 2) mnil))) (mslot 4))) (mval (pure (frv (.int 1))))))) mnil)))) mnil)))))
noncomputable def t__law_is_speed_right_3 : M Fl := (mPar2 6 7 (mCall gSum (mcons (mval (mSl (mslot 1) (some (mslot 4)) (some (mslot 5)))) mnil)) (mOp2 gSub (mval (mOp2 gIxS (mslot 2) (mslot 5))) (mval (mOp2 gIxS (mslot 2) (mslot 4)))))
noncomputable def t__law_is_speed_right_4 : M Fl := (mSetS 8 (mLst mnil))
noncomputable def t__law_is_speed_right_5 : M Fl := (mSetS 10 (mIte (mB (mOp2 gGtA (mslot 9) (mval (pure (frv (.int 0)))))) (mCallF fd__law_gcd (mcons (mArgF (mfz (mget 6))) (mcons (mArgF (mfz (mget 9))) mnil))) (pure (frv (.int 1)))))
noncomputable def t__law_is_speed_right_6 : M Fl := (mAppend 8 (mfz (mIte (mB (mOp2 gGtA (mslot 9) (mval (pure (frv (.int 0)))))) (mTup (mcons (mfz (mOp2 gDiv (mslot 6) (mslot 10))) (mcons (mfz (mOp2 gDiv (mslot 9) (mslot 10))) mnil))) (pure (frv .none)))))
noncomputable def u__law_is_speed_right_1 : M Fl := (mSeq t__law_is_speed_right_5
  t__law_is_speed_right_6)
noncomputable def l__law_is_speed_right_1 : M Fl := mFor (mIt (mfz (mTup (mcons (mfz (mOp2 gAdd (mslot 7) (mval (mOp2 gMul (mval (pure (frv (.int 2)))) (mslot 3))))) (mcons (mfz (mOp2 gSub (mslot 7) (mval (mOp2 gMul (mval (pure (frv (.int 2)))) (mslot 3))))) mnil))))) (putS 9) u__law_is_speed_right_1
noncomputable def t__law_is_speed_right_7 : M Fl := (mIfS (mB (mOp2 (gEq true) (mval (mCallF fd_averages (mcons (mArgF (mfz (mget 1))) (mcons (mArgF (mfz (mget 2))) (mcons (mArgF (mfz (mget 3))) (mcons (mArgF (mfz (mget 4))) (mcons (mArgF (mfz (mget 5))) mnil))))))) (mval (mCall gTupleOf (mcons (mslot 8) mnil))))) (mRet (pure (frv (.bool false)))) (pure .nx))
noncomputable def t__law_is_speed_right_8 : M Fl := (mSetS 11 (mCall gInt1 (mcons (mval (mCallF fd__law_take (mcons (mArgI 0) (mcons (mArgF (mfz (pure (frv (.int 6))))) mnil)))) mnil)))
noncomputable def t__law_is_speed_right_9 : M Fl := (mSetS 12 (mLst mnil))
noncomputable def u__law_is_speed_right_2 : M Fl := (mIfS (mB (mOp2 gGtA (mval (mCall gSum (mcons (mval (mSl (mslot 1) (some (mslot 13)) (some (mslot 14)))) mnil))) (mval (mOp2 gMul (mslot 11) (mval (mOp2 gAdd (mval (mOp2 gSub (mval (mOp2 gIxS (mslot 2) (mslot 14))) (mval (mOp2 gIxS (mslot 2) (mslot 13))))) (mval (mOp2 gMul (mval (pure (frv (.int 2)))) (mslot 3))))))))) (mAppend 12 (mfz (mTup (mcons (mfz (mCall gInt1 (mcons (mslot 13) mnil))) (mcons (mfz (mCall gInt1 (mcons (mslot 14) mnil))) mnil))))) (pure .nx))
noncomputable def l__law_is_speed_right_2 : M Fl := mFor (mRg rg2 (mcons (mval (mOp2 gAdd (mslot 13) (mval (pure (frv (.int 1)))))) (mcons (mval (mCall gLen (mcons (mslot 2) mnil))) mnil))) (putS 14) u__law_is_speed_right_2
noncomputable def u__law_is_speed_right_3 : M Fl := l__law_is_speed_right_2
noncomputable def l__law_is_speed_right_3 : M Fl := mFor (mRg rg1 (mcons (mval (mCall gLen (mcons (mslot 2) mnil))) mnil)) (putS 13) u__law_is_speed_right_3
noncomputable def t__law_is_speed_right_10 : M Fl := (mRet (mOp2 (gEq false) (mval (mCallF fd_over (mcons (mArgF (mfz (mget 1))) (mcons (mArgF (mfz (mget 2))) (mcons (mArgF (mfz (mget 3))) (mcons (mArgF (mfz (mget 11))) mnil)))))) (mval (mCall gTupleOf (mcons (mslot 12) mnil)))))
noncomputable def b__law_is_speed_right : M Fl := (mSeq t__law_is_speed_right_1
  (mSeq t__law_is_speed_right_2
  (mSeq t__law_is_speed_right_3
  (mSeq t__law_is_speed_right_4
  (mSeq l__law_is_speed_right_1
  (mSeq t__law_is_speed_right_7
  (mSeq t__law_is_speed_right_8
  (mSeq t__law_is_speed_right_9
  (mSeq l__law_is_speed_right_3
  t__law_is_speed_right_10)))))))))
noncomputable def fd__law_is_speed_right : FD := ⟨[true, false, false, false], runF [true, false, false, false] 15 b__law_is_speed_right⟩
@[simp] theorem io__law_is_speed_right : fd__law_is_speed_right.io = [true, false, false, false] := by
  delta fd__law_is_speed_right
  rfl
theorem g__law_is_speed_right (ds : List PyData) : fd__law_is_speed_right.g ds = Rf.of [true, false, false, false] (b__law_is_speed_right (env0 [true, false, false, false] ds 15)) := by
  delta fd__law_is_speed_right
  exact runF_e [true, false, false, false] 15 b__law_is_speed_right ds
theorem ok__law_is_speed_right (hB : Bu mg) (hG : Gc mg) (D : Dfn K mg "_law_is_speed_right" s__law_is_speed_right ps__law_is_speed_right) (h__law_take : Cal P w K mg base 1 cl "_law_take" ps__law_take fd__law_take) (h__law_gcd : Cal P w K mg base 1 cl "_law_gcd" ps__law_gcd fd__law_gcd) (h_averages : Cal P w K mg base 6 cl "averages" ps_averages fd_averages) (h_over : Cal P w K mg base 6 cl "over" ps_over fd_over) : Cal P w K mg base 7 cl "_law_is_speed_right" ps__law_is_speed_right fd__law_is_speed_right :=
  cal_of (N := ["pot", "lengths", "seen", "off", "one", "other", "far", "time", "due", "much", "share", "limit", "pairs", "first", "last"]) (k := 6) (io := [true, false, false, false]) (fx := ioIx [true, false, false, false]) (body := b__law_is_speed_right) D sc__law_is_speed_right rfl (fun _ => mem_ioIx) fun f cdv A outer s H E hr => (qss_cons (qs_set (i := 4) sc__law_is_speed_right.nd rfl (.inl rfl) (.inl rfl) (by decide) (ce_int rfl hB.b_int (qo_val (qe_callC (h__law_take.mono (by decide)) hr rfl hxD (qar_cons (qr_io (pe_var (i := 0) rfl (.inl rfl) (by decide) (by decide))) (qar_cons (qr_fz (qf_of (qe_sub (qo_val (ce_len rfl hB.b_len (qo_var (pe_var (i := 2) rfl (.inl rfl) (by decide) (by decide))) rfl)) (qo_val qe_int)))) qar_nil rfl) rfl) (by decide) rfl rfl)) rfl) rfl rfl)
    (qss_cons (qs_set (i := 5) sc__law_is_speed_right.nd rfl (.inl rfl) (.inl rfl) (by decide) (qe_add (qo_val (qe_add (qo_var (pe_var (i := 4) rfl (.inl rfl) (by decide) (by decide))) (qo_val qe_int))) (qo_val (ce_int rfl hB.b_int (qo_val (qe_callC (h__law_take.mono (by decide)) hr rfl hxD (qar_cons (qr_io (pe_var (i := 0) rfl (.inl rfl) (by decide) (by decide))) (qar_cons (qr_fz (qf_of (qe_sub (qo_val (qe_sub (qo_val (ce_len rfl hB.b_len (qo_var (pe_var (i := 2) rfl (.inl rfl) (by decide) (by decide))) rfl)) (qo_var (pe_var (i := 4) rfl (.inl rfl) (by decide) (by decide))))) (qo_val qe_int)))) qar_nil rfl) rfl) (by decide) rfl rfl)) rfl))) rfl rfl)
    (qss_cons (qs_par2 (i := 6) (j := 7) rfl sc__law_is_speed_right.nd rfl rfl (by decide) (by decide) (by decide) rfl rfl (ce_sum rfl rfl hB.b_sum (qo_val (qe_slice (qo_var (pe_var (i := 1) rfl (.inl rfl) (by decide) (by decide))) (.some (qo_var (pe_var (i := 4) rfl (.inl rfl) (by decide) (by decide)))) (.some (qo_var (pe_var (i := 5) rfl (.inl rfl) (by decide) (by decide)))))) rfl) (qe_sub (qo_val (ce_ix (qo_var (pe_var (i := 2) rfl (.inl rfl) (by decide) (by decide))) (qo_var (pe_var (i := 5) rfl (.inl rfl) (by decide) (by decide))) (fun _ _ => rfl))) (qo_val (ce_ix (qo_var (pe_var (i := 2) rfl (.inl rfl) (by decide) (by decide))) (qo_var (pe_var (i := 4) rfl (.inl rfl) (by decide) (by decide))) (fun _ _ => rfl)))) rfl rfl rfl rfl)
    (qss_cons (qs_set (i := 8) sc__law_is_speed_right.nd rfl (.inl rfl) (.inl rfl) (by decide) (qe_lst qaf_nil) rfl rfl)
    (qss_cons (qs_for hpD rfl (qi_seq (qf_of (qe_tup (qaf_cons (qf_of (qe_add (qo_var (pe_var (i := 7) rfl (.inl rfl) (by decide) (by decide))) (qo_val (qe_mul (qo_val qe_int) (qo_var (pe_var (i := 3) rfl (.inl rfl) (by decide) (by decide))))))) (qaf_cons (qf_of (qe_sub (qo_var (pe_var (i := 7) rfl (.inl rfl) (by decide) (by decide))) (qo_val (qe_mul (qo_val qe_int) (qo_var (pe_var (i := 3) rfl (.inl rfl) (by decide) (by decide))))))) qaf_nil rfl) rfl)))) (qg_name (i := 9) sc__law_is_speed_right.nd rfl (.inl rfl) (.inl rfl) (by decide)) (fun _ => noEx_put) (qss_cons (qs_set (i := 10) sc__law_is_speed_right.nd rfl (.inl rfl) (.inl rfl) (by decide) (qe_ite (ct_cmp (cpGt hr) (qo_var (pe_var (i := 9) rfl (.inl rfl) (by decide) (by decide))) (qo_val qe_int) (nomark _)) (qe_callC (h__law_gcd.mono (by decide)) hr rfl hxD (qar_cons (qr_fz (qf_of (qe_var (pe_var (i := 6) rfl (.inl rfl) (by decide) (by decide))))) (qar_cons (qr_fz (qf_of (qe_var (pe_var (i := 9) rfl (.inl rfl) (by decide) (by decide))))) qar_nil rfl) rfl) (by decide) rfl rfl) qe_int) rfl rfl)
    (qss_one (qs_append (pe_var (i := 8) rfl (.inl rfl) (by decide) (by decide)) (qf_of (qe_ite (ct_cmp (cpGt hr) (qo_var (pe_var (i := 9) rfl (.inl rfl) (by decide) (by decide))) (qo_val qe_int) (nomark _)) (qe_tup (qaf_cons (qf_of (qe_fdiv (qo_var (pe_var (i := 6) rfl (.inl rfl) (by decide) (by decide))) (qo_var (pe_var (i := 10) rfl (.inl rfl) (by decide) (by decide))))) (qaf_cons (qf_of (qe_fdiv (qo_var (pe_var (i := 9) rfl (.inl rfl) (by decide) (by decide))) (qo_var (pe_var (i := 10) rfl (.inl rfl) (by decide) (by decide))))) qaf_nil rfl) rfl)) qe_non)) rfl rfl rfl rfl rfl rfl))) (fun _ => rfl))
    (qss_cons (qs_if (ct_cmp (cpNe hr) (qo_val (qe_callC (h_averages.mono (by decide)) hr rfl hxD (qar_cons (qr_fz (qf_of (qe_var (pe_var (i := 1) rfl (.inl rfl) (by decide) (by decide))))) (qar_cons (qr_fz (qf_of (qe_var (pe_var (i := 2) rfl (.inl rfl) (by decide) (by decide))))) (qar_cons (qr_fz (qf_of (qe_var (pe_var (i := 3) rfl (.inl rfl) (by decide) (by decide))))) (qar_cons (qr_fz (qf_of (qe_var (pe_var (i := 4) rfl (.inl rfl) (by decide) (by decide))))) (qar_cons (qr_fz (qf_of (qe_var (pe_var (i := 5) rfl (.inl rfl) (by decide) (by decide))))) qar_nil rfl) rfl) rfl) rfl) rfl) (by decide) rfl rfl)) (qo_val (ce_tuple rfl hB.b_tuple (qo_var (pe_var (i := 8) rfl (.inl rfl) (by decide) (by decide))) rfl)) (nomark _)) (qss_one (qs_ret qe_bl)) qss_nil)
    (qss_cons (qs_set (i := 11) sc__law_is_speed_right.nd rfl (.inl rfl) (.inl rfl) (by decide) (ce_int rfl hB.b_int (qo_val (qe_callC (h__law_take.mono (by decide)) hr rfl hxD (qar_cons (qr_io (pe_var (i := 0) rfl (.inl rfl) (by decide) (by decide))) (qar_cons (qr_fz (qf_of qe_int)) qar_nil rfl) rfl) (by decide) rfl rfl)) rfl) rfl rfl)
    (qss_cons (qs_set (i := 12) sc__law_is_speed_right.nd rfl (.inl rfl) (.inl rfl) (by decide) (qe_lst qaf_nil) rfl rfl)
    (qss_cons (qs_for hpD rfl (qi_range1 rfl hB.b_range (pa1 (qo_val (ce_len rfl hB.b_len (qo_var (pe_var (i := 2) rfl (.inl rfl) (by decide) (by decide))) rfl)) rfl) rfl) (qg_name (i := 13) sc__law_is_speed_right.nd rfl (.inl rfl) (.inl rfl) (by decide)) (fun _ => noEx_put) (qss_one (qs_for hpD rfl (qi_range2 rfl hB.b_range (pa2 (qo_val (qe_add (qo_var (pe_var (i := 13) rfl (.inl rfl) (by decide) (by decide))) (qo_val qe_int))) (qo_val (ce_len rfl hB.b_len (qo_var (pe_var (i := 2) rfl (.inl rfl) (by decide) (by decide))) rfl)) rfl rfl) rfl rfl) (qg_name (i := 14) sc__law_is_speed_right.nd rfl (.inl rfl) (.inl rfl) (by decide)) (fun _ => noEx_put) (qss_one (qs_if (ct_cmp (cpGt hr) (qo_val (ce_sum rfl rfl hB.b_sum (qo_val (qe_slice (qo_var (pe_var (i := 1) rfl (.inl rfl) (by decide) (by decide))) (.some (qo_var (pe_var (i := 13) rfl (.inl rfl) (by decide) (by decide)))) (.some (qo_var (pe_var (i := 14) rfl (.inl rfl) (by decide) (by decide)))))) rfl)) (qo_val (qe_mul (qo_var (pe_var (i := 11) rfl (.inl rfl) (by decide) (by decide))) (qo_val (qe_add (qo_val (qe_sub (qo_val (ce_ix (qo_var (pe_var (i := 2) rfl (.inl rfl) (by decide) (by decide))) (qo_var (pe_var (i := 14) rfl (.inl rfl) (by decide) (by decide))) (fun _ _ => rfl))) (qo_val (ce_ix (qo_var (pe_var (i := 2) rfl (.inl rfl) (by decide) (by decide))) (qo_var (pe_var (i := 13) rfl (.inl rfl) (by decide) (by decide))) (fun _ _ => rfl))))) (qo_val (qe_mul (qo_val qe_int) (qo_var (pe_var (i := 3) rfl (.inl rfl) (by decide) (by decide))))))))) (nomark _)) (qss_one (qs_append (pe_var (i := 12) rfl (.inl rfl) (by decide) (by decide)) (qf_of (qe_tup (qaf_cons (qf_of (ce_int rfl hB.b_int (qo_var (pe_var (i := 13) rfl (.inl rfl) (by decide) (by decide))) rfl)) (qaf_cons (qf_of (ce_int rfl hB.b_int (qo_var (pe_var (i := 14) rfl (.inl rfl) (by decide) (by decide))) rfl)) qaf_nil rfl) rfl))) rfl rfl rfl rfl rfl rfl)) qss_nil)) (fun _ => rfl))) (fun _ => rfl))
    (qss_one (qs_ret (ce_cmp (cpEq hr) (qo_val (qe_callC (h_over.mono (by decide)) hr rfl hxD (qar_cons (qr_fz (qf_of (qe_var (pe_var (i := 1) rfl (.inl rfl) (by decide) (by decide))))) (qar_cons (qr_fz (qf_of (qe_var (pe_var (i := 2) rfl (.inl rfl) (by decide) (by decide))))) (qar_cons (qr_fz (qf_of (qe_var (pe_var (i := 3) rfl (.inl rfl) (by decide) (by decide))))) (qar_cons (qr_fz (qf_of (qe_var (pe_var (i := 11) rfl (.inl rfl) (by decide) (by decide))))) qar_nil rfl) rfl) rfl) rfl) (by decide) rfl rfl)) (qo_val (ce_tuple rfl hB.b_tuple (qo_var (pe_var (i := 12) rfl (.inl rfl) (by decide) (by decide))) rfl)) (nomark _)))))))))))))

abbrev s__law_row : Stmt := topS 40
abbrev ps__law_row : List Str := ["pot", "least", "spread"]
theorem sc__law_row : FnScope ["pot", "least", "spread", "time", "found", "one"] ps__law_row (defScope s__law_row) := ⟨rfl, rfl, rfl, by decide +kernel, rfl, by decide +kernel, by decide +kernel⟩
noncomputable def t__law_row_1 : M Fl := (mPar2 3 4 (mCall gInt1 (mcons (mval (mCallF fd__law_take (mcons (mArgI 0) (mcons (mArgF (mfz (pure (frv (.int 1000))))) mnil)))) mnil)) (mLst mnil))
noncomputable def t__law_row_2 : M Fl := (mAppend 4 (mfz (mget 3)))
noncomputable def t__law_row_3 : M Fl := (mSetS 3 (mCall (gI2 fun i j => if j > i then j else i) (mcons (mval (pure (frv (.int 0)))) (mcons (mval (mOp2 gSub (mval (mOp2 gAdd (mval (mOp2 gAdd (mslot 3) (mslot 5))) (mval (mCall gInt1 (mcons (mval (mCallF fd__law_take (mcons (mArgI 0) (mcons (mArgF (mfz (mOp2 gAdd (mval (mOp2 gMul (mval (pure (frv (.int 2)))) (mslot 2))) (mval (pure (frv (.int 1))))))) mnil)))) mnil))))) (mslot 2))) mnil))))
noncomputable def t__law_row_4 : M Fl := (mAppend 4 (mfz (mget 3)))
noncomputable def u__law_row_1 : M Fl := (mSeq t__law_row_3
  t__law_row_4)
noncomputable def l__law_row_1 : M Fl := mFor (mIt (mfz (mget 1))) (putS 5) u__law_row_1
noncomputable def t__law_row_5 : M Fl := (mRet (mCall gTupleOf (mcons (mslot 4) mnil)))
noncomputable def b__law_row : M Fl := (mSeq t__law_row_1
  (mSeq t__law_row_2
  (mSeq l__law_row_1
  t__law_row_5)))
noncomputable def fd__law_row : FD := ⟨[true, false, false], runF [true, false, false] 6 b__law_row⟩
@[simp] theorem io__law_row : fd__law_row.io = [true, false, false] := by
  delta fd__law_row
  rfl
theorem g__law_row (ds : List PyData) : fd__law_row.g ds = Rf.of [true, false, false] (b__law_row (env0 [true, false, false] ds 6)) := by
  delta fd__law_row
  exact runF_e [true, false, false] 6 b__law_row ds
theorem ok__law_row (hB : Bu mg) (hG : Gc mg) (D : Dfn K mg "_law_row" s__law_row ps__law_row) (h__law_take : Cal P w K mg base 1 cl "_law_take" ps__law_take fd__law_take) : Cal P w K mg base 2 cl "_law_row" ps__law_row fd__law_row :=
  cal_of (N := ["pot", "least", "spread", "time", "found", "one"]) (k := 1) (io := [true, false, false]) (fx := ioIx [true, false, false]) (body := b__law_row) D sc__law_row rfl (fun _ => mem_ioIx) fun f cdv A outer s H E hr => (qss_cons (qs_par2 (i := 3) (j := 4) rfl sc__law_row.nd rfl rfl (by decide) (by decide) (by decide) rfl rfl (ce_int rfl hB.b_int (qo_val (qe_callC (h__law_take.mono (by decide)) hr rfl hxD (qar_cons (qr_io (pe_var (i := 0) rfl (.inl rfl) (by decide) (by decide))) (qar_cons (qr_fz (qf_of qe_int)) qar_nil rfl) rfl) (by decide) rfl rfl)) rfl) (qe_lst qaf_nil) rfl rfl rfl rfl)
    (qss_cons (qs_append (pe_var (i := 4) rfl (.inl rfl) (by decide) (by decide)) (qf_of (qe_var (pe_var (i := 3) rfl (.inl rfl) (by decide) (by decide)))) rfl rfl rfl rfl rfl rfl)
    (qss_cons (qs_for hpD rfl (qi_seq (qf_of (qe_var (pe_var (i := 1) rfl (.inl rfl) (by decide) (by decide))))) (qg_name (i := 5) sc__law_row.nd rfl (.inl rfl) (.inl rfl) (by decide)) (fun _ => noEx_put) (qss_cons (qs_set (i := 3) sc__law_row.nd rfl (.inl rfl) (.inl rfl) (by decide) (ce_max2 rfl rfl hB.b_max (qo_val qe_int) (qo_val (qe_sub (qo_val (qe_add (qo_val (qe_add (qo_var (pe_var (i := 3) rfl (.inl rfl) (by decide) (by decide))) (qo_var (pe_var (i := 5) rfl (.inl rfl) (by decide) (by decide))))) (qo_val (ce_int rfl hB.b_int (qo_val (qe_callC (h__law_take.mono (by decide)) hr rfl hxD (qar_cons (qr_io (pe_var (i := 0) rfl (.inl rfl) (by decide) (by decide))) (qar_cons (qr_fz (qf_of (qe_add (qo_val (qe_mul (qo_val qe_int) (qo_var (pe_var (i := 2) rfl (.inl rfl) (by decide) (by decide))))) (qo_val qe_int)))) qar_nil rfl) rfl) (by decide) rfl rfl)) rfl)))) (qo_var (pe_var (i := 2) rfl (.inl rfl) (by decide) (by decide))))) rfl rfl rfl) rfl rfl)
    (qss_one (qs_append (pe_var (i := 4) rfl (.inl rfl) (by decide) (by decide)) (qf_of (qe_var (pe_var (i := 3) rfl (.inl rfl) (by decide) (by decide)))) rfl rfl rfl rfl rfl rfl))) (fun _ => rfl))
    (qss_one (qs_ret (ce_tuple rfl hB.b_tuple (qo_var (pe_var (i := 4) rfl (.inl rfl) (by decide) (by decide))) rfl))))))

abbrev s__law_rooms : Stmt := topS 42
abbrev ps__law_rooms : List Str := ["least", "rows"]
theorem sc__law_rooms : FnScope ["least", "rows", "at", "one", "row"] ps__law_rooms (defScope s__law_rooms) := ⟨rfl, rfl, rfl, by decide +kernel, rfl, by decide +kernel, by decide +kernel⟩
noncomputable def c__law_rooms_1 : M SV := mLc (mIt (mfz (mget 1))) [4] (putS 4) (pure true) (mfz (mOp2 gSub (mval (mOp2 gIxS (mslot 4) (mval (mOp2 gAdd (mslot 2) (mval (pure (frv (.int 1)))))))) (mval (mOp2 gIxS (mslot 4) (mslot 2)))))
noncomputable def c__law_rooms_2 : M SV := mLc (mEn (mIt (mfz (mget 0)))) [2, 3] (tgTup 2 (tgCons (putS 2) (tgCons (putS 3) tgNil))) (pure true) (mfz (mOp2 gSub (mval (mCall (gBest PySem.W.minD) (mcons (mval c__law_rooms_1) mnil))) (mslot 3)))
noncomputable def b__law_rooms : M Fl := (mRet c__law_rooms_2)
noncomputable def fd__law_rooms : FD := ⟨[false, false], runF [false, false] 5 b__law_rooms⟩
@[simp] theorem io__law_rooms : fd__law_rooms.io = [false, false] := by
  delta fd__law_rooms
  rfl
theorem g__law_rooms (ds : List PyData) : fd__law_rooms.g ds = Rf.of [false, false] (b__law_rooms (env0 [false, false] ds 5)) := by
  delta fd__law_rooms
  exact runF_e [false, false] 5 b__law_rooms ds
theorem ok__law_rooms (hB : Bu mg) (hG : Gc mg) (D : Dfn K mg "_law_rooms" s__law_rooms ps__law_rooms) : Cal P w K mg base 1 cl "_law_rooms" ps__law_rooms fd__law_rooms :=
  cal_of (N := ["least", "rows", "at", "one", "row"]) (k := 0) (io := [false, false]) (fx := ioIx [false, false]) (body := b__law_rooms) D sc__law_rooms rfl (fun _ => mem_ioIx) fun f cdv A outer s H E hr => (qss_one (qs_ret (qe_lc (own := [("at", 2), ("one", 3)]) rfl sc__law_rooms.nd (qi_enum rfl hB.b_enumerate (qsr_seq (qf_of (qe_var (pe_var (i := 0) rfl (.inl rfl) (by decide) (by decide))))) rfl) (blkOk_by (by kernel_rfl)) (fun _ _ _ _ _ => (qg_tup rfl (qgs_cons (qg_name (i := 2) sc__law_rooms.nd rfl (.inr rfl) (.inl rfl) (nbut (by decide))) (qgs_cons (qg_name (i := 3) sc__law_rooms.nd rfl (.inl rfl) (.inr rfl) (nbut (by decide))) qgs_nil rfl) rfl) rfl rfl)) (fun _ _ _ _ _ => qts_nil) (fun _ _ _ _ _ => (qf_of (qe_sub (qo_val (ce_min1 rfl hr rfl hB.b_min (qo_val (qe_lc (own := [("row", 4)]) rfl sc__law_rooms.nd (qi_seq (qf_of (qe_var (pe_var (i := 1) rfl (.inr (.inl  rfl)) (by decide) (by decide))))) (blkOk_by (by kernel_rfl)) (fun _ _ _ _ _ => (qg_name (i := 4) sc__law_rooms.nd rfl (.inl rfl) (.inr rfl) (nbut (by decide)))) (fun _ _ _ _ _ => qts_nil) (fun _ _ _ _ _ => (qf_of (qe_sub (qo_val (ce_ix (qo_var (pe_var (i := 4) rfl (.inl rfl) (by decide) (by decide))) (qo_val (qe_add (qo_var (pe_var (i := 2) rfl (.inr (.inl  rfl)) (by decide) (by decide))) (qo_val qe_int))) (fun _ _ => rfl))) (qo_val (ce_ix (qo_var (pe_var (i := 4) rfl (.inl rfl) (by decide) (by decide))) (qo_var (pe_var (i := 2) rfl (.inr (.inl  rfl)) (by decide) (by decide))) (fun _ _ => rfl)))))) (fun _ => rfl))) rfl)) (qo_var (pe_var (i := 3) rfl (.inl rfl) (by decide) (by decide)))))) (fun _ => rfl))))

abbrev s__law_half : Stmt := topS 43
abbrev ps__law_half : List Str := ["number"]
theorem sc__law_half : FnScope ["number"] ps__law_half (defScope s__law_half) := ⟨rfl, rfl, rfl, by decide +kernel, rfl, by decide +kernel, by decide +kernel⟩
noncomputable def b__law_half : M Fl := (mRet (mOp1 gNeg (mval (mOp2 gDiv (mval (mOp1 gNeg (mslot 0))) (mval (pure (frv (.int 2))))))))
noncomputable def fd__law_half : FD := ⟨[false], runF [false] 1 b__law_half⟩
@[simp] theorem io__law_half : fd__law_half.io = [false] := by
  delta fd__law_half
  rfl
theorem g__law_half (ds : List PyData) : fd__law_half.g ds = Rf.of [false] (b__law_half (env0 [false] ds 1)) := by
  delta fd__law_half
  exact runF_e [false] 1 b__law_half ds
theorem ok__law_half (hB : Bu mg) (hG : Gc mg) (D : Dfn K mg "_law_half" s__law_half ps__law_half) : Cal P w K mg base 1 cl "_law_half" ps__law_half fd__law_half :=
  cal_of (N := ["number"]) (k := 0) (io := [false]) (fx := ioIx [false]) (body := b__law_half) D sc__law_half rfl (fun _ => mem_ioIx) fun f cdv A outer s H E hr => (qss_one (qs_ret (qe_neg (qo_val (qe_fdiv (qo_val (qe_neg (qo_var (pe_var (i := 0) rfl (.inl rfl) (by decide) (by decide))))) (qo_val qe_int))))))

abbrev s_least_off : Stmt := topS 25
abbrev ps_least_off : List Str := ["least", "seen"]
theorem sc_least_off : FnScope ["least", "seen", "some", "other", "one"] ps_least_off (defScope s_least_off) := ⟨rfl, rfl, rfl, by decide +kernel, rfl, by decide +kernel, by decide +kernel⟩
noncomputable def t_least_off_1 : M Fl := (mDrop (mCallF fd_check_seen (mcons (mArgF (mfz (mget 0))) (mcons (mArgF (mfz (mget 1))) (mcons (mArgF (mfz (pure (frv (.int 0))))) mnil)))))
noncomputable def t_least_off_2 : M Fl := (mSetS 2 (mLst (mcons (mfz (pure (frv (.int 0)))) mnil)))
noncomputable def c_least_off_1 : M SV := mLc (mRg rg1 (mcons (mslot 3) mnil)) [4] (putS 4) (pure true) (mfz (mOp2 gSub (mval (mCallF fd_needed (mcons (mArgF (mfz (mget 0))) (mcons (mArgF (mfz (mget 4))) (mcons (mArgF (mfz (mget 3))) mnil))))) (mval (mOp2 gSub (mval (mOp2 gIxS (mslot 1) (mslot 3))) (mval (mOp2 gIxS (mslot 1) (mslot 4)))))))
noncomputable def u_least_off_1 : M Fl := (mExtend 2 c_least_off_1)
noncomputable def l_least_off_1 : M Fl := mFor (mRg rg1 (mcons (mval (mCall gLen (mcons (mslot 1) mnil))) mnil)) (putS 3) u_least_off_1
noncomputable def t_least_off_3 : M Fl := (mRet (mOp2 gDiv (mval (mOp2 gAdd (mval (mCall (gBest PySem.W.maxD) (mcons (mslot 2) mnil))) (mval (pure (frv (.int 1)))))) (mval (pure (frv (.int 2))))))
noncomputable def b_least_off : M Fl := (mSeq t_least_off_1
  (mSeq t_least_off_2
  (mSeq l_least_off_1
  t_least_off_3)))
noncomputable def fd_least_off : FD := ⟨[false, false], runF [false, false] 5 b_least_off⟩
@[simp] theorem io_least_off : fd_least_off.io = [false, false] := by
  delta fd_least_off
  rfl
theorem g_least_off (ds : List PyData) : fd_least_off.g ds = Rf.of [false, false] (b_least_off (env0 [false, false] ds 5)) := by
  delta fd_least_off
  exact runF_e [false, false] 5 b_least_off ds
theorem ok_least_off (hB : Bu mg) (hG : Gc mg) (D : Dfn K mg "least_off" s_least_off ps_least_off) (h_check_seen : Cal P w K mg base 5 cl "check_seen" ps_check_seen fd_check_seen) (h_needed : Cal P w K mg base 1 cl "needed" ps_needed fd_needed) : Cal P w K mg base 6 cl "least_off" ps_least_off fd_least_off :=
  cal_of (N := ["least", "seen", "some", "other", "one"]) (k := 5) (io := [false, false]) (fx := ioIx [false, false]) (body := b_least_off) D sc_least_off rfl (fun _ => mem_ioIx) fun f cdv A outer s H E hr => (qss_cons (qs_drop (qe_callC (h_check_seen.mono (by decide)) hr rfl hxD (qar_cons (qr_fz (qf_of (qe_var (pe_var (i := 0) rfl (.inr (.inl rfl)) (by decide) (by decide))))) (qar_cons (qr_fz (qf_of (qe_var (pe_var (i := 1) rfl (.inr (.inl rfl)) (by decide) (by decide))))) (qar_cons (qr_fz (qf_of qe_int)) qar_nil rfl) rfl) rfl) (by decide) rfl rfl) rfl)
    (qss_cons (qs_set (i := 2) sc_least_off.nd rfl (.inl rfl) (.inl rfl) (by decide) (qe_lst (qaf_cons (qf_of qe_int) qaf_nil rfl)) rfl rfl)
    (qss_cons (qs_for hpD rfl (qi_range1 rfl hB.b_range (pa1 (qo_val (ce_len rfl hB.b_len (qo_var (pe_var (i := 1) rfl (.inr (.inl rfl)) (by decide) (by decide))) rfl)) rfl) rfl) (qg_name (i := 3) sc_least_off.nd rfl (.inr rfl) (.inl rfl) (by decide)) (fun _ => noEx_put) (qss_one (qs_extend (pe_var (i := 2) rfl (.inl rfl) (by decide) (by decide)) (qe_lc (own := [("one", 4)]) rfl sc_least_off.nd (qi_range1 rfl hB.b_range (pa1 (qo_var (pe_var (i := 3) rfl (.inr (.inl rfl)) (by decide) (by decide))) rfl) rfl) (blkOk_by (by kernel_rfl)) (fun _ _ _ _ _ => (qg_name (i := 4) sc_least_off.nd rfl (.inl rfl) (.inr rfl) (nbut (by decide)))) (fun _ _ _ _ _ => qts_nil) (fun _ _ _ _ _ => (qf_of (qe_sub (qo_val (qe_callC0 (h_needed.mono (by decide)) hr rfl (qar_cons (qr_fz (qf_of (qe_var (pe_var (i := 0) rfl (.inr (.inl  rfl)) (by decide) (by decide))))) (qar_cons (qr_fz (qf_of (qe_var (pe_var (i := 4) rfl (.inl rfl) (by decide) (by decide))))) (qar_cons (qr_fz (qf_of (qe_var (pe_var (i := 3) rfl (.inr (.inl  rfl)) (by decide) (by decide))))) qar_nil rfl) rfl) rfl) (by decide) rfl rfl)) (qo_val (qe_sub (qo_val (ce_ix (qo_var (pe_var (i := 1) rfl (.inr (.inl  rfl)) (by decide) (by decide))) (qo_var (pe_var (i := 3) rfl (.inr (.inl  rfl)) (by decide) (by decide))) (fun _ _ => rfl))) (qo_val (ce_ix (qo_var (pe_var (i := 1) rfl (.inr (.inl  rfl)) (by decide) (by decide))) (qo_var (pe_var (i := 4) rfl (.inl rfl) (by decide) (by decide))) (fun _ _ => rfl)))))))) (fun _ => rfl)) rfl rfl rfl rfl rfl rfl)) (fun _ => rfl))
    (qss_one (qs_ret (qe_fdiv (qo_val (qe_add (qo_val (ce_max1 rfl hr rfl hB.b_max (qo_var (pe_var (i := 2) rfl (.inl rfl) (by decide) (by decide))) rfl)) (qo_val qe_int))) (qo_val (qe_gintE rfl hG.c_PAIR (by decide)))))))))

abbrev s_check_rows : Stmt := topS 26
abbrev ps_check_rows : List Str := ["least", "rows", "off"]
theorem sc_check_rows : FnScope ["least", "rows", "off", "long", "row"] ps_check_rows (defScope s_check_rows) := ⟨rfl, rfl, rfl, by decide +kernel, rfl, by decide +kernel, by decide +kernel⟩
noncomputable def t_check_rows_1 : M Fl := (mDrop (mCallF fd_check_least (mcons (mArgF (mfz (mget 0))) mnil)))
noncomputable def t_check_rows_2 : M Fl := (mSetS 3 (mOp2 gAdd (mval (mCall gLen (mcons (mslot 0) mnil))) (mval (pure (frv (.int 1))))))
noncomputable def c_check_rows_1 : M SV := mLc (mIt (mfz (mget 1))) [4] (putS 4) (pure true) (mfz (mCallF fd_is_row (mcons (mArgF (mfz (mget 4))) (mcons (mArgF (mfz (mget 3))) (mcons (mArgF (mfz (pure (frv (.int 1000000))))) mnil)))))
noncomputable def t_check_rows_3 : M Fl := (mIfS (mOr (mNot (mB (mCallF fd_is_tuple (mcons (mArgF (mfz (mget 1))) (mcons (mArgF (mfz (pure (frv (.int 1))))) (mcons (mArgF (mfz (pure (frv (.int 20))))) mnil)))))) (mNot (mB (mCall (gAllAny (·.all id)) (mcons (mval c_check_rows_1) mnil))))) (M.bad : M Fl) (pure .nx))
noncomputable def t_check_rows_4 : M Fl := (mIfS (mNot (mB (mCallF fd_is_integer (mcons (mArgF (mfz (mget 2))) (mcons (mArgF (mfz (pure (frv (.int 0))))) (mcons (mArgF (mfz (pure (frv (.int 1000))))) mnil)))))) (M.bad : M Fl) (pure .nx))
noncomputable def b_check_rows : M Fl := (mSeq t_check_rows_1
  (mSeq t_check_rows_2
  (mSeq t_check_rows_3
  t_check_rows_4)))
noncomputable def fd_check_rows : FD := ⟨[false, false, false], runF [false, false, false] 5 b_check_rows⟩
@[simp] theorem io_check_rows : fd_check_rows.io = [false, false, false] := by
  delta fd_check_rows
  rfl
theorem g_check_rows (ds : List PyData) : fd_check_rows.g ds = Rf.of [false, false, false] (b_check_rows (env0 [false, false, false] ds 5)) := by
  delta fd_check_rows
  exact runF_e [false, false, false] 5 b_check_rows ds
theorem ok_check_rows (hB : Bu mg) (hG : Gc mg) (D : Dfn K mg "check_rows" s_check_rows ps_check_rows) (h_check_least : Cal P w K mg base 4 cl "check_least" ps_check_least fd_check_least) (h_is_tuple : Cal P w K mg base 1 cl "is_tuple" ps_is_tuple fd_is_tuple) (h_is_row : Cal P w K mg base 3 cl "is_row" ps_is_row fd_is_row) (h_is_integer : Cal P w K mg base 2 cl "is_integer" ps_is_integer fd_is_integer) : Cal P w K mg base 5 cl "check_rows" ps_check_rows fd_check_rows :=
  cal_of (N := ["least", "rows", "off", "long", "row"]) (k := 4) (io := [false, false, false]) (fx := ioIx [false, false, false]) (body := b_check_rows) D sc_check_rows rfl (fun _ => mem_ioIx) fun f cdv A outer s H E hr => (qss_cons (qs_drop (qe_callC (h_check_least.mono (by decide)) hr rfl hxD (qar_cons (qr_fz (qf_of (qe_var (pe_var (i := 0) rfl (.inl rfl) (by decide) (by decide))))) qar_nil rfl) (by decide) rfl rfl) rfl)
    (qss_cons (qs_set (i := 3) sc_check_rows.nd rfl (.inr rfl) (.inl rfl) (by decide) (qe_add (qo_val (ce_len rfl hB.b_len (qo_var (pe_var (i := 0) rfl (.inl rfl) (by decide) (by decide))) rfl)) (qo_val qe_int)) rfl rfl)
    (qss_cons (qs_if (PW.pt (qw_or (qt_not (qt_val (qe_callC (h_is_tuple.mono (by decide)) hr rfl hxD (qar_cons (qr_fz (qf_of (qe_var (pe_var (i := 1) rfl (.inl rfl) (by decide) (by decide))))) (qar_cons (qr_fz (qf_of qe_int)) (qar_cons (qr_fz (qf_of (qe_gintE rfl hG.c_MOST_TIMED (by decide)))) qar_nil rfl) rfl) rfl) (by decide) rfl rfl) fun _ => rfl)) (qw_or1 (qt_not (qt_val (ce_all rfl rfl hB.b_all (qo_val (qe_lc (own := [("row", 4)]) rfl sc_check_rows.nd (qi_seq (qf_of (qe_var (pe_var (i := 1) rfl (.inl rfl) (by decide) (by decide))))) (blkOk_by (by kernel_rfl)) (fun _ _ _ _ _ => (qg_name (i := 4) sc_check_rows.nd rfl (.inl rfl) (.inr rfl) (nbut (by decide)))) (fun _ _ _ _ _ => qts_nil) (fun _ _ _ _ _ => (qf_of (qe_callC0 (h_is_row.mono (by decide)) hr rfl (qar_cons (qr_fz (qf_of (qe_var (pe_var (i := 4) rfl (.inl rfl) (by decide) (by decide))))) (qar_cons (qr_fz (qf_of (qe_var (pe_var (i := 3) rfl (.inr (.inl  rfl)) (by decide) (by decide))))) (qar_cons (qr_fz (qf_of (qe_gintE rfl hG.c_MOST_TIME (by decide)))) qar_nil rfl) rfl) rfl) (by decide) rfl rfl))) (fun _ => rfl))) rfl) fun _ => rfl))))) (qss_one qs_never) qss_nil)
    (qss_one (qs_if (qt_not (qt_val (qe_callC (h_is_integer.mono (by decide)) hr rfl hxD (qar_cons (qr_fz (qf_of (qe_var (pe_var (i := 2) rfl (.inl rfl) (by decide) (by decide))))) (qar_cons (qr_fz (qf_of qe_int)) (qar_cons (qr_fz (qf_of (qe_gintE rfl hG.c_MOST_OFF (by decide)))) qar_nil rfl) rfl) rfl) (by decide) rfl rfl) fun _ => rfl)) (qss_one qs_never) qss_nil)))))

abbrev s_slack_of : Stmt := topS 27
abbrev ps_slack_of : List Str := ["least", "rows"]
theorem sc_slack_of : FnScope ["least", "rows", "found", "at", "some", "car", "row"] ps_slack_of (defScope s_slack_of) := ⟨rfl, rfl, rfl, by decide +kernel, rfl, by decide +kernel, by decide +kernel⟩
noncomputable def t_slack_of_1 : M Fl := (mSetS 2 (mLst mnil))
noncomputable def c_slack_of_1 : M SV := mLc (mEn (mIt (mfz (mget 1)))) [5, 6] (tgTup 2 (tgCons (putS 5) (tgCons (putS 6) tgNil))) (pure true) (mfz (mTup (mcons (mfz (mOp2 gSub (mval (mOp2 gSub (mval (mOp2 gIxS (mslot 6) (mval (mOp2 gAdd (mslot 3) (mval (pure (frv (.int 1)))))))) (mval (mOp2 gIxS (mslot 6) (mslot 3))))) (mslot 4))) (mcons (mfz (mget 5)) mnil))))
noncomputable def u_slack_of_1 : M Fl := (mAppend 2 (mfz (mCall (gBest PySem.W.minD) (mcons (mval c_slack_of_1) mnil))))
noncomputable def l_slack_of_1 : M Fl := mFor (mEn (mIt (mfz (mget 0)))) (tgTup 2 (tgCons (putS 3) (tgCons (putS 4) tgNil))) u_slack_of_1
noncomputable def t_slack_of_2 : M Fl := (mRetV 2)
noncomputable def b_slack_of : M Fl := (mSeq t_slack_of_1
  (mSeq l_slack_of_1
  t_slack_of_2))
noncomputable def fd_slack_of : FD := ⟨[false, false], runF [false, false] 7 b_slack_of⟩
@[simp] theorem io_slack_of : fd_slack_of.io = [false, false] := by
  delta fd_slack_of
  rfl
theorem g_slack_of (ds : List PyData) : fd_slack_of.g ds = Rf.of [false, false] (b_slack_of (env0 [false, false] ds 7)) := by
  delta fd_slack_of
  exact runF_e [false, false] 7 b_slack_of ds
theorem ok_slack_of (hB : Bu mg) (hG : Gc mg) (D : Dfn K mg "slack_of" s_slack_of ps_slack_of) : Cal P w K mg base 1 cl "slack_of" ps_slack_of fd_slack_of :=
  cal_of (N := ["least", "rows", "found", "at", "some", "car", "row"]) (k := 0) (io := [false, false]) (fx := ioIx [false, false]) (body := b_slack_of) D sc_slack_of rfl (fun _ => mem_ioIx) fun f cdv A outer s H E hr => (qss_cons (qs_set (i := 2) sc_slack_of.nd rfl (.inl rfl) (.inl rfl) (by decide) (qe_lst qaf_nil) rfl rfl)
    (qss_cons (qs_for hpD rfl (qi_enum rfl hB.b_enumerate (qsr_seq (qf_of (qe_var (pe_var (i := 0) rfl (.inl rfl) (by decide) (by decide))))) rfl) (qg_tup rfl (qgs_cons (qg_name (i := 3) sc_slack_of.nd rfl (.inr rfl) (.inl rfl) (by decide)) (qgs_cons (qg_name (i := 4) sc_slack_of.nd rfl (.inr rfl) (.inl rfl) (by decide)) qgs_nil rfl) rfl) rfl rfl) (fun _ => noEx_tup (fun _ => noEx_cons (fun _ => noEx_put) (fun _ => noEx_cons (fun _ => noEx_put) (fun _ => noEx_nil)))) (qss_one (qs_append (pe_var (i := 2) rfl (.inl rfl) (by decide) (by decide)) (qf_of (ce_min1 rfl hr rfl hB.b_min (qo_val (qe_lc (own := [("car", 5), ("row", 6)]) rfl sc_slack_of.nd (qi_enum rfl hB.b_enumerate (qsr_seq (qf_of (qe_var (pe_var (i := 1) rfl (.inl rfl) (by decide) (by decide))))) rfl) (blkOk_by (by kernel_rfl)) (fun _ _ _ _ _ => (qg_tup rfl (qgs_cons (qg_name (i := 5) sc_slack_of.nd rfl (.inl rfl) (.inr rfl) (nbut (by decide))) (qgs_cons (qg_name (i := 6) sc_slack_of.nd rfl (.inl rfl) (.inr rfl) (nbut (by decide))) qgs_nil rfl) rfl) rfl rfl)) (fun _ _ _ _ _ => qts_nil) (fun _ _ _ _ _ => (qf_of (qe_tup (qaf_cons (qf_of (qe_sub (qo_val (qe_sub (qo_val (ce_ix (qo_var (pe_var (i := 6) rfl (.inl rfl) (by decide) (by decide))) (qo_val (qe_add (qo_var (pe_var (i := 3) rfl (.inr (.inl  rfl)) (by decide) (by decide))) (qo_val qe_int))) (fun _ _ => rfl))) (qo_val (ce_ix (qo_var (pe_var (i := 6) rfl (.inl rfl) (by decide) (by decide))) (qo_var (pe_var (i := 3) rfl (.inr (.inl  rfl)) (by decide) (by decide))) (fun _ _ => rfl))))) (qo_var (pe_var (i := 4) rfl (.inr (.inl  rfl)) (by decide) (by decide))))) (qaf_cons (qf_of (qe_var (pe_var (i := 5) rfl (.inl rfl) (by decide) (by decide)))) qaf_nil rfl) rfl)))) (fun _ => rfl))) rfl)) rfl rfl rfl rfl rfl rfl)) (fun _ => rfl))
    (qss_one (qs_retV (pe_var (i := 2) rfl (.inl rfl) (by decide) (by decide))))))

abbrev s_least_clocks : Stmt := topS 30
abbrev ps_least_clocks : List Str := ["least", "rows"]
theorem sc_least_clocks : FnScope ["least", "rows", "slack", "some", "other", "one", "row"] ps_least_clocks (defScope s_least_clocks) := ⟨rfl, rfl, rfl, by decide +kernel, rfl, by decide +kernel, by decide +kernel⟩
noncomputable def t_least_clocks_1 : M Fl := (mDrop (mCallF fd_check_rows (mcons (mArgF (mfz (mget 0))) (mcons (mArgF (mfz (mget 1))) (mcons (mArgF (mfz (pure (frv (.int 0))))) mnil)))))
noncomputable def t_least_clocks_2 : M Fl := (mPar2 2 3 (mCallF fd_slack_of (mcons (mArgF (mfz (mget 0))) (mcons (mArgF (mfz (mget 1))) mnil))) (mLst (mcons (mfz (pure (frv (.int 0)))) mnil)))
noncomputable def c_least_clocks_1 : M SV := mLc (mIt (mfz (mSl (mslot 2) (some (mslot 5)) (some (mslot 4))))) [6] (putS 6) (pure true) (mfz (mOp2 gIxS (mslot 6) (mval (pure (frv (.int 0))))))
noncomputable def c_least_clocks_2 : M SV := mLc (mRg rg1 (mcons (mslot 4) mnil)) [5] (putS 5) (pure true) (mfz (mOp1 gNeg (mval (mCall gSum (mcons (mval c_least_clocks_1) mnil)))))
noncomputable def u_least_clocks_1 : M Fl := (mExtend 3 c_least_clocks_2)
noncomputable def l_least_clocks_1 : M Fl := mFor (mRg rg1 (mcons (mval (mOp2 gAdd (mval (mCall gLen (mcons (mslot 0) mnil))) (mval (pure (frv (.int 1)))))) mnil)) (putS 4) u_least_clocks_1
noncomputable def t_least_clocks_3 : M Fl := (mRet (mOp2 gDiv (mval (mOp2 gAdd (mval (mCall (gBest PySem.W.maxD) (mcons (mslot 3) mnil))) (mval (pure (frv (.int 1)))))) (mval (pure (frv (.int 2))))))
noncomputable def b_least_clocks : M Fl := (mSeq t_least_clocks_1
  (mSeq t_least_clocks_2
  (mSeq l_least_clocks_1
  t_least_clocks_3)))
noncomputable def fd_least_clocks : FD := ⟨[false, false], runF [false, false] 7 b_least_clocks⟩
@[simp] theorem io_least_clocks : fd_least_clocks.io = [false, false] := by
  delta fd_least_clocks
  rfl
theorem g_least_clocks (ds : List PyData) : fd_least_clocks.g ds = Rf.of [false, false] (b_least_clocks (env0 [false, false] ds 7)) := by
  delta fd_least_clocks
  exact runF_e [false, false] 7 b_least_clocks ds
theorem ok_least_clocks (hB : Bu mg) (hG : Gc mg) (D : Dfn K mg "least_clocks" s_least_clocks ps_least_clocks) (h_check_rows : Cal P w K mg base 5 cl "check_rows" ps_check_rows fd_check_rows) (h_slack_of : Cal P w K mg base 1 cl "slack_of" ps_slack_of fd_slack_of) : Cal P w K mg base 6 cl "least_clocks" ps_least_clocks fd_least_clocks :=
  cal_of (N := ["least", "rows", "slack", "some", "other", "one", "row"]) (k := 5) (io := [false, false]) (fx := ioIx [false, false]) (body := b_least_clocks) D sc_least_clocks rfl (fun _ => mem_ioIx) fun f cdv A outer s H E hr => (qss_cons (qs_drop (qe_callC (h_check_rows.mono (by decide)) hr rfl hxD (qar_cons (qr_fz (qf_of (qe_var (pe_var (i := 0) rfl (.inl rfl) (by decide) (by decide))))) (qar_cons (qr_fz (qf_of (qe_var (pe_var (i := 1) rfl (.inl rfl) (by decide) (by decide))))) (qar_cons (qr_fz (qf_of qe_int)) qar_nil rfl) rfl) rfl) (by decide) rfl rfl) rfl)
    (qss_cons (qs_parC (i := 2) (j := 3) rfl sc_least_clocks.nd rfl rfl (by decide) (by decide) (by decide) (.inr rfl) (.inl rfl) (.inl rfl) (.inl rfl) (qe_callC (h_slack_of.mono (by decide)) hr rfl hxD (qar_cons (qr_fz (qf_of (qe_var (pe_var (i := 0) rfl (.inl rfl) (by decide) (by decide))))) (qar_cons (qr_fz (qf_of (qe_var (pe_var (i := 1) rfl (.inl rfl) (by decide) (by decide))))) qar_nil rfl) rfl) (by decide) rfl rfl) (qe_lst (qaf_cons (qf_of qe_int) qaf_nil rfl)) rfl rfl rfl rfl rfl rfl rfl rfl rfl)
    (qss_cons (qs_for hpD rfl (qi_range1 rfl hB.b_range (pa1 (qo_val (qe_add (qo_val (ce_len rfl hB.b_len (qo_var (pe_var (i := 0) rfl (.inl rfl) (by decide) (by decide))) rfl)) (qo_val qe_int))) rfl) rfl) (qg_name (i := 4) sc_least_clocks.nd rfl (.inr rfl) (.inl rfl) (by decide)) (fun _ => noEx_put) (qss_one (qs_extend (pe_var (i := 3) rfl (.inl rfl) (by decide) (by decide)) (qe_lc (own := [("one", 5)]) rfl sc_least_clocks.nd (qi_range1 rfl hB.b_range (pa1 (qo_var (pe_var (i := 4) rfl (.inr (.inl rfl)) (by decide) (by decide))) rfl) rfl) (blkOk_by (by kernel_rfl)) (fun _ _ _ _ _ => (qg_name (i := 5) sc_least_clocks.nd rfl (.inl rfl) (.inr rfl) (nbut (by decide)))) (fun _ _ _ _ _ => qts_nil) (fun _ _ _ _ _ => (qf_of (qe_neg (qo_val (ce_sum rfl rfl hB.b_sum (qo_val (qe_lc (own := [("row", 6)]) rfl sc_least_clocks.nd (qi_seq (qf_of (qe_slice (qo_var (pe_var (i := 2) rfl (.inr (.inl  rfl)) (by decide) (by decide))) (.some (qo_var (pe_var (i := 5) rfl (.inl rfl) (by decide) (by decide)))) (.some (qo_var (pe_var (i := 4) rfl (.inr (.inl  rfl)) (by decide) (by decide))))))) (blkOk_by (by kernel_rfl)) (fun _ _ _ _ _ => (qg_name (i := 6) sc_least_clocks.nd rfl (.inl rfl) (.inr rfl) (nbut (by decide)))) (fun _ _ _ _ _ => qts_nil) (fun _ _ _ _ _ => (qf_of (ce_ix (qo_var (pe_var (i := 6) rfl (.inl rfl) (by decide) (by decide))) (qo_val qe_int) (fun _ _ => rfl)))) (fun _ => rfl))) rfl))))) (fun _ => rfl)) rfl rfl rfl rfl rfl rfl)) (fun _ => rfl))
    (qss_one (qs_ret (qe_fdiv (qo_val (qe_add (qo_val (ce_max1 rfl hr rfl hB.b_max (qo_var (pe_var (i := 3) rfl (.inl rfl) (by decide) (by decide))) rfl)) (qo_val qe_int))) (qo_val (qe_gintE rfl hG.c_PAIR (by decide)))))))))

abbrev s__law_lack : Stmt := topS 41
abbrev ps__law_lack : List Str := ["rooms"]
theorem sc__law_lack : FnScope ["rooms", "most", "here", "room"] ps__law_lack (defScope s__law_lack) := ⟨rfl, rfl, rfl, by decide +kernel, rfl, by decide +kernel, by decide +kernel⟩
noncomputable def t__law_lack_1 : M Fl := (mPar2 1 2 (pure (frv (.int 0))) (pure (frv (.int 0))))
noncomputable def t__law_lack_2 : M Fl := (mSetS 2 (mCall (gI2 fun i j => if j > i then j else i) (mcons (mval (pure (frv (.int 0)))) (mcons (mval (mOp2 gSub (mslot 2) (mslot 3))) mnil))))
noncomputable def t__law_lack_3 : M Fl := (mSetS 1 (mCall (gI2 fun i j => if j > i then j else i) (mcons (mslot 1) (mcons (mslot 2) mnil))))
noncomputable def u__law_lack_1 : M Fl := (mSeq t__law_lack_2
  t__law_lack_3)
noncomputable def l__law_lack_1 : M Fl := mFor (mIt (mfz (mget 0))) (putS 3) u__law_lack_1
noncomputable def t__law_lack_4 : M Fl := (mRetV 1)
noncomputable def b__law_lack : M Fl := (mSeq t__law_lack_1
  (mSeq l__law_lack_1
  t__law_lack_4))
noncomputable def fd__law_lack : FD := ⟨[false], runF [false] 4 b__law_lack⟩
@[simp] theorem io__law_lack : fd__law_lack.io = [false] := by
  delta fd__law_lack
  rfl
theorem g__law_lack (ds : List PyData) : fd__law_lack.g ds = Rf.of [false] (b__law_lack (env0 [false] ds 4)) := by
  delta fd__law_lack
  exact runF_e [false] 4 b__law_lack ds
theorem ok__law_lack (hB : Bu mg) (hG : Gc mg) (D : Dfn K mg "_law_lack" s__law_lack ps__law_lack) : Cal P w K mg base 1 cl "_law_lack" ps__law_lack fd__law_lack :=
  cal_of (N := ["rooms", "most", "here", "room"]) (k := 0) (io := [false]) (fx := ioIx [false]) (body := b__law_lack) D sc__law_lack rfl (fun _ => mem_ioIx) fun f cdv A outer s H E hr => (qss_cons (qs_parC (i := 1) (j := 2) rfl sc__law_lack.nd rfl rfl (by decide) (by decide) (by decide) (.inl rfl) (.inl rfl) (.inl rfl) (.inl rfl) qe_int qe_int rfl rfl rfl rfl rfl rfl rfl rfl rfl)
    (qss_cons (qs_for hpD rfl (qi_seq (qf_of (qe_var (pe_var (i := 0) rfl (.inl rfl) (by decide) (by decide))))) (qg_name (i := 3) sc__law_lack.nd rfl (.inl rfl) (.inl rfl) (by decide)) (fun _ => noEx_put) (qss_cons (qs_set (i := 2) sc__law_lack.nd rfl (.inl rfl) (.inl rfl) (by decide) (ce_max2 rfl rfl hB.b_max (qo_val qe_int) (qo_val (qe_sub (qo_var (pe_var (i := 2) rfl (.inl rfl) (by decide) (by decide))) (qo_var (pe_var (i := 3) rfl (.inl rfl) (by decide) (by decide))))) rfl rfl rfl) rfl rfl)
    (qss_one (qs_set (i := 1) sc__law_lack.nd rfl (.inl rfl) (.inl rfl) (by decide) (ce_max2 rfl rfl hB.b_max (qo_var (pe_var (i := 1) rfl (.inl rfl) (by decide) (by decide))) (qo_var (pe_var (i := 2) rfl (.inl rfl) (by decide) (by decide))) rfl rfl rfl) rfl rfl))) (fun _ => rfl))
    (qss_one (qs_retV (pe_var (i := 1) rfl (.inl rfl) (by decide) (by decide))))))

abbrev s_too_fast : Stmt := topS 23
abbrev ps_too_fast : List Str := ["least", "seen", "off"]
theorem sc_too_fast : FnScope ["least", "seen", "off", "times", "at", "time", "late", "other", "some", "one"] ps_too_fast (defScope s_too_fast) := ⟨rfl, rfl, rfl, by decide +kernel, rfl, by decide +kernel, by decide +kernel⟩
noncomputable def t_too_fast_1 : M Fl := (mDrop (mCallF fd_check_seen (mcons (mArgF (mfz (mget 0))) (mcons (mArgF (mfz (mget 1))) (mcons (mArgF (mfz (mget 2))) mnil)))))
noncomputable def t_too_fast_2 : M Fl := (mSetS 3 (mLst (mcons (mfz (mOp2 gSub (mval (mOp2 gIxS (mslot 1) (mval (pure (frv (.int 0)))))) (mslot 2))) mnil)))
noncomputable def u_too_fast_1 : M Fl := (mAppend 3 (mfz (mCall (gI2 fun i j => if j > i then j else i) (mcons (mval (mOp2 gSub (mslot 5) (mslot 2))) (mcons (mval (mOp2 gAdd (mval (mOp2 gIxS (mslot 3) (mslot 4))) (mval (mOp2 gIxS (mslot 0) (mslot 4))))) mnil)))))
noncomputable def l_too_fast_1 : M Fl := mFor (mEn (mIt (mfz (mSl (mslot 1) (some (mval (pure (frv (.int 1))))) none)))) (tgTup 2 (tgCons (putS 4) (tgCons (putS 5) tgNil))) u_too_fast_1
noncomputable def c_too_fast_1 : M SV := mLc (mEn (mIt (mfz (mget 3)))) [4, 5] (tgTup 2 (tgCons (putS 4) (tgCons (putS 5) tgNil))) (mB (mOp2 gGtA (mslot 5) (mval (mOp2 gAdd (mval (mOp2 gIxS (mslot 1) (mslot 4))) (mslot 2))))) (mfz (mget 4))
noncomputable def t_too_fast_3 : M Fl := (mSetS 6 c_too_fast_1)
noncomputable def t_too_fast_4 : M Fl := (mIfS (mB (mOp2 (gEq false) (mslot 6) (mval (mLst mnil)))) (mRet (mTup (mcons (mfz (pure (frv (.str "may")))) (mcons (mfz (mCall gTupleOf (mcons (mslot 3) mnil))) mnil)))) (pure .nx))
noncomputable def t_too_fast_5 : M Fl := (mSetS 7 (mOp2 gIxS (mslot 6) (mval (pure (frv (.int 0))))))
noncomputable def c_too_fast_2 : M SV := mLc (mRg rg1 (mcons (mslot 7) mnil)) [9] (putS 9) (mB (mOp2 gGtA (mval (mCallF fd_needed (mcons (mArgF (mfz (mget 0))) (mcons (mArgF (mfz (mget 9))) (mcons (mArgF (mfz (mget 7))) mnil))))) (mval (mOp2 gAdd (mval (mOp2 gSub (mval (mOp2 gIxS (mslot 1) (mslot 7))) (mval (mOp2 gIxS (mslot 1) (mslot 9))))) (mval (mOp2 gMul (mval (pure (frv (.int 2)))) (mslot 2))))))) (mfz (mget 9))
noncomputable def t_too_fast_6 : M Fl := (mSetS 8 c_too_fast_2)
noncomputable def t_too_fast_7 : M Fl := (mRet (mTup (mcons (mfz (pure (frv (.str "surely")))) (mcons (mfz (mOp2 gIxS (mslot 8) (mval (mOp1 gNeg (mval (pure (frv (.int 1)))))))) (mcons (mfz (mget 7)) mnil)))))
noncomputable def b_too_fast : M Fl := (mSeq t_too_fast_1
  (mSeq t_too_fast_2
  (mSeq l_too_fast_1
  (mSeq t_too_fast_3
  (mSeq t_too_fast_4
  (mSeq t_too_fast_5
  (mSeq t_too_fast_6
  t_too_fast_7)))))))
noncomputable def fd_too_fast : FD := ⟨[false, false, false], runF [false, false, false] 10 b_too_fast⟩
@[simp] theorem io_too_fast : fd_too_fast.io = [false, false, false] := by
  delta fd_too_fast
  rfl
theorem g_too_fast (ds : List PyData) : fd_too_fast.g ds = Rf.of [false, false, false] (b_too_fast (env0 [false, false, false] ds 10)) := by
  delta fd_too_fast
  exact runF_e [false, false, false] 10 b_too_fast ds
theorem ok_too_fast (hB : Bu mg) (hG : Gc mg) (D : Dfn K mg "too_fast" s_too_fast ps_too_fast) (h_check_seen : Cal P w K mg base 5 cl "check_seen" ps_check_seen fd_check_seen) (h_needed : Cal P w K mg base 1 cl "needed" ps_needed fd_needed) : Cal P w K mg base 6 cl "too_fast" ps_too_fast fd_too_fast :=
  cal_of (N := ["least", "seen", "off", "times", "at", "time", "late", "other", "some", "one"]) (k := 5) (io := [false, false, false]) (fx := ioIx [false, false, false]) (body := b_too_fast) D sc_too_fast rfl (fun _ => mem_ioIx) fun f cdv A outer s H E hr => (qss_cons (qs_drop (qe_callC (h_check_seen.mono (by decide)) hr rfl hxD (qar_cons (qr_fz (qf_of (qe_var (pe_var (i := 0) rfl (.inr (.inl rfl)) (by decide) (by decide))))) (qar_cons (qr_fz (qf_of (qe_var (pe_var (i := 1) rfl (.inr (.inl rfl)) (by decide) (by decide))))) (qar_cons (qr_fz (qf_of (qe_var (pe_var (i := 2) rfl (.inr (.inl rfl)) (by decide) (by decide))))) qar_nil rfl) rfl) rfl) (by decide) rfl rfl) rfl)
    (qss_cons (qs_set (i := 3) sc_too_fast.nd rfl (.inl rfl) (.inl rfl) (by decide) (qe_lst (qaf_cons (qf_of (qe_sub (qo_val (ce_ix (qo_var (pe_var (i := 1) rfl (.inr (.inl rfl)) (by decide) (by decide))) (qo_val qe_int) (fun _ _ => rfl))) (qo_var (pe_var (i := 2) rfl (.inr (.inl rfl)) (by decide) (by decide))))) qaf_nil rfl)) rfl rfl)
    (qss_cons (qs_for hpD rfl (qi_enum rfl hB.b_enumerate (qsr_seq (qf_of (qe_slice (qo_var (pe_var (i := 1) rfl (.inr (.inl rfl)) (by decide) (by decide))) (.some (qo_val qe_int)) .none))) rfl) (qg_tup rfl (qgs_cons (qg_name (i := 4) sc_too_fast.nd rfl (.inl rfl) (.inl rfl) (by decide)) (qgs_cons (qg_name (i := 5) sc_too_fast.nd rfl (.inl rfl) (.inl rfl) (by decide)) qgs_nil rfl) rfl) rfl rfl) (fun _ => noEx_tup (fun _ => noEx_cons (fun _ => noEx_put) (fun _ => noEx_cons (fun _ => noEx_put) (fun _ => noEx_nil)))) (qss_one (qs_append (pe_var (i := 3) rfl (.inl rfl) (by decide) (by decide)) (qf_of (ce_max2 rfl rfl hB.b_max (qo_val (qe_sub (qo_var (pe_var (i := 5) rfl (.inl rfl) (by decide) (by decide))) (qo_var (pe_var (i := 2) rfl (.inr (.inl rfl)) (by decide) (by decide))))) (qo_val (qe_add (qo_val (ce_ix (qo_var (pe_var (i := 3) rfl (.inl rfl) (by decide) (by decide))) (qo_var (pe_var (i := 4) rfl (.inl rfl) (by decide) (by decide))) (fun _ _ => rfl))) (qo_val (ce_ix (qo_var (pe_var (i := 0) rfl (.inr (.inl rfl)) (by decide) (by decide))) (qo_var (pe_var (i := 4) rfl (.inl rfl) (by decide) (by decide))) (fun _ _ => rfl))))) rfl rfl rfl)) rfl rfl rfl rfl rfl rfl)) (fun _ => rfl))
    (qss_cons (qs_setLc (own := [("at", 4), ("time", 5)]) (i := 6) rfl sc_too_fast.nd rfl rfl (by decide) (sw_true rfl rfl rfl (by kernel_rfl)) (qi_enum rfl hB.b_enumerate (qsr_seq (qf_of (qe_var (pe_var (i := 3) rfl (.inl rfl) (by decide) (by decide))))) rfl) (blkOk_by (by kernel_rfl)) (fun _ _ _ _ _ => (qg_tup rfl (qgs_cons (qg_name (i := 4) sc_too_fast.nd rfl (.inl rfl) (.inr rfl) (nbut (by decide))) (qgs_cons (qg_name (i := 5) sc_too_fast.nd rfl (.inl rfl) (.inr rfl) (nbut (by decide))) qgs_nil rfl) rfl) rfl rfl)) (fun _ _ _ _ _ => (qts_one (ct_cmp (cpGt hr) (qo_var (pe_var (i := 5) rfl (.inl rfl) (by decide) (by decide))) (qo_val (qe_add (qo_val (ce_ix (qo_var (pe_var (i := 1) rfl (.inr (.inl  rfl)) (by decide) (by decide))) (qo_var (pe_var (i := 4) rfl (.inl rfl) (by decide) (by decide))) (fun _ _ => rfl))) (qo_var (pe_var (i := 2) rfl (.inr (.inl  rfl)) (by decide) (by decide))))) (nomark _)))) (fun _ _ _ _ _ => (qf_of (qe_var (pe_var (i := 4) rfl (.inl rfl) (by decide) (by decide))))) (fun _ => rfl))
    (qss_cons (qs_if (ct_cmp (cpEq hr) (qo_var (pe_var (i := 6) rfl (.inl rfl) (by decide) (by decide))) (qo_val (qe_lst qaf_nil)) (nomark _)) (qss_one (qs_ret (qe_tup (qaf_cons (qf_of (qe_gstrE rfl hG.c_MAY (by decide))) (qaf_cons (qf_of (ce_tuple rfl hB.b_tuple (qo_var (pe_var (i := 3) rfl (.inl rfl) (by decide) (by decide))) rfl)) qaf_nil rfl) rfl)))) qss_nil)
    (qss_cons (qs_set (i := 7) sc_too_fast.nd rfl (.inr rfl) (.inl rfl) (by decide) (ce_ix (qo_var (pe_var (i := 6) rfl (.inl rfl) (by decide) (by decide))) (qo_val qe_int) (fun _ _ => rfl)) rfl rfl)
    (qss_cons (qs_setLc (own := [("one", 9)]) (i := 8) rfl sc_too_fast.nd rfl rfl (by decide) (sw_true rfl rfl rfl (by kernel_rfl)) (qi_range1 rfl hB.b_range (pa1 (qo_var (pe_var (i := 7) rfl (.inr (.inl rfl)) (by decide) (by decide))) rfl) rfl) (blkOk_by (by kernel_rfl)) (fun _ _ _ _ _ => (qg_name (i := 9) sc_too_fast.nd rfl (.inl rfl) (.inr rfl) (nbut (by decide)))) (fun _ _ _ _ _ => (qts_one (ct_cmp (cpGt hr) (qo_val (qe_callC0 (h_needed.mono (by decide)) hr rfl (qar_cons (qr_fz (qf_of (qe_var (pe_var (i := 0) rfl (.inr (.inl  rfl)) (by decide) (by decide))))) (qar_cons (qr_fz (qf_of (qe_var (pe_var (i := 9) rfl (.inl rfl) (by decide) (by decide))))) (qar_cons (qr_fz (qf_of (qe_var (pe_var (i := 7) rfl (.inr (.inl  rfl)) (by decide) (by decide))))) qar_nil rfl) rfl) rfl) (by decide) rfl rfl)) (qo_val (qe_add (qo_val (qe_sub (qo_val (ce_ix (qo_var (pe_var (i := 1) rfl (.inr (.inl  rfl)) (by decide) (by decide))) (qo_var (pe_var (i := 7) rfl (.inr (.inl  rfl)) (by decide) (by decide))) (fun _ _ => rfl))) (qo_val (ce_ix (qo_var (pe_var (i := 1) rfl (.inr (.inl  rfl)) (by decide) (by decide))) (qo_var (pe_var (i := 9) rfl (.inl rfl) (by decide) (by decide))) (fun _ _ => rfl))))) (qo_val (qe_mul (qo_val (qe_gintE rfl hG.c_PAIR (by decide))) (qo_var (pe_var (i := 2) rfl (.inr (.inl  rfl)) (by decide) (by decide))))))) (nomark _)))) (fun _ _ _ _ _ => (qf_of (qe_var (pe_var (i := 9) rfl (.inl rfl) (by decide) (by decide))))) (fun _ => rfl))
    (qss_one (qs_ret (qe_tup (qaf_cons (qf_of (qe_gstrE rfl hG.c_SURELY (by decide))) (qaf_cons (qf_of (ce_ix (qo_var (pe_var (i := 8) rfl (.inl rfl) (by decide) (by decide))) (qo_val (qe_neg (qo_val qe_int))) (fun _ _ => rfl))) (qaf_cons (qf_of (qe_var (pe_var (i := 7) rfl (.inr (.inl rfl)) (by decide) (by decide)))) qaf_nil rfl) rfl) rfl)))))))))))

abbrev s_clocks : Stmt := topS 28
abbrev ps_clocks : List Str := ["least", "rows", "off"]
theorem sc_clocks : FnScope ["least", "rows", "off", "slack", "ahead", "much", "car", "other", "some", "one", "row"] ps_clocks (defScope s_clocks) := ⟨rfl, rfl, rfl, by decide +kernel, rfl, by decide +kernel, by decide +kernel⟩
noncomputable def t_clocks_1 : M Fl := (mDrop (mCallF fd_check_rows (mcons (mArgF (mfz (mget 0))) (mcons (mArgF (mfz (mget 1))) (mcons (mArgF (mfz (mget 2))) mnil)))))
noncomputable def t_clocks_2 : M Fl := (mPar2 3 4 (mCallF fd_slack_of (mcons (mArgF (mfz (mget 0))) (mcons (mArgF (mfz (mget 1))) mnil))) (mLst (mcons (mfz (mget 2)) mnil)))
noncomputable def t_clocks_3 : M Fl := (mAppend 4 (mfz (mCall (gI2 fun i j => if j < i then j else i) (mcons (mslot 2) (mcons (mval (mOp2 gAdd (mval (mOp2 gIxS (mslot 4) (mval (mOp1 gNeg (mval (pure (frv (.int 1)))))))) (mslot 5))) mnil)))))
noncomputable def t_clocks_4 : M Fl := (mSetS 7 (mOp2 gSub (mval (mCall gLen (mcons (mslot 4) mnil))) (mval (pure (frv (.int 1))))))
noncomputable def c_clocks_1 : M SV := mLc (mIt (mfz (mSl (mslot 3) (some (mslot 9)) (some (mslot 7))))) [10] (putS 10) (pure true) (mfz (mOp2 gIxS (mslot 10) (mval (pure (frv (.int 0))))))
noncomputable def c_clocks_2 : M SV := mLc (mRg rg1 (mcons (mslot 7) mnil)) [9] (putS 9) (mB (mOp2 gLt (mval (mCall gSum (mcons (mval c_clocks_1) mnil))) (mval (mOp2 gMul (mval (mOp1 gNeg (mval (pure (frv (.int 2)))))) (mslot 2))))) (mfz (mget 9))
noncomputable def t_clocks_5 : M Fl := (mSetS 8 c_clocks_2)
noncomputable def c_clocks_3 : M SV := mLc (mIt (mfz (mSl (mslot 3) (some (mval (mOp2 gIxS (mslot 8) (mval (mOp1 gNeg (mval (pure (frv (.int 1))))))))) (some (mslot 7))))) [10] (putS 10) (pure true) (mfz (mOp2 gIxS (mslot 10) (mval (pure (frv (.int 1))))))
noncomputable def t_clocks_6 : M Fl := (mRet (mTup (mcons (mfz (pure (frv (.str "surely")))) (mcons (mfz (mOp2 gIxS (mslot 8) (mval (mOp1 gNeg (mval (pure (frv (.int 1)))))))) (mcons (mfz (mget 7)) (mcons (mfz (mCall gTupleOf (mcons (mval c_clocks_3) mnil))) mnil))))))
noncomputable def t_clocks_7 : M Fl := (mIfS (mB (mOp2 gLt (mval (mOp2 gIxS (mslot 4) (mval (mOp1 gNeg (mval (pure (frv (.int 1)))))))) (mval (mOp1 gNeg (mslot 2))))) (mSeq t_clocks_4
  (mSeq t_clocks_5
  t_clocks_6)) (pure .nx))
noncomputable def u_clocks_1 : M Fl := (mSeq t_clocks_3
  t_clocks_7)
noncomputable def l_clocks_1 : M Fl := mFor (mIt (mfz (mget 3))) (tgTup 2 (tgCons (putS 5) (tgCons (putS 6) tgNil))) u_clocks_1
noncomputable def t_clocks_8 : M Fl := (mRet (mTup (mcons (mfz (pure (frv (.str "may")))) (mcons (mfz (mCall gTupleOf (mcons (mslot 4) mnil))) mnil))))
noncomputable def b_clocks : M Fl := (mSeq t_clocks_1
  (mSeq t_clocks_2
  (mSeq l_clocks_1
  t_clocks_8)))
noncomputable def fd_clocks : FD := ⟨[false, false, false], runF [false, false, false] 11 b_clocks⟩
@[simp] theorem io_clocks : fd_clocks.io = [false, false, false] := by
  delta fd_clocks
  rfl
theorem g_clocks (ds : List PyData) : fd_clocks.g ds = Rf.of [false, false, false] (b_clocks (env0 [false, false, false] ds 11)) := by
  delta fd_clocks
  exact runF_e [false, false, false] 11 b_clocks ds
theorem ok_clocks (hB : Bu mg) (hG : Gc mg) (D : Dfn K mg "clocks" s_clocks ps_clocks) (h_check_rows : Cal P w K mg base 5 cl "check_rows" ps_check_rows fd_check_rows) (h_slack_of : Cal P w K mg base 1 cl "slack_of" ps_slack_of fd_slack_of) : Cal P w K mg base 6 cl "clocks" ps_clocks fd_clocks :=
  cal_of (N := ["least", "rows", "off", "slack", "ahead", "much", "car", "other", "some", "one", "row"]) (k := 5) (io := [false, false, false]) (fx := ioIx [false, false, false]) (body := b_clocks) D sc_clocks rfl (fun _ => mem_ioIx) fun f cdv A outer s H E hr => (qss_cons (qs_drop (qe_callC (h_check_rows.mono (by decide)) hr rfl hxD (qar_cons (qr_fz (qf_of (qe_var (pe_var (i := 0) rfl (.inl rfl) (by decide) (by decide))))) (qar_cons (qr_fz (qf_of (qe_var (pe_var (i := 1) rfl (.inl rfl) (by decide) (by decide))))) (qar_cons (qr_fz (qf_of (qe_var (pe_var (i := 2) rfl (.inr (.inl rfl)) (by decide) (by decide))))) qar_nil rfl) rfl) rfl) (by decide) rfl rfl) rfl)
    (qss_cons (qs_parC (i := 3) (j := 4) rfl sc_clocks.nd rfl rfl (by decide) (by decide) (by decide) (.inr rfl) (.inl rfl) (.inl rfl) (.inl rfl) (qe_callC (h_slack_of.mono (by decide)) hr rfl hxD (qar_cons (qr_fz (qf_of (qe_var (pe_var (i := 0) rfl (.inl rfl) (by decide) (by decide))))) (qar_cons (qr_fz (qf_of (qe_var (pe_var (i := 1) rfl (.inl rfl) (by decide) (by decide))))) qar_nil rfl) rfl) (by decide) rfl rfl) (qe_lst (qaf_cons (qf_of (qe_var (pe_var (i := 2) rfl (.inr (.inl rfl)) (by decide) (by decide)))) qaf_nil rfl)) rfl rfl rfl rfl rfl rfl rfl rfl rfl)
    (qss_cons (qs_for hpD rfl (qi_seq (qf_of (qe_var (pe_var (i := 3) rfl (.inr (.inl rfl)) (by decide) (by decide))))) (qg_tup rfl (qgs_cons (qg_name (i := 5) sc_clocks.nd rfl (.inl rfl) (.inl rfl) (by decide)) (qgs_cons (qg_name (i := 6) sc_clocks.nd rfl (.inl rfl) (.inl rfl) (by decide)) qgs_nil rfl) rfl) rfl rfl) (fun _ => noEx_tup (fun _ => noEx_cons (fun _ => noEx_put) (fun _ => noEx_cons (fun _ => noEx_put) (fun _ => noEx_nil)))) (qss_cons (qs_append (pe_var (i := 4) rfl (.inl rfl) (by decide) (by decide)) (qf_of (ce_min2 rfl rfl hB.b_min (qo_var (pe_var (i := 2) rfl (.inr (.inl rfl)) (by decide) (by decide))) (qo_val (qe_add (qo_val (ce_ix (qo_var (pe_var (i := 4) rfl (.inl rfl) (by decide) (by decide))) (qo_val (qe_neg (qo_val qe_int))) (fun _ _ => rfl))) (qo_var (pe_var (i := 5) rfl (.inl rfl) (by decide) (by decide))))) rfl rfl rfl)) rfl rfl rfl rfl rfl rfl)
    (qss_one (qs_if (ct_cmp (cpLt hr) (qo_val (ce_ix (qo_var (pe_var (i := 4) rfl (.inl rfl) (by decide) (by decide))) (qo_val (qe_neg (qo_val qe_int))) (fun _ _ => rfl))) (qo_val (qe_neg (qo_var (pe_var (i := 2) rfl (.inr (.inl rfl)) (by decide) (by decide))))) (nomark _)) (qss_cons (qs_set (i := 7) sc_clocks.nd rfl (.inr rfl) (.inl rfl) (by decide) (qe_sub (qo_val (ce_len rfl hB.b_len (qo_var (pe_var (i := 4) rfl (.inl rfl) (by decide) (by decide))) rfl)) (qo_val qe_int)) rfl rfl)
    (qss_cons (qs_setLc (own := [("one", 9)]) (i := 8) rfl sc_clocks.nd rfl rfl (by decide) (sw_true rfl rfl rfl (by kernel_rfl)) (qi_range1 rfl hB.b_range (pa1 (qo_var (pe_var (i := 7) rfl (.inr (.inl rfl)) (by decide) (by decide))) rfl) rfl) (blkOk_by (by kernel_rfl)) (fun _ _ _ _ _ => (qg_name (i := 9) sc_clocks.nd rfl (.inl rfl) (.inr rfl) (nbut (by decide)))) (fun _ _ _ _ _ => (qts_one (ct_cmp (cpLt hr) (qo_val (ce_sum rfl rfl hB.b_sum (qo_val (qe_lc (own := [("row", 10)]) rfl sc_clocks.nd (qi_seq (qf_of (qe_slice (qo_var (pe_var (i := 3) rfl (.inr (.inl  rfl)) (by decide) (by decide))) (.some (qo_var (pe_var (i := 9) rfl (.inl rfl) (by decide) (by decide)))) (.some (qo_var (pe_var (i := 7) rfl (.inr (.inl  rfl)) (by decide) (by decide))))))) (blkOk_by (by kernel_rfl)) (fun _ _ _ _ _ => (qg_name (i := 10) sc_clocks.nd rfl (.inl rfl) (.inr rfl) (nbut (by decide)))) (fun _ _ _ _ _ => qts_nil) (fun _ _ _ _ _ => (qf_of (ce_ix (qo_var (pe_var (i := 10) rfl (.inl rfl) (by decide) (by decide))) (qo_val qe_int) (fun _ _ => rfl)))) (fun _ => rfl))) rfl)) (qo_val (qe_mul (qo_val (qe_neg (qo_val (qe_gintE rfl hG.c_PAIR (by decide))))) (qo_var (pe_var (i := 2) rfl (.inr (.inl  rfl)) (by decide) (by decide))))) (nomark _)))) (fun _ _ _ _ _ => (qf_of (qe_var (pe_var (i := 9) rfl (.inl rfl) (by decide) (by decide))))) (fun _ => rfl))
    (qss_one (qs_ret (qe_tup (qaf_cons (qf_of (qe_gstrE rfl hG.c_SURELY (by decide))) (qaf_cons (qf_of (ce_ix (qo_var (pe_var (i := 8) rfl (.inl rfl) (by decide) (by decide))) (qo_val (qe_neg (qo_val qe_int))) (fun _ _ => rfl))) (qaf_cons (qf_of (qe_var (pe_var (i := 7) rfl (.inr (.inl rfl)) (by decide) (by decide)))) (qaf_cons (qf_of (ce_tuple rfl hB.b_tuple (qo_val (qe_lc (own := [("row", 10)]) rfl sc_clocks.nd (qi_seq (qf_of (qe_slice (qo_var (pe_var (i := 3) rfl (.inr (.inl rfl)) (by decide) (by decide))) (.some (qo_val (ce_ix (qo_var (pe_var (i := 8) rfl (.inl rfl) (by decide) (by decide))) (qo_val (qe_neg (qo_val qe_int))) (fun _ _ => rfl)))) (.some (qo_var (pe_var (i := 7) rfl (.inr (.inl rfl)) (by decide) (by decide))))))) (blkOk_by (by kernel_rfl)) (fun _ _ _ _ _ => (qg_name (i := 10) sc_clocks.nd rfl (.inl rfl) (.inr rfl) (nbut (by decide)))) (fun _ _ _ _ _ => qts_nil) (fun _ _ _ _ _ => (qf_of (ce_ix (qo_var (pe_var (i := 10) rfl (.inl rfl) (by decide) (by decide))) (qo_val qe_int) (fun _ _ => rfl)))) (fun _ => rfl))) rfl)) qaf_nil rfl) rfl) rfl) rfl)))))) qss_nil))) (fun _ => rfl))
    (qss_one (qs_ret (qe_tup (qaf_cons (qf_of (qe_gstrE rfl hG.c_MAY (by decide))) (qaf_cons (qf_of (ce_tuple rfl hB.b_tuple (qo_var (pe_var (i := 4) rfl (.inl rfl) (by decide) (by decide))) rfl)) qaf_nil rfl) rfl)))))))

abbrev s__law_are_others_right : Stmt := topS 45
abbrev ps__law_are_others_right : List Str := ["pot", "least", "seen", "need"]
theorem sc__law_are_others_right : FnScope ["pot", "least", "seen", "need", "later", "back", "times", "rooms", "great", "off", "at", "first", "cut", "time", "one"] ps__law_are_others_right (defScope s__law_are_others_right) := ⟨rfl, rfl, rfl, by decide +kernel, rfl, by decide +kernel, by decide +kernel⟩
noncomputable def c__law_are_others_right_1 : M SV := mLc (mIt (mfz (mget 2))) [13] (putS 13) (pure true) (mfz (mOp2 gAdd (mslot 13) (mval (pure (frv (.int 777))))))
noncomputable def t__law_are_others_right_1 : M Fl := (mSetS 4 (mCall gTupleOf (mcons (mval c__law_are_others_right_1) mnil)))
noncomputable def c__law_are_others_right_2 : M SV := mLc (mIt (mfz (mOp1 gRev (mslot 2)))) [13] (putS 13) (pure true) (mfz (mOp2 gSub (mval (mCall (gBest PySem.W.maxD) (mcons (mslot 2) mnil))) (mslot 13)))
noncomputable def t__law_are_others_right_2 : M Fl := (mSetS 5 (mCall gTupleOf (mcons (mval c__law_are_others_right_2) mnil)))
noncomputable def t__law_are_others_right_3 : M Fl := (mSetS 6 (mOp2 gAdd (mval (pure (frv (.int 2)))) (mval (mCall gInt1 (mcons (mval (mCallF fd__law_take (mcons (mArgI 0) (mcons (mArgF (mfz (pure (frv (.int 3))))) mnil)))) mnil)))))
noncomputable def t__law_are_others_right_4 : M Fl := (mIfS (mOr (mB (mOp2 (gEq true) (mval (mCallF fd_least_off (mcons (mArgF (mfz (mget 1))) (mcons (mArgF (mfz (mget 4))) mnil)))) (mslot 3))) (mB (mOp2 (gEq true) (mval (mCallF fd_least_off (mcons (mArgF (mfz (mOp1 gRev (mslot 1)))) (mcons (mArgF (mfz (mget 5))) mnil)))) (mslot 3)))) (mRet (pure (frv (.bool false)))) (pure .nx))
noncomputable def t__law_are_others_right_5 : M Fl := (mSetS 7 (mCallF fd__law_rooms (mcons (mArgF (mfz (mget 1))) (mcons (mArgF (mfz (mLst (mcons (mfz (mget 2)) mnil)))) mnil))))
noncomputable def c__law_are_others_right_3 : M SV := mLc (mIt (mfz (mget 2))) [13] (putS 13) (pure true) (mfz (mOp2 gMul (mslot 6) (mslot 13)))
noncomputable def c__law_are_others_right_4 : M SV := mLc (mIt (mfz (mget 1))) [14] (putS 14) (pure true) (mfz (mOp2 gMul (mslot 6) (mslot 14)))
noncomputable def t__law_are_others_right_6 : M Fl := (mSetS 8 (mCallF fd_least_off (mcons (mArgF (mfz (mCall gTupleOf (mcons (mval c__law_are_others_right_4) mnil)))) (mcons (mArgF (mfz (mCall gTupleOf (mcons (mval c__law_are_others_right_3) mnil)))) mnil))))
noncomputable def t__law_are_others_right_7 : M Fl := (mIfS (mB (mOp2 (gEq true) (mslot 8) (mval (mCallF fd__law_half (mcons (mArgF (mfz (mOp2 gMul (mslot 6) (mval (mCallF fd__law_lack (mcons (mArgF (mfz (mget 7))) mnil)))))) mnil))))) (mRet (pure (frv (.bool false)))) (pure .nx))
noncomputable def t__law_are_others_right_8 : M Fl := (mIfS (mB (mOp2 (gEq true) (mval (mOp2 gIxS (mval (mCallF fd_too_fast (mcons (mArgF (mfz (mOp1 gRev (mslot 1)))) (mcons (mArgF (mfz (mget 5))) (mcons (mArgF (mfz (mget 9))) mnil))))) (mval (pure (frv (.int 0)))))) (mval (mOp2 gIxS (mval (mCallF fd_too_fast (mcons (mArgF (mfz (mget 1))) (mcons (mArgF (mfz (mget 2))) (mcons (mArgF (mfz (mget 9))) mnil))))) (mval (pure (frv (.int 0)))))))) (mRet (pure (frv (.bool false)))) (pure .nx))
noncomputable def t__law_are_others_right_9 : M Fl := (mIfS (mB (mOp2 (gEq true) (mval (mOp2 gIxS (mval (mCallF fd_clocks (mcons (mArgF (mfz (mget 1))) (mcons (mArgF (mfz (mTup (mcons (mfz (mget 2)) mnil)))) (mcons (mArgF (mfz (mget 9))) mnil))))) (mval (pure (frv (.int 0)))))) (mval (mOp2 gIxS (mval (mCallF fd_too_fast (mcons (mArgF (mfz (mget 1))) (mcons (mArgF (mfz (mget 2))) (mcons (mArgF (mfz (mget 9))) mnil))))) (mval (pure (frv (.int 0)))))))) (mRet (pure (frv (.bool false)))) (pure .nx))
noncomputable def u__law_are_others_right_1 : M Fl := (mSeq t__law_are_others_right_8
  t__law_are_others_right_9)
noncomputable def l__law_are_others_right_1 : M Fl := mFor (mIt (mfz (mTup (mcons (mfz (pure (frv (.int 0)))) (mcons (mfz (mget 3)) mnil))))) (putS 9) u__law_are_others_right_1
noncomputable def t__law_are_others_right_10 : M Fl := (mIfS (mB (mOp2 (gEq true) (mval (mCallF fd_least_clocks (mcons (mArgF (mfz (mget 1))) (mcons (mArgF (mfz (mTup (mcons (mfz (mget 2)) mnil)))) mnil)))) (mslot 3))) (mRet (pure (frv (.bool false)))) (pure .nx))
noncomputable def t__law_are_others_right_11 : M Fl := (mSetS 10 (mCall gInt1 (mcons (mval (mCallF fd__law_take (mcons (mArgI 0) (mcons (mArgF (mfz (mCall gLen (mcons (mslot 1) mnil)))) mnil)))) mnil)))
noncomputable def t__law_are_others_right_12 : M Fl := (mSetS 11 (mCall gInt1 (mcons (mval (mCallF fd__law_take (mcons (mArgI 0) (mcons (mArgF (mfz (mOp2 gAdd (mval (mOp2 gIxS (mslot 1) (mslot 10))) (mval (pure (frv (.int 1))))))) mnil)))) mnil)))
noncomputable def t__law_are_others_right_13 : M Fl := (mSetS 12 (mOp2 gAdd (mval (mOp2 gAdd (mval (mSl (mslot 1) none (some (mslot 10)))) (mval (mTup (mcons (mfz (mget 11)) (mcons (mfz (mOp2 gSub (mval (mOp2 gIxS (mslot 1) (mslot 10))) (mslot 11))) mnil)))))) (mval (mSl (mslot 1) (some (mval (mOp2 gAdd (mslot 10) (mval (pure (frv (.int 1))))))) none))))
noncomputable def t__law_are_others_right_14 : M Fl := (mIfS (mB (mOp2 gLt (mval (mCallF fd_least_off (mcons (mArgF (mfz (mget 12))) (mcons (mArgF (mfz (mOp2 gAdd (mval (mOp2 gAdd (mval (mSl (mslot 2) none (some (mval (mOp2 gAdd (mslot 10) (mval (pure (frv (.int 1))))))))) (mval (mTup (mcons (mfz (mOp2 gAdd (mval (mOp2 gIxS (mslot 2) (mslot 10))) (mval (mCall (gI2 fun i j => if j < i then j else i) (mcons (mslot 11) (mcons (mval (mCall (gI2 fun i j => if j > i then j else i) (mcons (mval (pure (frv (.int 0)))) (mcons (mval (mOp2 gSub (mval (mOp2 gIxS (mslot 2) (mval (mOp2 gAdd (mslot 10) (mval (pure (frv (.int 1)))))))) (mval (mOp2 gIxS (mslot 2) (mslot 10))))) mnil)))) mnil)))))) mnil))))) (mval (mSl (mslot 2) (some (mval (mOp2 gAdd (mslot 10) (mval (pure (frv (.int 1))))))) none))))) mnil)))) (mslot 3))) (mRet (pure (frv (.bool false)))) (pure .nx))
noncomputable def t__law_are_others_right_15 : M Fl := (mIfS (mAnd (mB (mOp2 gLt (mval (mCall gLen (mcons (mslot 1) mnil))) (mval (pure (frv (.int 11)))))) (mB (mOp2 gGtA (mval (mOp2 gIxS (mslot 1) (mslot 10))) (mval (pure (frv (.int 0))))))) (mSeq t__law_are_others_right_12
  (mSeq t__law_are_others_right_13
  t__law_are_others_right_14)) (pure .nx))
noncomputable def t__law_are_others_right_16 : M Fl := (mRet (pure (frv (.bool true))))
noncomputable def b__law_are_others_right : M Fl := (mSeq t__law_are_others_right_1
  (mSeq t__law_are_others_right_2
  (mSeq t__law_are_others_right_3
  (mSeq t__law_are_others_right_4
  (mSeq t__law_are_others_right_5
  (mSeq t__law_are_others_right_6
  (mSeq t__law_are_others_right_7
  (mSeq l__law_are_others_right_1
  (mSeq t__law_are_others_right_10
  (mSeq t__law_are_others_right_11
  (mSeq t__law_are_others_right_15
  t__law_are_others_right_16)))))))))))
noncomputable def fd__law_are_others_right : FD := ⟨[true, false, false, false], runF [true, false, false, false] 15 b__law_are_others_right⟩
@[simp] theorem io__law_are_others_right : fd__law_are_others_right.io = [true, false, false, false] := by
  delta fd__law_are_others_right
  rfl
theorem g__law_are_others_right (ds : List PyData) : fd__law_are_others_right.g ds = Rf.of [true, false, false, false] (b__law_are_others_right (env0 [true, false, false, false] ds 15)) := by
  delta fd__law_are_others_right
  exact runF_e [true, false, false, false] 15 b__law_are_others_right ds
theorem ok__law_are_others_right (hB : Bu mg) (hG : Gc mg) (D : Dfn K mg "_law_are_others_right" s__law_are_others_right ps__law_are_others_right) (h__law_take : Cal P w K mg base 1 cl "_law_take" ps__law_take fd__law_take) (h_least_off : Cal P w K mg base 6 cl "least_off" ps_least_off fd_least_off) (h__law_rooms : Cal P w K mg base 1 cl "_law_rooms" ps__law_rooms fd__law_rooms) (h__law_half : Cal P w K mg base 1 cl "_law_half" ps__law_half fd__law_half) (h__law_lack : Cal P w K mg base 1 cl "_law_lack" ps__law_lack fd__law_lack) (h_too_fast : Cal P w K mg base 6 cl "too_fast" ps_too_fast fd_too_fast) (h_clocks : Cal P w K mg base 6 cl "clocks" ps_clocks fd_clocks) (h_least_clocks : Cal P w K mg base 6 cl "least_clocks" ps_least_clocks fd_least_clocks) : Cal P w K mg base 7 cl "_law_are_others_right" ps__law_are_others_right fd__law_are_others_right :=
  cal_of (N := ["pot", "least", "seen", "need", "later", "back", "times", "rooms", "great", "off", "at", "first", "cut", "time", "one"]) (k := 6) (io := [true, false, false, false]) (fx := ioIx [true, false, false, false]) (body := b__law_are_others_right) D sc__law_are_others_right rfl (fun _ => mem_ioIx) fun f cdv A outer s H E hr => (qss_cons (qs_set (i := 4) sc__law_are_others_right.nd rfl (.inl rfl) (.inl rfl) (by decide) (ce_tuple rfl hB.b_tuple (qo_val (qe_lc (own := [("time", 13)]) rfl sc__law_are_others_right.nd (qi_seq (qf_of (qe_var (pe_var (i := 2) rfl (.inr (.inl rfl)) (by decide) (by decide))))) (blkOk_by (by kernel_rfl)) (fun _ _ _ _ _ => (qg_name (i := 13) sc__law_are_others_right.nd rfl (.inl rfl) (.inr rfl) (nbut (by decide)))) (fun _ _ _ _ _ => qts_nil) (fun _ _ _ _ _ => (qf_of (qe_add (qo_var (pe_var (i := 13) rfl (.inl rfl) (by decide) (by decide))) (qo_val qe_int)))) (fun _ => rfl))) rfl) rfl rfl)
    (qss_cons (qs_set (i := 5) sc__law_are_others_right.nd rfl (.inl rfl) (.inl rfl) (by decide) (ce_tuple rfl hB.b_tuple (qo_val (qe_lc (own := [("time", 13)]) rfl sc__law_are_others_right.nd (qi_seq (qf_of (qe_rev (qo_var (pe_var (i := 2) rfl (.inr (.inl rfl)) (by decide) (by decide)))))) (blkOk_by (by kernel_rfl)) (fun _ _ _ _ _ => (qg_name (i := 13) sc__law_are_others_right.nd rfl (.inl rfl) (.inr rfl) (nbut (by decide)))) (fun _ _ _ _ _ => qts_nil) (fun _ _ _ _ _ => (qf_of (qe_sub (qo_val (ce_max1 rfl hr rfl hB.b_max (qo_var (pe_var (i := 2) rfl (.inr (.inl  rfl)) (by decide) (by decide))) rfl)) (qo_var (pe_var (i := 13) rfl (.inl rfl) (by decide) (by decide)))))) (fun _ => rfl))) rfl) rfl rfl)
    (qss_cons (qs_set (i := 6) sc__law_are_others_right.nd rfl (.inr rfl) (.inl rfl) (by decide) (qe_add (qo_val qe_int) (qo_val (ce_int rfl hB.b_int (qo_val (qe_callC (h__law_take.mono (by decide)) hr rfl hxD (qar_cons (qr_io (pe_var (i := 0) rfl (.inl rfl) (by decide) (by decide))) (qar_cons (qr_fz (qf_of qe_int)) qar_nil rfl) rfl) (by decide) rfl rfl)) rfl))) rfl rfl)
    (qss_cons (qs_if (PW.pt (qw_or (ct_cmp (cpNe hr) (qo_val (qe_callC (h_least_off.mono (by decide)) hr rfl hxD (qar_cons (qr_fz (qf_of (qe_var (pe_var (i := 1) rfl (.inl rfl) (by decide) (by decide))))) (qar_cons (qr_fz (qf_of (qe_var (pe_var (i := 4) rfl (.inl rfl) (by decide) (by decide))))) qar_nil rfl) rfl) (by decide) rfl rfl)) (qo_var (pe_var (i := 3) rfl (.inl rfl) (by decide) (by decide))) (nomark _)) (qw_or1 (ct_cmp (cpNe hr) (qo_val (qe_callC (h_least_off.mono (by decide)) hr rfl hxD (qar_cons (qr_fz (qf_of (qe_rev (qo_var (pe_var (i := 1) rfl (.inl rfl) (by decide) (by decide)))))) (qar_cons (qr_fz (qf_of (qe_var (pe_var (i := 5) rfl (.inl rfl) (by decide) (by decide))))) qar_nil rfl) rfl) (by decide) rfl rfl)) (qo_var (pe_var (i := 3) rfl (.inl rfl) (by decide) (by decide))) (nomark _))))) (qss_one (qs_ret qe_bl)) qss_nil)
    (qss_cons (qs_set (i := 7) sc__law_are_others_right.nd rfl (.inl rfl) (.inl rfl) (by decide) (qe_callC (h__law_rooms.mono (by decide)) hr rfl hxD (qar_cons (qr_fz (qf_of (qe_var (pe_var (i := 1) rfl (.inl rfl) (by decide) (by decide))))) (qar_cons (qr_fz (qf_of (qe_lst (qaf_cons (qf_of (qe_var (pe_var (i := 2) rfl (.inr (.inl rfl)) (by decide) (by decide)))) qaf_nil rfl)))) qar_nil rfl) rfl) (by decide) rfl rfl) rfl rfl)
    (qss_cons (qs_set (i := 8) sc__law_are_others_right.nd rfl (.inl rfl) (.inl rfl) (by decide) (qe_callC (h_least_off.mono (by decide)) hr rfl hxD (qar_cons (qr_fz (qf_of (ce_tuple rfl hB.b_tuple (qo_val (qe_lc (own := [("one", 14)]) rfl sc__law_are_others_right.nd (qi_seq (qf_of (qe_var (pe_var (i := 1) rfl (.inl rfl) (by decide) (by decide))))) (blkOk_by (by kernel_rfl)) (fun _ _ _ _ _ => (qg_name (i := 14) sc__law_are_others_right.nd rfl (.inl rfl) (.inr rfl) (nbut (by decide)))) (fun _ _ _ _ _ => qts_nil) (fun _ _ _ _ _ => (qf_of (qe_mul (qo_var (pe_var (i := 6) rfl (.inr (.inl  rfl)) (by decide) (by decide))) (qo_var (pe_var (i := 14) rfl (.inl rfl) (by decide) (by decide)))))) (fun _ => rfl))) rfl))) (qar_cons (qr_fz (qf_of (ce_tuple rfl hB.b_tuple (qo_val (qe_lc (own := [("time", 13)]) rfl sc__law_are_others_right.nd (qi_seq (qf_of (qe_var (pe_var (i := 2) rfl (.inr (.inl rfl)) (by decide) (by decide))))) (blkOk_by (by kernel_rfl)) (fun _ _ _ _ _ => (qg_name (i := 13) sc__law_are_others_right.nd rfl (.inl rfl) (.inr rfl) (nbut (by decide)))) (fun _ _ _ _ _ => qts_nil) (fun _ _ _ _ _ => (qf_of (qe_mul (qo_var (pe_var (i := 6) rfl (.inr (.inl  rfl)) (by decide) (by decide))) (qo_var (pe_var (i := 13) rfl (.inl rfl) (by decide) (by decide)))))) (fun _ => rfl))) rfl))) qar_nil rfl) rfl) (by decide) rfl rfl) rfl rfl)
    (qss_cons (qs_if (ct_cmp (cpNe hr) (qo_var (pe_var (i := 8) rfl (.inl rfl) (by decide) (by decide))) (qo_val (qe_callC (h__law_half.mono (by decide)) hr rfl hxD (qar_cons (qr_fz (qf_of (qe_mul (qo_var (pe_var (i := 6) rfl (.inr (.inl rfl)) (by decide) (by decide))) (qo_val (qe_callC (h__law_lack.mono (by decide)) hr rfl hxD (qar_cons (qr_fz (qf_of (qe_var (pe_var (i := 7) rfl (.inl rfl) (by decide) (by decide))))) qar_nil rfl) (by decide) rfl rfl))))) qar_nil rfl) (by decide) rfl rfl)) (nomark _)) (qss_one (qs_ret qe_bl)) qss_nil)
    (qss_cons (qs_for hpD rfl (qi_seq (qf_of (qe_tup (qaf_cons (qf_of qe_int) (qaf_cons (qf_of (qe_var (pe_var (i := 3) rfl (.inl rfl) (by decide) (by decide)))) qaf_nil rfl) rfl)))) (qg_name (i := 9) sc__law_are_others_right.nd rfl (.inl rfl) (.inl rfl) (by decide)) (fun _ => noEx_put) (qss_cons (qs_if (ct_cmp (cpNe hr) (qo_val (ce_ix (qo_val (qe_callC (h_too_fast.mono (by decide)) hr rfl hxD (qar_cons (qr_fz (qf_of (qe_rev (qo_var (pe_var (i := 1) rfl (.inl rfl) (by decide) (by decide)))))) (qar_cons (qr_fz (qf_of (qe_var (pe_var (i := 5) rfl (.inl rfl) (by decide) (by decide))))) (qar_cons (qr_fz (qf_of (qe_var (pe_var (i := 9) rfl (.inl rfl) (by decide) (by decide))))) qar_nil rfl) rfl) rfl) (by decide) rfl rfl)) (qo_val qe_int) (fun _ _ => rfl))) (qo_val (ce_ix (qo_val (qe_callC (h_too_fast.mono (by decide)) hr rfl hxD (qar_cons (qr_fz (qf_of (qe_var (pe_var (i := 1) rfl (.inl rfl) (by decide) (by decide))))) (qar_cons (qr_fz (qf_of (qe_var (pe_var (i := 2) rfl (.inr (.inl rfl)) (by decide) (by decide))))) (qar_cons (qr_fz (qf_of (qe_var (pe_var (i := 9) rfl (.inl rfl) (by decide) (by decide))))) qar_nil rfl) rfl) rfl) (by decide) rfl rfl)) (qo_val qe_int) (fun _ _ => rfl))) (nomark _)) (qss_one (qs_ret qe_bl)) qss_nil)
    (qss_one (qs_if (ct_cmp (cpNe hr) (qo_val (ce_ix (qo_val (qe_callC (h_clocks.mono (by decide)) hr rfl hxD (qar_cons (qr_fz (qf_of (qe_var (pe_var (i := 1) rfl (.inl rfl) (by decide) (by decide))))) (qar_cons (qr_fz (qf_of (qe_tup (qaf_cons (qf_of (qe_var (pe_var (i := 2) rfl (.inr (.inl rfl)) (by decide) (by decide)))) qaf_nil rfl)))) (qar_cons (qr_fz (qf_of (qe_var (pe_var (i := 9) rfl (.inl rfl) (by decide) (by decide))))) qar_nil rfl) rfl) rfl) (by decide) rfl rfl)) (qo_val qe_int) (fun _ _ => rfl))) (qo_val (ce_ix (qo_val (qe_callC (h_too_fast.mono (by decide)) hr rfl hxD (qar_cons (qr_fz (qf_of (qe_var (pe_var (i := 1) rfl (.inl rfl) (by decide) (by decide))))) (qar_cons (qr_fz (qf_of (qe_var (pe_var (i := 2) rfl (.inr (.inl rfl)) (by decide) (by decide))))) (qar_cons (qr_fz (qf_of (qe_var (pe_var (i := 9) rfl (.inl rfl) (by decide) (by decide))))) qar_nil rfl) rfl) rfl) (by decide) rfl rfl)) (qo_val qe_int) (fun _ _ => rfl))) (nomark _)) (qss_one (qs_ret qe_bl)) qss_nil))) (fun _ => rfl))
    (qss_cons (qs_if (ct_cmp (cpNe hr) (qo_val (qe_callC (h_least_clocks.mono (by decide)) hr rfl hxD (qar_cons (qr_fz (qf_of (qe_var (pe_var (i := 1) rfl (.inl rfl) (by decide) (by decide))))) (qar_cons (qr_fz (qf_of (qe_tup (qaf_cons (qf_of (qe_var (pe_var (i := 2) rfl (.inr (.inl rfl)) (by decide) (by decide)))) qaf_nil rfl)))) qar_nil rfl) rfl) (by decide) rfl rfl)) (qo_var (pe_var (i := 3) rfl (.inl rfl) (by decide) (by decide))) (nomark _)) (qss_one (qs_ret qe_bl)) qss_nil)
    (qss_cons (qs_set (i := 10) sc__law_are_others_right.nd rfl (.inl rfl) (.inl rfl) (by decide) (ce_int rfl hB.b_int (qo_val (qe_callC (h__law_take.mono (by decide)) hr rfl hxD (qar_cons (qr_io (pe_var (i := 0) rfl (.inl rfl) (by decide) (by decide))) (qar_cons (qr_fz (qf_of (ce_len rfl hB.b_len (qo_var (pe_var (i := 1) rfl (.inl rfl) (by decide) (by decide))) rfl))) qar_nil rfl) rfl) (by decide) rfl rfl)) rfl) rfl rfl)
    (qss_cons (qs_if (PW.pt (qw_and (ct_cmp (cpLt hr) (qo_val (ce_len rfl hB.b_len (qo_var (pe_var (i := 1) rfl (.inl rfl) (by decide) (by decide))) rfl)) (qo_val qe_int) (nomark _)) (qw_and1 (ct_cmp (cpGt hr) (qo_val (ce_ix (qo_var (pe_var (i := 1) rfl (.inl rfl) (by decide) (by decide))) (qo_var (pe_var (i := 10) rfl (.inl rfl) (by decide) (by decide))) (fun _ _ => rfl))) (qo_val qe_int) (nomark _))))) (qss_cons (qs_set (i := 11) sc__law_are_others_right.nd rfl (.inl rfl) (.inl rfl) (by decide) (ce_int rfl hB.b_int (qo_val (qe_callC (h__law_take.mono (by decide)) hr rfl hxD (qar_cons (qr_io (pe_var (i := 0) rfl (.inl rfl) (by decide) (by decide))) (qar_cons (qr_fz (qf_of (qe_add (qo_val (ce_ix (qo_var (pe_var (i := 1) rfl (.inl rfl) (by decide) (by decide))) (qo_var (pe_var (i := 10) rfl (.inl rfl) (by decide) (by decide))) (fun _ _ => rfl))) (qo_val qe_int)))) qar_nil rfl) rfl) (by decide) rfl rfl)) rfl) rfl rfl)
    (qss_cons (qs_set (i := 12) sc__law_are_others_right.nd rfl (.inl rfl) (.inl rfl) (by decide) (qe_add (qo_val (qe_add (qo_val (qe_slice (qo_var (pe_var (i := 1) rfl (.inl rfl) (by decide) (by decide))) .none (.some (qo_var (pe_var (i := 10) rfl (.inl rfl) (by decide) (by decide)))))) (qo_val (qe_tup (qaf_cons (qf_of (qe_var (pe_var (i := 11) rfl (.inl rfl) (by decide) (by decide)))) (qaf_cons (qf_of (qe_sub (qo_val (ce_ix (qo_var (pe_var (i := 1) rfl (.inl rfl) (by decide) (by decide))) (qo_var (pe_var (i := 10) rfl (.inl rfl) (by decide) (by decide))) (fun _ _ => rfl))) (qo_var (pe_var (i := 11) rfl (.inl rfl) (by decide) (by decide))))) qaf_nil rfl) rfl))))) (qo_val (qe_slice (qo_var (pe_var (i := 1) rfl (.inl rfl) (by decide) (by decide))) (.some (qo_val (qe_add (qo_var (pe_var (i := 10) rfl (.inl rfl) (by decide) (by decide))) (qo_val qe_int)))) .none))) rfl rfl)
    (qss_one (qs_if (ct_cmp (cpLt hr) (qo_val (qe_callC (h_least_off.mono (by decide)) hr rfl hxD (qar_cons (qr_fz (qf_of (qe_var (pe_var (i := 12) rfl (.inl rfl) (by decide) (by decide))))) (qar_cons (qr_fz (qf_of (qe_add (qo_val (qe_add (qo_val (qe_slice (qo_var (pe_var (i := 2) rfl (.inr (.inl rfl)) (by decide) (by decide))) .none (.some (qo_val (qe_add (qo_var (pe_var (i := 10) rfl (.inl rfl) (by decide) (by decide))) (qo_val qe_int)))))) (qo_val (qe_tup (qaf_cons (qf_of (qe_add (qo_val (ce_ix (qo_var (pe_var (i := 2) rfl (.inr (.inl rfl)) (by decide) (by decide))) (qo_var (pe_var (i := 10) rfl (.inl rfl) (by decide) (by decide))) (fun _ _ => rfl))) (qo_val (ce_min2 rfl rfl hB.b_min (qo_var (pe_var (i := 11) rfl (.inl rfl) (by decide) (by decide))) (qo_val (ce_max2 rfl rfl hB.b_max (qo_val qe_int) (qo_val (qe_sub (qo_val (ce_ix (qo_var (pe_var (i := 2) rfl (.inr (.inl rfl)) (by decide) (by decide))) (qo_val (qe_add (qo_var (pe_var (i := 10) rfl (.inl rfl) (by decide) (by decide))) (qo_val qe_int))) (fun _ _ => rfl))) (qo_val (ce_ix (qo_var (pe_var (i := 2) rfl (.inr (.inl rfl)) (by decide) (by decide))) (qo_var (pe_var (i := 10) rfl (.inl rfl) (by decide) (by decide))) (fun _ _ => rfl))))) rfl rfl rfl)) rfl rfl rfl)))) qaf_nil rfl))))) (qo_val (qe_slice (qo_var (pe_var (i := 2) rfl (.inr (.inl rfl)) (by decide) (by decide))) (.some (qo_val (qe_add (qo_var (pe_var (i := 10) rfl (.inl rfl) (by decide) (by decide))) (qo_val qe_int)))) .none))))) qar_nil rfl) rfl) (by decide) rfl rfl)) (qo_var (pe_var (i := 3) rfl (.inl rfl) (by decide) (by decide))) (nomark _)) (qss_one (qs_ret qe_bl)) qss_nil)))) qss_nil)
    (qss_one (qs_ret qe_bl)))))))))))))

abbrev s_shows_too_fast : Stmt := topS 24
abbrev ps_shows_too_fast : List Str := ["least", "seen", "off", "value"]
theorem sc_shows_too_fast : FnScope ["least", "seen", "off", "value", "one", "other", "many", "time", "told", "some"] ps_shows_too_fast (defScope s_shows_too_fast) := ⟨rfl, rfl, rfl, by decide +kernel, rfl, by decide +kernel, by decide +kernel⟩
noncomputable def t_shows_too_fast_1 : M Fl := (mDrop (mCallF fd_check_seen (mcons (mArgF (mfz (mget 0))) (mcons (mArgF (mfz (mget 1))) (mcons (mArgF (mfz (mget 2))) mnil)))))
noncomputable def t_shows_too_fast_2 : M Fl := (mIfS (mOr (mNot (mB (mCallF fd_is_tuple (mcons (mArgF (mfz (mget 3))) (mcons (mArgF (mfz (pure (frv (.int 2))))) (mcons (mArgF (mfz (pure (frv (.int 3))))) mnil)))))) (mNot (mB (mOp1 (isiD "str") (mval (mOp2 gIxS (mslot 3) (mval (pure (frv (.int 0)))))))))) (mRet (pure (frv (.bool false)))) (pure .nx))
noncomputable def c_shows_too_fast_1 : M SV := mLc (mIt (mfz (mSl (mslot 3) (some (mval (pure (frv (.int 1))))) none))) [4] (putS 4) (pure true) (mfz (mCallF fd_is_integer (mcons (mArgF (mfz (mget 4))) (mcons (mArgF (mfz (pure (frv (.int 0))))) (mcons (mArgF (mfz (mCall gLen (mcons (mslot 0) mnil)))) mnil)))))
noncomputable def t_shows_too_fast_3 : M Fl := (mIfS (mOr (mB (mOp2 (gEq true) (mval (mCall gLen (mcons (mslot 3) mnil))) (mval (pure (frv (.int 3)))))) (mNot (mB (mCall (gAllAny (·.all id)) (mcons (mval c_shows_too_fast_1) mnil))))) (mRet (pure (frv (.bool false)))) (pure .nx))
noncomputable def t_shows_too_fast_4 : M Fl := (mAsgT (mfz (mSl (mslot 3) (some (mval (pure (frv (.int 1))))) none)) (tgTup 2 (tgCons (putS 4) (tgCons (putS 5) tgNil))))
noncomputable def t_shows_too_fast_5 : M Fl := (mRet (mAndV (mOp2 gLt (mslot 4) (mslot 5)) (mOp2 gGtA (mval (mCallF fd_needed (mcons (mArgF (mfz (mget 0))) (mcons (mArgF (mfz (mget 4))) (mcons (mArgF (mfz (mget 5))) mnil))))) (mval (mOp2 gAdd (mval (mOp2 gSub (mval (mOp2 gIxS (mslot 1) (mslot 5))) (mval (mOp2 gIxS (mslot 1) (mslot 4))))) (mval (mOp2 gMul (mval (pure (frv (.int 2)))) (mslot 2))))))))
noncomputable def t_shows_too_fast_6 : M Fl := (mIfS (mB (mOp2 (gEq false) (mval (mOp2 gIxS (mslot 3) (mval (pure (frv (.int 0)))))) (mval (pure (frv (.str "surely")))))) (mSeq t_shows_too_fast_3
  (mSeq t_shows_too_fast_4
  t_shows_too_fast_5)) (pure .nx))
noncomputable def t_shows_too_fast_7 : M Fl := (mSetS 6 (mCall gLen (mcons (mslot 1) mnil)))
noncomputable def t_shows_too_fast_8 : M Fl := (mIfS (mOr (mB (mOp2 (gEq true) (mval (mOp2 gIxS (mslot 3) (mval (pure (frv (.int 0)))))) (mval (pure (frv (.str "may")))))) (mOr (mB (mOp2 (gEq true) (mval (mCall gLen (mcons (mslot 3) mnil))) (mval (pure (frv (.int 2)))))) (mNot (mB (mCallF fd_is_tuple (mcons (mArgF (mfz (mOp2 gIxS (mslot 3) (mval (pure (frv (.int 1))))))) (mcons (mArgF (mfz (mget 6))) (mcons (mArgF (mfz (mget 6))) mnil)))))))) (mRet (pure (frv (.bool false)))) (pure .nx))
noncomputable def u_shows_too_fast_1 : M Fl := (mIfS (mNot (mB (mCallF fd_is_integer (mcons (mArgF (mfz (mget 8))) (mcons (mArgF (mfz (mOp2 gSub (mslot 7) (mslot 2)))) (mcons (mArgF (mfz (mOp2 gAdd (mslot 7) (mslot 2)))) mnil)))))) (mRet (pure (frv (.bool false)))) (pure .nx))
noncomputable def l_shows_too_fast_1 : M Fl := mFor (mZi2 (mIt (mfz (mget 1))) (mIt (mfz (mOp2 gIxS (mslot 3) (mval (pure (frv (.int 1)))))))) (tgTup 2 (tgCons (putS 7) (tgCons (putS 8) tgNil))) u_shows_too_fast_1
noncomputable def c_shows_too_fast_2 : M SV := mLc (mZi3 (mIt (mfz (mOp2 gIxS (mslot 3) (mval (pure (frv (.int 1))))))) (mIt (mfz (mSl (mval (mOp2 gIxS (mslot 3) (mval (pure (frv (.int 1)))))) (some (mval (pure (frv (.int 1))))) none))) (mIt (mfz (mget 0)))) [4, 5, 9] (tgTup 3 (tgCons (putS 4) (tgCons (putS 5) (tgCons (putS 9) tgNil)))) (pure true) (mfz (mOp2 gGe (mval (mOp2 gSub (mslot 5) (mslot 4))) (mslot 9)))
noncomputable def t_shows_too_fast_9 : M Fl := (mRet (mCall (gAllAny (·.all id)) (mcons (mval c_shows_too_fast_2) mnil)))
noncomputable def b_shows_too_fast : M Fl := (mSeq t_shows_too_fast_1
  (mSeq t_shows_too_fast_2
  (mSeq t_shows_too_fast_6
  (mSeq t_shows_too_fast_7
  (mSeq t_shows_too_fast_8
  (mSeq l_shows_too_fast_1
  t_shows_too_fast_9))))))
noncomputable def fd_shows_too_fast : FD := ⟨[false, false, false, false], runF [false, false, false, false] 10 b_shows_too_fast⟩
@[simp] theorem io_shows_too_fast : fd_shows_too_fast.io = [false, false, false, false] := by
  delta fd_shows_too_fast
  rfl
theorem g_shows_too_fast (ds : List PyData) : fd_shows_too_fast.g ds = Rf.of [false, false, false, false] (b_shows_too_fast (env0 [false, false, false, false] ds 10)) := by
  delta fd_shows_too_fast
  exact runF_e [false, false, false, false] 10 b_shows_too_fast ds
theorem ok_shows_too_fast (hB : Bu mg) (hG : Gc mg) (D : Dfn K mg "shows_too_fast" s_shows_too_fast ps_shows_too_fast) (h_check_seen : Cal P w K mg base 5 cl "check_seen" ps_check_seen fd_check_seen) (h_is_tuple : Cal P w K mg base 1 cl "is_tuple" ps_is_tuple fd_is_tuple) (h_is_integer : Cal P w K mg base 2 cl "is_integer" ps_is_integer fd_is_integer) (h_needed : Cal P w K mg base 1 cl "needed" ps_needed fd_needed) : Cal P w K mg base 6 cl "shows_too_fast" ps_shows_too_fast fd_shows_too_fast :=
  cal_of (N := ["least", "seen", "off", "value", "one", "other", "many", "time", "told", "some"]) (k := 5) (io := [false, false, false, false]) (fx := ioIx [false, false, false, false]) (body := b_shows_too_fast) D sc_shows_too_fast rfl (fun _ => mem_ioIx) fun f cdv A outer s H E hr => (qss_cons (qs_drop (qe_callC (h_check_seen.mono (by decide)) hr rfl hxD (qar_cons (qr_fz (qf_of (qe_var (pe_var (i := 0) rfl (.inr (.inl rfl)) (by decide) (by decide))))) (qar_cons (qr_fz (qf_of (qe_var (pe_var (i := 1) rfl (.inl rfl) (by decide) (by decide))))) (qar_cons (qr_fz (qf_of (qe_var (pe_var (i := 2) rfl (.inl rfl) (by decide) (by decide))))) qar_nil rfl) rfl) rfl) (by decide) rfl rfl) rfl)
    (qss_cons (qs_if (PW.pt (qw_or (qt_not (qt_val (qe_callC (h_is_tuple.mono (by decide)) hr rfl hxD (qar_cons (qr_fz (qf_of (qe_var (pe_var (i := 3) rfl (.inl rfl) (by decide) (by decide))))) (qar_cons (qr_fz (qf_of (qe_gintE rfl hG.c_PAIR (by decide)))) (qar_cons (qr_fz (qf_of (qe_gintE rfl hG.c_TRIPLE (by decide)))) qar_nil rfl) rfl) rfl) (by decide) rfl rfl) fun _ => rfl)) (qw_or1 (qt_not (qt_val (qe_isi rfl hB.b_isinstance rfl hB.b_str PyProof.Rows.boot_str (by decide) (by decide) (qo_val (ce_ix (qo_var (pe_var (i := 3) rfl (.inl rfl) (by decide) (by decide))) (qo_val qe_int) (fun _ _ => rfl))) rfl rfl rfl) fun _ => rfl))))) (qss_one (qs_ret qe_bl)) qss_nil)
    (qss_cons (qs_if (ct_cmp (cpEq hr) (qo_val (ce_ix (qo_var (pe_var (i := 3) rfl (.inl rfl) (by decide) (by decide))) (qo_val qe_int) (fun _ _ => rfl))) (qo_val (qe_gstrE rfl hG.c_SURELY (by decide))) (nomark _)) (qss_cons (qs_if (PW.pt (qw_or (ct_cmp (cpNe hr) (qo_val (ce_len rfl hB.b_len (qo_var (pe_var (i := 3) rfl (.inl rfl) (by decide) (by decide))) rfl)) (qo_val (qe_gintE rfl hG.c_TRIPLE (by decide))) (nomark _)) (qw_or1 (qt_not (qt_val (ce_all rfl rfl hB.b_all (qo_val (qe_lc (own := [("one", 4)]) rfl sc_shows_too_fast.nd (qi_seq (qf_of (qe_slice (qo_var (pe_var (i := 3) rfl (.inl rfl) (by decide) (by decide))) (.some (qo_val qe_int)) .none))) (blkOk_by (by kernel_rfl)) (fun _ _ _ _ _ => (qg_name (i := 4) sc_shows_too_fast.nd rfl (.inl rfl) (.inr rfl) (nbut (by decide)))) (fun _ _ _ _ _ => qts_nil) (fun _ _ _ _ _ => (qf_of (qe_callC0 (h_is_integer.mono (by decide)) hr rfl (qar_cons (qr_fz (qf_of (qe_var (pe_var (i := 4) rfl (.inl rfl) (by decide) (by decide))))) (qar_cons (qr_fz (qf_of qe_int)) (qar_cons (qr_fz (qf_of (ce_len rfl hB.b_len (qo_var (pe_var (i := 0) rfl (.inr (.inl  rfl)) (by decide) (by decide))) rfl))) qar_nil rfl) rfl) rfl) (by decide) rfl rfl))) (fun _ => rfl))) rfl) fun _ => rfl))))) (qss_one (qs_ret qe_bl)) qss_nil)
    (qss_cons (qs_asgT (qf_of (qe_slice (qo_var (pe_var (i := 3) rfl (.inl rfl) (by decide) (by decide))) (.some (qo_val qe_int)) .none)) (qg_tup rfl (qgs_cons (qg_name (i := 4) sc_shows_too_fast.nd rfl (.inl rfl) (.inl rfl) (by decide)) (qgs_cons (qg_name (i := 5) sc_shows_too_fast.nd rfl (.inl rfl) (.inl rfl) (by decide)) qgs_nil rfl) rfl) rfl rfl) (fun _ => noEx_tup (fun _ => noEx_cons (fun _ => noEx_put) (fun _ => noEx_cons (fun _ => noEx_put) (fun _ => noEx_nil)))) rfl rfl rfl)
    (qss_one (qs_ret (qe_and (ce_cmp (cpLt hr) (qo_var (pe_var (i := 4) rfl (.inl rfl) (by decide) (by decide))) (qo_var (pe_var (i := 5) rfl (.inl rfl) (by decide) (by decide))) (nomark _)) (qe_one (ce_cmp (cpGt hr) (qo_val (qe_callC (h_needed.mono (by decide)) hr rfl hxD (qar_cons (qr_fz (qf_of (qe_var (pe_var (i := 0) rfl (.inr (.inl rfl)) (by decide) (by decide))))) (qar_cons (qr_fz (qf_of (qe_var (pe_var (i := 4) rfl (.inl rfl) (by decide) (by decide))))) (qar_cons (qr_fz (qf_of (qe_var (pe_var (i := 5) rfl (.inl rfl) (by decide) (by decide))))) qar_nil rfl) rfl) rfl) (by decide) rfl rfl)) (qo_val (qe_add (qo_val (qe_sub (qo_val (ce_ix (qo_var (pe_var (i := 1) rfl (.inl rfl) (by decide) (by decide))) (qo_var (pe_var (i := 5) rfl (.inl rfl) (by decide) (by decide))) (fun _ _ => rfl))) (qo_val (ce_ix (qo_var (pe_var (i := 1) rfl (.inl rfl) (by decide) (by decide))) (qo_var (pe_var (i := 4) rfl (.inl rfl) (by decide) (by decide))) (fun _ _ => rfl))))) (qo_val (qe_mul (qo_val (qe_gintE rfl hG.c_PAIR (by decide))) (qo_var (pe_var (i := 2) rfl (.inl rfl) (by decide) (by decide))))))) (nomark _)))))))) qss_nil)
    (qss_cons (qs_set (i := 6) sc_shows_too_fast.nd rfl (.inl rfl) (.inl rfl) (by decide) (ce_len rfl hB.b_len (qo_var (pe_var (i := 1) rfl (.inl rfl) (by decide) (by decide))) rfl) rfl rfl)
    (qss_cons (qs_if (PW.pt (qw_or (ct_cmp (cpNe hr) (qo_val (ce_ix (qo_var (pe_var (i := 3) rfl (.inl rfl) (by decide) (by decide))) (qo_val qe_int) (fun _ _ => rfl))) (qo_val (qe_gstrE rfl hG.c_MAY (by decide))) (nomark _)) (qw_or (ct_cmp (cpNe hr) (qo_val (ce_len rfl hB.b_len (qo_var (pe_var (i := 3) rfl (.inl rfl) (by decide) (by decide))) rfl)) (qo_val (qe_gintE rfl hG.c_PAIR (by decide))) (nomark _)) (qw_or1 (qt_not (qt_val (qe_callC (h_is_tuple.mono (by decide)) hr rfl hxD (qar_cons (qr_fz (qf_of (ce_ix (qo_var (pe_var (i := 3) rfl (.inl rfl) (by decide) (by decide))) (qo_val qe_int) (fun _ _ => rfl)))) (qar_cons (qr_fz (qf_of (qe_var (pe_var (i := 6) rfl (.inl rfl) (by decide) (by decide))))) (qar_cons (qr_fz (qf_of (qe_var (pe_var (i := 6) rfl (.inl rfl) (by decide) (by decide))))) qar_nil rfl) rfl) rfl) (by decide) rfl rfl) fun _ => rfl)))))) (qss_one (qs_ret qe_bl)) qss_nil)
    (qss_cons (qs_for hpD rfl (qi_zip2 rfl hB.b_zip (qsr_seq (qf_of (qe_var (pe_var (i := 1) rfl (.inl rfl) (by decide) (by decide))))) (qsr_seq (qf_of (ce_ix (qo_var (pe_var (i := 3) rfl (.inl rfl) (by decide) (by decide))) (qo_val qe_int) (fun _ _ => rfl)))) rfl rfl rfl) (qg_tup rfl (qgs_cons (qg_name (i := 7) sc_shows_too_fast.nd rfl (.inl rfl) (.inl rfl) (by decide)) (qgs_cons (qg_name (i := 8) sc_shows_too_fast.nd rfl (.inl rfl) (.inl rfl) (by decide)) qgs_nil rfl) rfl) rfl rfl) (fun _ => noEx_tup (fun _ => noEx_cons (fun _ => noEx_put) (fun _ => noEx_cons (fun _ => noEx_put) (fun _ => noEx_nil)))) (qss_one (qs_if (qt_not (qt_val (qe_callC (h_is_integer.mono (by decide)) hr rfl hxD (qar_cons (qr_fz (qf_of (qe_var (pe_var (i := 8) rfl (.inl rfl) (by decide) (by decide))))) (qar_cons (qr_fz (qf_of (qe_sub (qo_var (pe_var (i := 7) rfl (.inl rfl) (by decide) (by decide))) (qo_var (pe_var (i := 2) rfl (.inl rfl) (by decide) (by decide)))))) (qar_cons (qr_fz (qf_of (qe_add (qo_var (pe_var (i := 7) rfl (.inl rfl) (by decide) (by decide))) (qo_var (pe_var (i := 2) rfl (.inl rfl) (by decide) (by decide)))))) qar_nil rfl) rfl) rfl) (by decide) rfl rfl) fun _ => rfl)) (qss_one (qs_ret qe_bl)) qss_nil)) (fun _ => rfl))
    (qss_one (qs_ret (ce_all rfl rfl hB.b_all (qo_val (qe_lc (own := [("one", 4), ("other", 5), ("some", 9)]) rfl sc_shows_too_fast.nd (qi_zip3 rfl hB.b_zip (qsr_seq (qf_of (ce_ix (qo_var (pe_var (i := 3) rfl (.inl rfl) (by decide) (by decide))) (qo_val qe_int) (fun _ _ => rfl)))) (qsr_seq (qf_of (qe_slice (qo_val (ce_ix (qo_var (pe_var (i := 3) rfl (.inl rfl) (by decide) (by decide))) (qo_val qe_int) (fun _ _ => rfl))) (.some (qo_val qe_int)) .none))) (qsr_seq (qf_of (qe_var (pe_var (i := 0) rfl (.inr (.inl rfl)) (by decide) (by decide))))) rfl rfl rfl rfl) (blkOk_by (by kernel_rfl)) (fun _ _ _ _ _ => (qg_tup rfl (qgs_cons (qg_name (i := 4) sc_shows_too_fast.nd rfl (.inl rfl) (.inr rfl) (nbut (by decide))) (qgs_cons (qg_name (i := 5) sc_shows_too_fast.nd rfl (.inl rfl) (.inr rfl) (nbut (by decide))) (qgs_cons (qg_name (i := 9) sc_shows_too_fast.nd rfl (.inl rfl) (.inr rfl) (nbut (by decide))) qgs_nil rfl) rfl) rfl) rfl rfl)) (fun _ _ _ _ _ => qts_nil) (fun _ _ _ _ _ => (qf_of (ce_cmp (cpGe hr) (qo_val (qe_sub (qo_var (pe_var (i := 5) rfl (.inl rfl) (by decide) (by decide))) (qo_var (pe_var (i := 4) rfl (.inl rfl) (by decide) (by decide))))) (qo_var (pe_var (i := 9) rfl (.inl rfl) (by decide) (by decide))) (nomark _)))) (fun _ => rfl))) rfl)))))))))

abbrev s__law_is_time_right : Stmt := topS 44
abbrev ps__law_is_time_right : List Str := ["pot", "least", "seen"]
theorem sc__law_is_time_right : FnScope ["pot", "least", "seen", "rooms", "need", "off", "told", "due", "at", "one", "late", "other", "is_so", "time", "its"] ps__law_is_time_right (defScope s__law_is_time_right) := ⟨rfl, rfl, rfl, by decide +kernel, rfl, by decide +kernel, by decide +kernel⟩
noncomputable def t__law_is_time_right_1 : M Fl := (mSetS 3 (mCallF fd__law_rooms (mcons (mArgF (mfz (mget 1))) (mcons (mArgF (mfz (mLst (mcons (mfz (mget 2)) mnil)))) mnil))))
noncomputable def t__law_is_time_right_2 : M Fl := (mSetS 4 (mCallF fd__law_half (mcons (mArgF (mfz (mCallF fd__law_lack (mcons (mArgF (mfz (mget 3))) mnil)))) mnil)))
noncomputable def t__law_is_time_right_3 : M Fl := (mIfS (mB (mOp2 (gEq true) (mval (mCallF fd_least_off (mcons (mArgF (mfz (mget 1))) (mcons (mArgF (mfz (mget 2))) mnil)))) (mslot 4))) (mRet (pure (frv (.bool false)))) (pure .nx))
noncomputable def t__law_is_time_right_4 : M Fl := (mSetS 6 (mCallF fd_too_fast (mcons (mArgF (mfz (mget 1))) (mcons (mArgF (mfz (mget 2))) (mcons (mArgF (mfz (mget 5))) mnil)))))
noncomputable def t__law_is_time_right_5 : M Fl := (mIfS (mOr (mB (mOp2 (gEq true) (mval (mOp2 (gEq false) (mval (mOp2 gIxS (mslot 6) (mval (pure (frv (.int 0)))))) (mval (pure (frv (.str "may")))))) (mval (mOp2 gGe (mslot 5) (mslot 4))))) (mB (mOp2 (gIs true) (mval (mCallF fd_shows_too_fast (mcons (mArgF (mfz (mget 1))) (mcons (mArgF (mfz (mget 2))) (mcons (mArgF (mfz (mget 5))) (mcons (mArgF (mfz (mget 6))) mnil)))))) (mval (pure (frv (.bool true))))))) (mRet (pure (frv (.bool false)))) (pure .nx))
noncomputable def t__law_is_time_right_6 : M Fl := (mSetS 7 (mLst (mcons (mfz (mOp2 gSub (mval (mOp2 gIxS (mslot 2) (mval (pure (frv (.int 0)))))) (mslot 5))) mnil)))
noncomputable def u__law_is_time_right_1 : M Fl := (mAppend 7 (mfz (mCall (gI2 fun i j => if j > i then j else i) (mcons (mval (mOp2 gSub (mval (mOp2 gIxS (mslot 2) (mval (mOp2 gAdd (mslot 8) (mval (pure (frv (.int 1)))))))) (mslot 5))) (mcons (mval (mOp2 gAdd (mval (mOp2 gIxS (mslot 7) (mval (mOp1 gNeg (mval (pure (frv (.int 1)))))))) (mslot 9))) mnil)))))
noncomputable def l__law_is_time_right_1 : M Fl := mFor (mEn (mIt (mfz (mget 1)))) (tgTup 2 (tgCons (putS 8) (tgCons (putS 9) tgNil))) u__law_is_time_right_1
noncomputable def t__law_is_time_right_7 : M Fl := (mIfS (mB (mOp2 (gEq true) (mval (mOp2 gIxS (mslot 6) (mval (pure (frv (.int 1)))))) (mval (mCall gTupleOf (mcons (mslot 7) mnil))))) (mRet (pure (frv (.bool false)))) (pure .nx))
noncomputable def c__law_is_time_right_1 : M SV := mLc (mIt (mfz (mget 7))) [13] (putS 13) (pure true) (mfz (mOp2 gAdd (mslot 13) (mval (pure (frv (.int 1))))))
noncomputable def t__law_is_time_right_8 : M Fl := (mSetS 10 (mCall gTupleOf (mcons (mval c__law_is_time_right_1) mnil)))
noncomputable def c__law_is_time_right_2 : M SV := mLc (mIt (mfz (mListZip (mIt (mfz (mget 10))) (mIt (mfz (mget 2)))))) [13, 14] (tgTup 2 (tgCons (putS 13) (tgCons (putS 14) tgNil))) (pure true) (mfz (mOp2 gLe (mval (mCall gAbs (mcons (mval (mOp2 gSub (mslot 13) (mslot 14))) mnil))) (mslot 5)))
noncomputable def t__law_is_time_right_9 : M Fl := (mIfS (mB (mOp2 (gEq true) (mval (mCallF fd_shows_too_fast (mcons (mArgF (mfz (mget 1))) (mcons (mArgF (mfz (mget 2))) (mcons (mArgF (mfz (mget 5))) (mcons (mArgF (mfz (mTup (mcons (mfz (pure (frv (.str "may")))) (mcons (mfz (mget 10)) mnil))))) mnil)))))) (mval (mCall (gAllAny (·.all id)) (mcons (mval c__law_is_time_right_2) mnil))))) (mRet (pure (frv (.bool false)))) (pure .nx))
noncomputable def t__law_is_time_right_10 : M Fl := (mIfS (mB (mOp2 (gEq false) (mval (mOp2 gIxS (mslot 6) (mval (pure (frv (.int 0)))))) (mval (pure (frv (.str "may")))))) (mSeq t__law_is_time_right_6
  (mSeq l__law_is_time_right_1
  (mSeq t__law_is_time_right_7
  (mSeq t__law_is_time_right_8
  t__law_is_time_right_9)))) (pure .nx))
noncomputable def t__law_is_time_right_11 : M Fl := (mSetS 12 (mAndV (mOp2 gLt (mslot 9) (mslot 11)) (mOp2 gLt (mval (mOp2 gAdd (mval (mOp2 gSub (mval (mOp2 gIxS (mslot 2) (mslot 11))) (mval (mOp2 gIxS (mslot 2) (mslot 9))))) (mval (mOp2 gMul (mval (pure (frv (.int 2)))) (mslot 5))))) (mval (mCall gSum (mcons (mval (mSl (mslot 1) (some (mslot 9)) (some (mslot 11)))) mnil))))))
noncomputable def t__law_is_time_right_12 : M Fl := (mIfS (mB (mOp2 (gEq true) (mval (mCallF fd_shows_too_fast (mcons (mArgF (mfz (mget 1))) (mcons (mArgF (mfz (mget 2))) (mcons (mArgF (mfz (mget 5))) (mcons (mArgF (mfz (mTup (mcons (mfz (pure (frv (.str "surely")))) (mcons (mfz (mCall gInt1 (mcons (mslot 9) mnil))) (mcons (mfz (mCall gInt1 (mcons (mslot 11) mnil))) mnil)))))) mnil)))))) (mslot 12))) (mRet (pure (frv (.bool false)))) (pure .nx))
noncomputable def u__law_is_time_right_2 : M Fl := (mSeq t__law_is_time_right_11
  t__law_is_time_right_12)
noncomputable def l__law_is_time_right_2 : M Fl := mFor (mRg rg1 (mcons (mval (mCall gLen (mcons (mslot 2) mnil))) mnil)) (putS 11) u__law_is_time_right_2
noncomputable def u__law_is_time_right_3 : M Fl := l__law_is_time_right_2
noncomputable def l__law_is_time_right_3 : M Fl := mFor (mRg rg1 (mcons (mval (mCall gLen (mcons (mslot 2) mnil))) mnil)) (putS 9) u__law_is_time_right_3
noncomputable def u__law_is_time_right_4 : M Fl := (mSeq t__law_is_time_right_4
  (mSeq t__law_is_time_right_5
  (mSeq t__law_is_time_right_10
  l__law_is_time_right_3)))
noncomputable def l__law_is_time_right_4 : M Fl := mFor (mIt (mfz (mTup (mcons (mfz (pure (frv (.int 0)))) (mcons (mfz (mCall (gI2 fun i j => if j > i then j else i) (mcons (mval (pure (frv (.int 0)))) (mcons (mval (mOp2 gSub (mslot 4) (mval (pure (frv (.int 1)))))) mnil)))) (mcons (mfz (mget 4)) (mcons (mfz (mCall (gI2 fun i j => if j < i then j else i) (mcons (mval (pure (frv (.int 1000)))) (mcons (mval (mOp2 gAdd (mslot 4) (mval (mCall gInt1 (mcons (mval (mCallF fd__law_take (mcons (mArgI 0) (mcons (mArgF (mfz (pure (frv (.int 5))))) mnil)))) mnil))))) mnil)))) mnil))))))) (putS 5) u__law_is_time_right_4
noncomputable def t__law_is_time_right_13 : M Fl := (mRet (mCallF fd__law_are_others_right (mcons (mArgI 0) (mcons (mArgF (mfz (mget 1))) (mcons (mArgF (mfz (mget 2))) (mcons (mArgF (mfz (mget 4))) mnil))))))
noncomputable def b__law_is_time_right : M Fl := (mSeq t__law_is_time_right_1
  (mSeq t__law_is_time_right_2
  (mSeq t__law_is_time_right_3
  (mSeq l__law_is_time_right_4
  t__law_is_time_right_13))))
noncomputable def fd__law_is_time_right : FD := ⟨[true, false, false], runF [true, false, false] 15 b__law_is_time_right⟩
@[simp] theorem io__law_is_time_right : fd__law_is_time_right.io = [true, false, false] := by
  delta fd__law_is_time_right
  rfl
theorem g__law_is_time_right (ds : List PyData) : fd__law_is_time_right.g ds = Rf.of [true, false, false] (b__law_is_time_right (env0 [true, false, false] ds 15)) := by
  delta fd__law_is_time_right
  exact runF_e [true, false, false] 15 b__law_is_time_right ds
theorem ok__law_is_time_right (hB : Bu mg) (hG : Gc mg) (D : Dfn K mg "_law_is_time_right" s__law_is_time_right ps__law_is_time_right) (h__law_rooms : Cal P w K mg base 1 cl "_law_rooms" ps__law_rooms fd__law_rooms) (h__law_half : Cal P w K mg base 1 cl "_law_half" ps__law_half fd__law_half) (h__law_lack : Cal P w K mg base 1 cl "_law_lack" ps__law_lack fd__law_lack) (h_least_off : Cal P w K mg base 6 cl "least_off" ps_least_off fd_least_off) (h__law_take : Cal P w K mg base 1 cl "_law_take" ps__law_take fd__law_take) (h_too_fast : Cal P w K mg base 6 cl "too_fast" ps_too_fast fd_too_fast) (h_shows_too_fast : Cal P w K mg base 6 cl "shows_too_fast" ps_shows_too_fast fd_shows_too_fast) (h__law_are_others_right : Cal P w K mg base 7 cl "_law_are_others_right" ps__law_are_others_right fd__law_are_others_right) : Cal P w K mg base 8 cl "_law_is_time_right" ps__law_is_time_right fd__law_is_time_right :=
  cal_of (N := ["pot", "least", "seen", "rooms", "need", "off", "told", "due", "at", "one", "late", "other", "is_so", "time", "its"]) (k := 7) (io := [true, false, false]) (fx := ioIx [true, false, false]) (body := b__law_is_time_right) D sc__law_is_time_right rfl (fun _ => mem_ioIx) fun f cdv A outer s H E hr => (qss_cons (qs_set (i := 3) sc__law_is_time_right.nd rfl (.inl rfl) (.inl rfl) (by decide) (qe_callC (h__law_rooms.mono (by decide)) hr rfl hxD (qar_cons (qr_fz (qf_of (qe_var (pe_var (i := 1) rfl (.inl rfl) (by decide) (by decide))))) (qar_cons (qr_fz (qf_of (qe_lst (qaf_cons (qf_of (qe_var (pe_var (i := 2) rfl (.inl rfl) (by decide) (by decide)))) qaf_nil rfl)))) qar_nil rfl) rfl) (by decide) rfl rfl) rfl rfl)
    (qss_cons (qs_set (i := 4) sc__law_is_time_right.nd rfl (.inl rfl) (.inl rfl) (by decide) (qe_callC (h__law_half.mono (by decide)) hr rfl hxD (qar_cons (qr_fz (qf_of (qe_callC (h__law_lack.mono (by decide)) hr rfl hxD (qar_cons (qr_fz (qf_of (qe_var (pe_var (i := 3) rfl (.inl rfl) (by decide) (by decide))))) qar_nil rfl) (by decide) rfl rfl))) qar_nil rfl) (by decide) rfl rfl) rfl rfl)
    (qss_cons (qs_if (ct_cmp (cpNe hr) (qo_val (qe_callC (h_least_off.mono (by decide)) hr rfl hxD (qar_cons (qr_fz (qf_of (qe_var (pe_var (i := 1) rfl (.inl rfl) (by decide) (by decide))))) (qar_cons (qr_fz (qf_of (qe_var (pe_var (i := 2) rfl (.inl rfl) (by decide) (by decide))))) qar_nil rfl) rfl) (by decide) rfl rfl)) (qo_var (pe_var (i := 4) rfl (.inl rfl) (by decide) (by decide))) (nomark _)) (qss_one (qs_ret qe_bl)) qss_nil)
    (qss_cons (qs_for hpD rfl (qi_seq (qf_of (qe_tup (qaf_cons (qf_of qe_int) (qaf_cons (qf_of (ce_max2 rfl rfl hB.b_max (qo_val qe_int) (qo_val (qe_sub (qo_var (pe_var (i := 4) rfl (.inl rfl) (by decide) (by decide))) (qo_val qe_int))) rfl rfl rfl)) (qaf_cons (qf_of (qe_var (pe_var (i := 4) rfl (.inl rfl) (by decide) (by decide)))) (qaf_cons (qf_of (ce_min2 rfl rfl hB.b_min (qo_val qe_int) (qo_val (qe_add (qo_var (pe_var (i := 4) rfl (.inl rfl) (by decide) (by decide))) (qo_val (ce_int rfl hB.b_int (qo_val (qe_callC (h__law_take.mono (by decide)) hr rfl hxD (qar_cons (qr_io (pe_var (i := 0) rfl (.inl rfl) (by decide) (by decide))) (qar_cons (qr_fz (qf_of qe_int)) qar_nil rfl) rfl) (by decide) rfl rfl)) rfl)))) rfl rfl rfl)) qaf_nil rfl) rfl) rfl) rfl)))) (qg_name (i := 5) sc__law_is_time_right.nd rfl (.inr rfl) (.inl rfl) (by decide)) (fun _ => noEx_put) (qss_cons (qs_set (i := 6) sc__law_is_time_right.nd rfl (.inl rfl) (.inl rfl) (by decide) (qe_callC (h_too_fast.mono (by decide)) hr rfl hxD (qar_cons (qr_fz (qf_of (qe_var (pe_var (i := 1) rfl (.inl rfl) (by decide) (by decide))))) (qar_cons (qr_fz (qf_of (qe_var (pe_var (i := 2) rfl (.inl rfl) (by decide) (by decide))))) (qar_cons (qr_fz (qf_of (qe_var (pe_var (i := 5) rfl (.inr (.inl rfl)) (by decide) (by decide))))) qar_nil rfl) rfl) rfl) (by decide) rfl rfl) rfl rfl)
    (qss_cons (qs_if (PW.pt (qw_or (ct_cmp (cpNe hr) (qo_val (ce_cmp (cpEq hr) (qo_val (ce_ix (qo_var (pe_var (i := 6) rfl (.inl rfl) (by decide) (by decide))) (qo_val qe_int) (fun _ _ => rfl))) (qo_val qe_str) (nomark _))) (qo_val (ce_cmp (cpGe hr) (qo_var (pe_var (i := 5) rfl (.inr (.inl rfl)) (by decide) (by decide))) (qo_var (pe_var (i := 4) rfl (.inl rfl) (by decide) (by decide))) (nomark _))) (nomark _)) (qw_or1 (ct_cmp (cpIsNot hr) (qo_val (qe_callC (h_shows_too_fast.mono (by decide)) hr rfl hxD (qar_cons (qr_fz (qf_of (qe_var (pe_var (i := 1) rfl (.inl rfl) (by decide) (by decide))))) (qar_cons (qr_fz (qf_of (qe_var (pe_var (i := 2) rfl (.inl rfl) (by decide) (by decide))))) (qar_cons (qr_fz (qf_of (qe_var (pe_var (i := 5) rfl (.inr (.inl rfl)) (by decide) (by decide))))) (qar_cons (qr_fz (qf_of (qe_var (pe_var (i := 6) rfl (.inl rfl) (by decide) (by decide))))) qar_nil rfl) rfl) rfl) rfl) (by decide) rfl rfl)) (qo_val qe_bl) (nomark _))))) (qss_one (qs_ret qe_bl)) qss_nil)
    (qss_cons (qs_if (ct_cmp (cpEq hr) (qo_val (ce_ix (qo_var (pe_var (i := 6) rfl (.inl rfl) (by decide) (by decide))) (qo_val qe_int) (fun _ _ => rfl))) (qo_val qe_str) (nomark _)) (qss_cons (qs_set (i := 7) sc__law_is_time_right.nd rfl (.inl rfl) (.inl rfl) (by decide) (qe_lst (qaf_cons (qf_of (qe_sub (qo_val (ce_ix (qo_var (pe_var (i := 2) rfl (.inl rfl) (by decide) (by decide))) (qo_val qe_int) (fun _ _ => rfl))) (qo_var (pe_var (i := 5) rfl (.inr (.inl rfl)) (by decide) (by decide))))) qaf_nil rfl)) rfl rfl)
    (qss_cons (qs_for hpD rfl (qi_enum rfl hB.b_enumerate (qsr_seq (qf_of (qe_var (pe_var (i := 1) rfl (.inl rfl) (by decide) (by decide))))) rfl) (qg_tup rfl (qgs_cons (qg_name (i := 8) sc__law_is_time_right.nd rfl (.inl rfl) (.inl rfl) (by decide)) (qgs_cons (qg_name (i := 9) sc__law_is_time_right.nd rfl (.inl rfl) (.inl rfl) (by decide)) qgs_nil rfl) rfl) rfl rfl) (fun _ => noEx_tup (fun _ => noEx_cons (fun _ => noEx_put) (fun _ => noEx_cons (fun _ => noEx_put) (fun _ => noEx_nil)))) (qss_one (qs_append (pe_var (i := 7) rfl (.inl rfl) (by decide) (by decide)) (qf_of (ce_max2 rfl rfl hB.b_max (qo_val (qe_sub (qo_val (ce_ix (qo_var (pe_var (i := 2) rfl (.inl rfl) (by decide) (by decide))) (qo_val (qe_add (qo_var (pe_var (i := 8) rfl (.inl rfl) (by decide) (by decide))) (qo_val qe_int))) (fun _ _ => rfl))) (qo_var (pe_var (i := 5) rfl (.inr (.inl rfl)) (by decide) (by decide))))) (qo_val (qe_add (qo_val (ce_ix (qo_var (pe_var (i := 7) rfl (.inl rfl) (by decide) (by decide))) (qo_val (qe_neg (qo_val qe_int))) (fun _ _ => rfl))) (qo_var (pe_var (i := 9) rfl (.inl rfl) (by decide) (by decide))))) rfl rfl rfl)) rfl rfl rfl rfl rfl rfl)) (fun _ => rfl))
    (qss_cons (qs_if (ct_cmp (cpNe hr) (qo_val (ce_ix (qo_var (pe_var (i := 6) rfl (.inl rfl) (by decide) (by decide))) (qo_val qe_int) (fun _ _ => rfl))) (qo_val (ce_tuple rfl hB.b_tuple (qo_var (pe_var (i := 7) rfl (.inl rfl) (by decide) (by decide))) rfl)) (nomark _)) (qss_one (qs_ret qe_bl)) qss_nil)
    (qss_cons (qs_set (i := 10) sc__law_is_time_right.nd rfl (.inl rfl) (.inl rfl) (by decide) (ce_tuple rfl hB.b_tuple (qo_val (qe_lc (own := [("time", 13)]) rfl sc__law_is_time_right.nd (qi_seq (qf_of (qe_var (pe_var (i := 7) rfl (.inl rfl) (by decide) (by decide))))) (blkOk_by (by kernel_rfl)) (fun _ _ _ _ _ => (qg_name (i := 13) sc__law_is_time_right.nd rfl (.inl rfl) (.inr rfl) (nbut (by decide)))) (fun _ _ _ _ _ => qts_nil) (fun _ _ _ _ _ => (qf_of (qe_add (qo_var (pe_var (i := 13) rfl (.inl rfl) (by decide) (by decide))) (qo_val qe_int)))) (fun _ => rfl))) rfl) rfl rfl)
    (qss_one (qs_if (ct_cmp (cpNe hr) (qo_val (qe_callC (h_shows_too_fast.mono (by decide)) hr rfl hxD (qar_cons (qr_fz (qf_of (qe_var (pe_var (i := 1) rfl (.inl rfl) (by decide) (by decide))))) (qar_cons (qr_fz (qf_of (qe_var (pe_var (i := 2) rfl (.inl rfl) (by decide) (by decide))))) (qar_cons (qr_fz (qf_of (qe_var (pe_var (i := 5) rfl (.inr (.inl rfl)) (by decide) (by decide))))) (qar_cons (qr_fz (qf_of (qe_tup (qaf_cons (qf_of qe_str) (qaf_cons (qf_of (qe_var (pe_var (i := 10) rfl (.inl rfl) (by decide) (by decide)))) qaf_nil rfl) rfl)))) qar_nil rfl) rfl) rfl) rfl) (by decide) rfl rfl)) (qo_val (ce_all rfl rfl hB.b_all (qo_val (qe_lc (own := [("time", 13), ("its", 14)]) rfl sc__law_is_time_right.nd (qi_seq (qf_of (qe_listZip rfl rfl hB.b_list rfl hB.b_zip (qsr_seq (qf_of (qe_var (pe_var (i := 10) rfl (.inl rfl) (by decide) (by decide))))) (qsr_seq (qf_of (qe_var (pe_var (i := 2) rfl (.inl rfl) (by decide) (by decide))))) rfl rfl rfl rfl))) (blkOk_by (by kernel_rfl)) (fun _ _ _ _ _ => (qg_tup rfl (qgs_cons (qg_name (i := 13) sc__law_is_time_right.nd rfl (.inl rfl) (.inr rfl) (nbut (by decide))) (qgs_cons (qg_name (i := 14) sc__law_is_time_right.nd rfl (.inl rfl) (.inr rfl) (nbut (by decide))) qgs_nil rfl) rfl) rfl rfl)) (fun _ _ _ _ _ => qts_nil) (fun _ _ _ _ _ => (qf_of (ce_cmp (cpLe hr) (qo_val (ce_abs rfl hB.b_abs (qo_val (qe_sub (qo_var (pe_var (i := 13) rfl (.inl rfl) (by decide) (by decide))) (qo_var (pe_var (i := 14) rfl (.inl rfl) (by decide) (by decide))))) rfl)) (qo_var (pe_var (i := 5) rfl (.inr (.inl  rfl)) (by decide) (by decide))) (nomark _)))) (fun _ => rfl))) rfl)) (nomark _)) (qss_one (qs_ret qe_bl)) qss_nil)))))) qss_nil)
    (qss_one (qs_for hpD rfl (qi_range1 rfl hB.b_range (pa1 (qo_val (ce_len rfl hB.b_len (qo_var (pe_var (i := 2) rfl (.inl rfl) (by decide) (by decide))) rfl)) rfl) rfl) (qg_name (i := 9) sc__law_is_time_right.nd rfl (.inl rfl) (.inl rfl) (by decide)) (fun _ => noEx_put) (qss_one (qs_for hpD rfl (qi_range1 rfl hB.b_range (pa1 (qo_val (ce_len rfl hB.b_len (qo_var (pe_var (i := 2) rfl (.inl rfl) (by decide) (by decide))) rfl)) rfl) rfl) (qg_name (i := 11) sc__law_is_time_right.nd rfl (.inl rfl) (.inl rfl) (by decide)) (fun _ => noEx_put) (qss_cons (qs_set (i := 12) sc__law_is_time_right.nd rfl (.inl rfl) (.inl rfl) (by decide) (qe_and (ce_cmp (cpLt hr) (qo_var (pe_var (i := 9) rfl (.inl rfl) (by decide) (by decide))) (qo_var (pe_var (i := 11) rfl (.inl rfl) (by decide) (by decide))) (nomark _)) (qe_one (ce_cmp (cpLt hr) (qo_val (qe_add (qo_val (qe_sub (qo_val (ce_ix (qo_var (pe_var (i := 2) rfl (.inl rfl) (by decide) (by decide))) (qo_var (pe_var (i := 11) rfl (.inl rfl) (by decide) (by decide))) (fun _ _ => rfl))) (qo_val (ce_ix (qo_var (pe_var (i := 2) rfl (.inl rfl) (by decide) (by decide))) (qo_var (pe_var (i := 9) rfl (.inl rfl) (by decide) (by decide))) (fun _ _ => rfl))))) (qo_val (qe_mul (qo_val qe_int) (qo_var (pe_var (i := 5) rfl (.inr (.inl rfl)) (by decide) (by decide))))))) (qo_val (ce_sum rfl rfl hB.b_sum (qo_val (qe_slice (qo_var (pe_var (i := 1) rfl (.inl rfl) (by decide) (by decide))) (.some (qo_var (pe_var (i := 9) rfl (.inl rfl) (by decide) (by decide)))) (.some (qo_var (pe_var (i := 11) rfl (.inl rfl) (by decide) (by decide)))))) rfl)) (nomark _)))) rfl rfl)
    (qss_one (qs_if (ct_cmp (cpNe hr) (qo_val (qe_callC (h_shows_too_fast.mono (by decide)) hr rfl hxD (qar_cons (qr_fz (qf_of (qe_var (pe_var (i := 1) rfl (.inl rfl) (by decide) (by decide))))) (qar_cons (qr_fz (qf_of (qe_var (pe_var (i := 2) rfl (.inl rfl) (by decide) (by decide))))) (qar_cons (qr_fz (qf_of (qe_var (pe_var (i := 5) rfl (.inr (.inl rfl)) (by decide) (by decide))))) (qar_cons (qr_fz (qf_of (qe_tup (qaf_cons (qf_of qe_str) (qaf_cons (qf_of (ce_int rfl hB.b_int (qo_var (pe_var (i := 9) rfl (.inl rfl) (by decide) (by decide))) rfl)) (qaf_cons (qf_of (ce_int rfl hB.b_int (qo_var (pe_var (i := 11) rfl (.inl rfl) (by decide) (by decide))) rfl)) qaf_nil rfl) rfl) rfl)))) qar_nil rfl) rfl) rfl) rfl) (by decide) rfl rfl)) (qo_var (pe_var (i := 12) rfl (.inl rfl) (by decide) (by decide))) (nomark _)) (qss_one (qs_ret qe_bl)) qss_nil))) (fun _ => rfl))) (fun _ => rfl)))))) (fun _ => rfl))
    (qss_one (qs_ret (qe_callC (h__law_are_others_right.mono (by decide)) hr rfl hxD (qar_cons (qr_io (pe_var (i := 0) rfl (.inl rfl) (by decide) (by decide))) (qar_cons (qr_fz (qf_of (qe_var (pe_var (i := 1) rfl (.inl rfl) (by decide) (by decide))))) (qar_cons (qr_fz (qf_of (qe_var (pe_var (i := 2) rfl (.inl rfl) (by decide) (by decide))))) (qar_cons (qr_fz (qf_of (qe_var (pe_var (i := 4) rfl (.inl rfl) (by decide) (by decide))))) qar_nil rfl) rfl) rfl) rfl) (by decide) rfl rfl)))))))

abbrev s_shows_clocks : Stmt := topS 29
abbrev ps_shows_clocks : List Str := ["least", "rows", "off", "value"]
theorem sc_shows_clocks : FnScope ["least", "rows", "off", "value", "many", "slack", "one", "other", "cars", "total", "at", "car", "row"] ps_shows_clocks (defScope s_shows_clocks) := ⟨rfl, rfl, rfl, by decide +kernel, rfl, by decide +kernel, by decide +kernel⟩
noncomputable def t_shows_clocks_1 : M Fl := (mDrop (mCallF fd_check_rows (mcons (mArgF (mfz (mget 0))) (mcons (mArgF (mfz (mget 1))) (mcons (mArgF (mfz (mget 2))) mnil)))))
noncomputable def t_shows_clocks_2 : M Fl := (mIfS (mOr (mNot (mB (mCallF fd_is_tuple (mcons (mArgF (mfz (mget 3))) (mcons (mArgF (mfz (pure (frv (.int 2))))) (mcons (mArgF (mfz (pure (frv (.int 4))))) mnil)))))) (mNot (mB (mOp1 (isiD "str") (mval (mOp2 gIxS (mslot 3) (mval (pure (frv (.int 0)))))))))) (mRet (pure (frv (.bool false)))) (pure .nx))
noncomputable def t_shows_clocks_3 : M Fl := (mSetS 4 (mOp2 gAdd (mval (mCall gLen (mcons (mslot 0) mnil))) (mval (pure (frv (.int 1))))))
noncomputable def t_shows_clocks_4 : M Fl := (mIfS (mOr (mB (mOp2 (gEq true) (mval (mCall gLen (mcons (mslot 3) mnil))) (mval (pure (frv (.int 2)))))) (mNot (mB (mCallF fd_is_tuple (mcons (mArgF (mfz (mOp2 gIxS (mslot 3) (mval (pure (frv (.int 1))))))) (mcons (mArgF (mfz (mget 4))) (mcons (mArgF (mfz (mget 4))) mnil))))))) (mRet (pure (frv (.bool false)))) (pure .nx))
noncomputable def c_shows_clocks_1 : M SV := mLc (mIt (mfz (mOp2 gIxS (mslot 3) (mval (pure (frv (.int 1))))))) [6] (putS 6) (pure true) (mfz (mCallF fd_is_integer (mcons (mArgF (mfz (mget 6))) (mcons (mArgF (mfz (mOp1 gNeg (mslot 2)))) (mcons (mArgF (mfz (mget 2))) mnil)))))
noncomputable def t_shows_clocks_5 : M Fl := (mIfS (mNot (mB (mCall (gAllAny (·.all id)) (mcons (mval c_shows_clocks_1) mnil)))) (mRet (pure (frv (.bool false)))) (pure .nx))
noncomputable def t_shows_clocks_6 : M Fl := (mSetS 5 (mCallF fd_slack_of (mcons (mArgF (mfz (mget 0))) (mcons (mArgF (mfz (mget 1))) mnil))))
noncomputable def c_shows_clocks_2 : M SV := mLc (mZi3 (mIt (mfz (mOp2 gIxS (mslot 3) (mval (pure (frv (.int 1))))))) (mIt (mfz (mSl (mval (mOp2 gIxS (mslot 3) (mval (pure (frv (.int 1)))))) (some (mval (pure (frv (.int 1))))) none))) (mIt (mfz (mget 5)))) [6, 7, 12] (tgTup 3 (tgCons (putS 6) (tgCons (putS 7) (tgCons (putS 12) tgNil)))) (pure true) (mfz (mOp2 gLe (mval (mOp2 gSub (mslot 7) (mslot 6))) (mval (mOp2 gIxS (mslot 12) (mval (pure (frv (.int 0))))))))
noncomputable def t_shows_clocks_7 : M Fl := (mRet (mCall (gAllAny (·.all id)) (mcons (mval c_shows_clocks_2) mnil)))
noncomputable def t_shows_clocks_8 : M Fl := (mIfS (mB (mOp2 (gEq false) (mval (mOp2 gIxS (mslot 3) (mval (pure (frv (.int 0)))))) (mval (pure (frv (.str "may")))))) (mSeq t_shows_clocks_4
  (mSeq t_shows_clocks_5
  (mSeq t_shows_clocks_6
  t_shows_clocks_7))) (pure .nx))
noncomputable def c_shows_clocks_3 : M SV := mLc (mIt (mfz (mSl (mslot 3) (some (mval (pure (frv (.int 1))))) (some (mval (pure (frv (.int 3)))))))) [6] (putS 6) (pure true) (mfz (mCallF fd_is_integer (mcons (mArgF (mfz (mget 6))) (mcons (mArgF (mfz (pure (frv (.int 0))))) (mcons (mArgF (mfz (mCall gLen (mcons (mslot 0) mnil)))) mnil)))))
noncomputable def t_shows_clocks_9 : M Fl := (mIfS (mOr (mB (mOp2 (gEq true) (mval (mOp2 gIxS (mslot 3) (mval (pure (frv (.int 0)))))) (mval (pure (frv (.str "surely")))))) (mOr (mB (mOp2 (gEq true) (mval (mCall gLen (mcons (mslot 3) mnil))) (mval (pure (frv (.int 4)))))) (mNot (mB (mCall (gAllAny (·.all id)) (mcons (mval c_shows_clocks_3) mnil)))))) (mRet (pure (frv (.bool false)))) (pure .nx))
noncomputable def t_shows_clocks_10 : M Fl := (mAsgT (mfz (mSl (mslot 3) (some (mval (pure (frv (.int 1))))) none)) (tgTup 3 (tgCons (putS 6) (tgCons (putS 7) (tgCons (putS 8) tgNil)))))
noncomputable def t_shows_clocks_11 : M Fl := (mIfS (mOr (mB (mOp2 gGe (mslot 6) (mslot 7))) (mNot (mB (mCallF fd_is_row (mcons (mArgF (mfz (mget 8))) (mcons (mArgF (mfz (mOp2 gSub (mslot 7) (mslot 6)))) (mcons (mArgF (mfz (mOp2 gSub (mval (mCall gLen (mcons (mslot 1) mnil))) (mval (pure (frv (.int 1))))))) mnil))))))) (mRet (pure (frv (.bool false)))) (pure .nx))
noncomputable def c_shows_clocks_4 : M SV := mLc (mZi2 (mSrcR rg2 (mcons (mslot 6) (mcons (mslot 7) mnil))) (mIt (mfz (mget 8)))) [10, 11] (tgTup 2 (tgCons (putS 10) (tgCons (putS 11) tgNil))) (pure true) (mfz (mOp2 gSub (mval (mOp2 gSub (mval (mOp2 gIxS (mval (mOp2 gIxS (mslot 1) (mslot 11))) (mval (mOp2 gAdd (mslot 10) (mval (pure (frv (.int 1)))))))) (mval (mOp2 gIxS (mval (mOp2 gIxS (mslot 1) (mslot 11))) (mslot 10))))) (mval (mOp2 gIxS (mslot 0) (mslot 10)))))
noncomputable def t_shows_clocks_12 : M Fl := (mSetS 9 (mCall gSum (mcons (mval c_shows_clocks_4) mnil)))
noncomputable def t_shows_clocks_13 : M Fl := (mRet (mOp2 gLt (mslot 9) (mval (mOp2 gMul (mval (mOp1 gNeg (mval (pure (frv (.int 2)))))) (mslot 2)))))
noncomputable def b_shows_clocks : M Fl := (mSeq t_shows_clocks_1
  (mSeq t_shows_clocks_2
  (mSeq t_shows_clocks_3
  (mSeq t_shows_clocks_8
  (mSeq t_shows_clocks_9
  (mSeq t_shows_clocks_10
  (mSeq t_shows_clocks_11
  (mSeq t_shows_clocks_12
  t_shows_clocks_13))))))))
noncomputable def fd_shows_clocks : FD := ⟨[false, false, false, false], runF [false, false, false, false] 13 b_shows_clocks⟩
@[simp] theorem io_shows_clocks : fd_shows_clocks.io = [false, false, false, false] := by
  delta fd_shows_clocks
  rfl
theorem g_shows_clocks (ds : List PyData) : fd_shows_clocks.g ds = Rf.of [false, false, false, false] (b_shows_clocks (env0 [false, false, false, false] ds 13)) := by
  delta fd_shows_clocks
  exact runF_e [false, false, false, false] 13 b_shows_clocks ds
theorem ok_shows_clocks (hB : Bu mg) (hG : Gc mg) (D : Dfn K mg "shows_clocks" s_shows_clocks ps_shows_clocks) (h_check_rows : Cal P w K mg base 5 cl "check_rows" ps_check_rows fd_check_rows) (h_is_tuple : Cal P w K mg base 1 cl "is_tuple" ps_is_tuple fd_is_tuple) (h_is_integer : Cal P w K mg base 2 cl "is_integer" ps_is_integer fd_is_integer) (h_slack_of : Cal P w K mg base 1 cl "slack_of" ps_slack_of fd_slack_of) (h_is_row : Cal P w K mg base 3 cl "is_row" ps_is_row fd_is_row) : Cal P w K mg base 6 cl "shows_clocks" ps_shows_clocks fd_shows_clocks :=
  cal_of (N := ["least", "rows", "off", "value", "many", "slack", "one", "other", "cars", "total", "at", "car", "row"]) (k := 5) (io := [false, false, false, false]) (fx := ioIx [false, false, false, false]) (body := b_shows_clocks) D sc_shows_clocks rfl (fun _ => mem_ioIx) fun f cdv A outer s H E hr => (qss_cons (qs_drop (qe_callC (h_check_rows.mono (by decide)) hr rfl hxD (qar_cons (qr_fz (qf_of (qe_var (pe_var (i := 0) rfl (.inr (.inl rfl)) (by decide) (by decide))))) (qar_cons (qr_fz (qf_of (qe_var (pe_var (i := 1) rfl (.inr (.inl rfl)) (by decide) (by decide))))) (qar_cons (qr_fz (qf_of (qe_var (pe_var (i := 2) rfl (.inr (.inl rfl)) (by decide) (by decide))))) qar_nil rfl) rfl) rfl) (by decide) rfl rfl) rfl)
    (qss_cons (qs_if (PW.pt (qw_or (qt_not (qt_val (qe_callC (h_is_tuple.mono (by decide)) hr rfl hxD (qar_cons (qr_fz (qf_of (qe_var (pe_var (i := 3) rfl (.inl rfl) (by decide) (by decide))))) (qar_cons (qr_fz (qf_of (qe_gintE rfl hG.c_PAIR (by decide)))) (qar_cons (qr_fz (qf_of (qe_gintE rfl hG.c_FOUR (by decide)))) qar_nil rfl) rfl) rfl) (by decide) rfl rfl) fun _ => rfl)) (qw_or1 (qt_not (qt_val (qe_isi rfl hB.b_isinstance rfl hB.b_str PyProof.Rows.boot_str (by decide) (by decide) (qo_val (ce_ix (qo_var (pe_var (i := 3) rfl (.inl rfl) (by decide) (by decide))) (qo_val qe_int) (fun _ _ => rfl))) rfl rfl rfl) fun _ => rfl))))) (qss_one (qs_ret qe_bl)) qss_nil)
    (qss_cons (qs_set (i := 4) sc_shows_clocks.nd rfl (.inl rfl) (.inl rfl) (by decide) (qe_add (qo_val (ce_len rfl hB.b_len (qo_var (pe_var (i := 0) rfl (.inr (.inl rfl)) (by decide) (by decide))) rfl)) (qo_val qe_int)) rfl rfl)
    (qss_cons (qs_if (ct_cmp (cpEq hr) (qo_val (ce_ix (qo_var (pe_var (i := 3) rfl (.inl rfl) (by decide) (by decide))) (qo_val qe_int) (fun _ _ => rfl))) (qo_val (qe_gstrE rfl hG.c_MAY (by decide))) (nomark _)) (qss_cons (qs_if (PW.pt (qw_or (ct_cmp (cpNe hr) (qo_val (ce_len rfl hB.b_len (qo_var (pe_var (i := 3) rfl (.inl rfl) (by decide) (by decide))) rfl)) (qo_val (qe_gintE rfl hG.c_PAIR (by decide))) (nomark _)) (qw_or1 (qt_not (qt_val (qe_callC (h_is_tuple.mono (by decide)) hr rfl hxD (qar_cons (qr_fz (qf_of (ce_ix (qo_var (pe_var (i := 3) rfl (.inl rfl) (by decide) (by decide))) (qo_val qe_int) (fun _ _ => rfl)))) (qar_cons (qr_fz (qf_of (qe_var (pe_var (i := 4) rfl (.inl rfl) (by decide) (by decide))))) (qar_cons (qr_fz (qf_of (qe_var (pe_var (i := 4) rfl (.inl rfl) (by decide) (by decide))))) qar_nil rfl) rfl) rfl) (by decide) rfl rfl) fun _ => rfl))))) (qss_one (qs_ret qe_bl)) qss_nil)
    (qss_cons (qs_if (qt_not (qt_val (ce_all rfl rfl hB.b_all (qo_val (qe_lc (own := [("one", 6)]) rfl sc_shows_clocks.nd (qi_seq (qf_of (ce_ix (qo_var (pe_var (i := 3) rfl (.inl rfl) (by decide) (by decide))) (qo_val qe_int) (fun _ _ => rfl)))) (blkOk_by (by kernel_rfl)) (fun _ _ _ _ _ => (qg_name (i := 6) sc_shows_clocks.nd rfl (.inl rfl) (.inr rfl) (nbut (by decide)))) (fun _ _ _ _ _ => qts_nil) (fun _ _ _ _ _ => (qf_of (qe_callC0 (h_is_integer.mono (by decide)) hr rfl (qar_cons (qr_fz (qf_of (qe_var (pe_var (i := 6) rfl (.inl rfl) (by decide) (by decide))))) (qar_cons (qr_fz (qf_of (qe_neg (qo_var (pe_var (i := 2) rfl (.inr (.inl  rfl)) (by decide) (by decide)))))) (qar_cons (qr_fz (qf_of (qe_var (pe_var (i := 2) rfl (.inr (.inl  rfl)) (by decide) (by decide))))) qar_nil rfl) rfl) rfl) (by decide) rfl rfl))) (fun _ => rfl))) rfl) fun _ => rfl)) (qss_one (qs_ret qe_bl)) qss_nil)
    (qss_cons (qs_set (i := 5) sc_shows_clocks.nd rfl (.inl rfl) (.inl rfl) (by decide) (qe_callC (h_slack_of.mono (by decide)) hr rfl hxD (qar_cons (qr_fz (qf_of (qe_var (pe_var (i := 0) rfl (.inr (.inl rfl)) (by decide) (by decide))))) (qar_cons (qr_fz (qf_of (qe_var (pe_var (i := 1) rfl (.inr (.inl rfl)) (by decide) (by decide))))) qar_nil rfl) rfl) (by decide) rfl rfl) rfl rfl)
    (qss_one (qs_ret (ce_all rfl rfl hB.b_all (qo_val (qe_lc (own := [("one", 6), ("other", 7), ("row", 12)]) rfl sc_shows_clocks.nd (qi_zip3 rfl hB.b_zip (qsr_seq (qf_of (ce_ix (qo_var (pe_var (i := 3) rfl (.inl rfl) (by decide) (by decide))) (qo_val qe_int) (fun _ _ => rfl)))) (qsr_seq (qf_of (qe_slice (qo_val (ce_ix (qo_var (pe_var (i := 3) rfl (.inl rfl) (by decide) (by decide))) (qo_val qe_int) (fun _ _ => rfl))) (.some (qo_val qe_int)) .none))) (qsr_seq (qf_of (qe_var (pe_var (i := 5) rfl (.inl rfl) (by decide) (by decide))))) rfl rfl rfl rfl) (blkOk_by (by kernel_rfl)) (fun _ _ _ _ _ => (qg_tup rfl (qgs_cons (qg_name (i := 6) sc_shows_clocks.nd rfl (.inl rfl) (.inr rfl) (nbut (by decide))) (qgs_cons (qg_name (i := 7) sc_shows_clocks.nd rfl (.inl rfl) (.inr rfl) (nbut (by decide))) (qgs_cons (qg_name (i := 12) sc_shows_clocks.nd rfl (.inl rfl) (.inr rfl) (nbut (by decide))) qgs_nil rfl) rfl) rfl) rfl rfl)) (fun _ _ _ _ _ => qts_nil) (fun _ _ _ _ _ => (qf_of (ce_cmp (cpLe hr) (qo_val (qe_sub (qo_var (pe_var (i := 7) rfl (.inl rfl) (by decide) (by decide))) (qo_var (pe_var (i := 6) rfl (.inl rfl) (by decide) (by decide))))) (qo_val (ce_ix (qo_var (pe_var (i := 12) rfl (.inl rfl) (by decide) (by decide))) (qo_val qe_int) (fun _ _ => rfl))) (nomark _)))) (fun _ => rfl))) rfl)))))) qss_nil)
    (qss_cons (qs_if (PW.pt (qw_or (ct_cmp (cpNe hr) (qo_val (ce_ix (qo_var (pe_var (i := 3) rfl (.inl rfl) (by decide) (by decide))) (qo_val qe_int) (fun _ _ => rfl))) (qo_val (qe_gstrE rfl hG.c_SURELY (by decide))) (nomark _)) (qw_or (ct_cmp (cpNe hr) (qo_val (ce_len rfl hB.b_len (qo_var (pe_var (i := 3) rfl (.inl rfl) (by decide) (by decide))) rfl)) (qo_val (qe_gintE rfl hG.c_FOUR (by decide))) (nomark _)) (qw_or1 (qt_not (qt_val (ce_all rfl rfl hB.b_all (qo_val (qe_lc (own := [("one", 6)]) rfl sc_shows_clocks.nd (qi_seq (qf_of (qe_slice (qo_var (pe_var (i := 3) rfl (.inl rfl) (by decide) (by decide))) (.some (qo_val qe_int)) (.some (qo_val (qe_gintE rfl hG.c_TRIPLE (by decide))))))) (blkOk_by (by kernel_rfl)) (fun _ _ _ _ _ => (qg_name (i := 6) sc_shows_clocks.nd rfl (.inl rfl) (.inr rfl) (nbut (by decide)))) (fun _ _ _ _ _ => qts_nil) (fun _ _ _ _ _ => (qf_of (qe_callC0 (h_is_integer.mono (by decide)) hr rfl (qar_cons (qr_fz (qf_of (qe_var (pe_var (i := 6) rfl (.inl rfl) (by decide) (by decide))))) (qar_cons (qr_fz (qf_of qe_int)) (qar_cons (qr_fz (qf_of (ce_len rfl hB.b_len (qo_var (pe_var (i := 0) rfl (.inr (.inl  rfl)) (by decide) (by decide))) rfl))) qar_nil rfl) rfl) rfl) (by decide) rfl rfl))) (fun _ => rfl))) rfl) fun _ => rfl)))))) (qss_one (qs_ret qe_bl)) qss_nil)
    (qss_cons (qs_asgT (qf_of (qe_slice (qo_var (pe_var (i := 3) rfl (.inl rfl) (by decide) (by decide))) (.some (qo_val qe_int)) .none)) (qg_tup rfl (qgs_cons (qg_name (i := 6) sc_shows_clocks.nd rfl (.inl rfl) (.inl rfl) (by decide)) (qgs_cons (qg_name (i := 7) sc_shows_clocks.nd rfl (.inl rfl) (.inl rfl) (by decide)) (qgs_cons (qg_name (i := 8) sc_shows_clocks.nd rfl (.inl rfl) (.inl rfl) (by decide)) qgs_nil rfl) rfl) rfl) rfl rfl) (fun _ => noEx_tup (fun _ => noEx_cons (fun _ => noEx_put) (fun _ => noEx_cons (fun _ => noEx_put) (fun _ => noEx_cons (fun _ => noEx_put) (fun _ => noEx_nil))))) rfl rfl rfl)
    (qss_cons (qs_if (PW.pt (qw_or (ct_cmp (cpGe hr) (qo_var (pe_var (i := 6) rfl (.inl rfl) (by decide) (by decide))) (qo_var (pe_var (i := 7) rfl (.inl rfl) (by decide) (by decide))) (nomark _)) (qw_or1 (qt_not (qt_val (qe_callC (h_is_row.mono (by decide)) hr rfl hxD (qar_cons (qr_fz (qf_of (qe_var (pe_var (i := 8) rfl (.inl rfl) (by decide) (by decide))))) (qar_cons (qr_fz (qf_of (qe_sub (qo_var (pe_var (i := 7) rfl (.inl rfl) (by decide) (by decide))) (qo_var (pe_var (i := 6) rfl (.inl rfl) (by decide) (by decide)))))) (qar_cons (qr_fz (qf_of (qe_sub (qo_val (ce_len rfl hB.b_len (qo_var (pe_var (i := 1) rfl (.inr (.inl rfl)) (by decide) (by decide))) rfl)) (qo_val qe_int)))) qar_nil rfl) rfl) rfl) (by decide) rfl rfl) fun _ => rfl))))) (qss_one (qs_ret qe_bl)) qss_nil)
    (qss_cons (qs_set (i := 9) sc_shows_clocks.nd rfl (.inl rfl) (.inl rfl) (by decide) (ce_sum rfl rfl hB.b_sum (qo_val (qe_lc (own := [("at", 10), ("car", 11)]) rfl sc_shows_clocks.nd (qi_zip2 rfl hB.b_zip (qsr_range2 rfl hB.b_range (pa2 (qo_var (pe_var (i := 6) rfl (.inl rfl) (by decide) (by decide))) (qo_var (pe_var (i := 7) rfl (.inl rfl) (by decide) (by decide))) rfl rfl) rfl rfl) (qsr_seq (qf_of (qe_var (pe_var (i := 8) rfl (.inl rfl) (by decide) (by decide))))) rfl rfl rfl) (blkOk_by (by kernel_rfl)) (fun _ _ _ _ _ => (qg_tup rfl (qgs_cons (qg_name (i := 10) sc_shows_clocks.nd rfl (.inl rfl) (.inr rfl) (nbut (by decide))) (qgs_cons (qg_name (i := 11) sc_shows_clocks.nd rfl (.inl rfl) (.inr rfl) (nbut (by decide))) qgs_nil rfl) rfl) rfl rfl)) (fun _ _ _ _ _ => qts_nil) (fun _ _ _ _ _ => (qf_of (qe_sub (qo_val (qe_sub (qo_val (ce_ix (qo_val (ce_ix (qo_var (pe_var (i := 1) rfl (.inr (.inl  rfl)) (by decide) (by decide))) (qo_var (pe_var (i := 11) rfl (.inl rfl) (by decide) (by decide))) (fun _ _ => rfl))) (qo_val (qe_add (qo_var (pe_var (i := 10) rfl (.inl rfl) (by decide) (by decide))) (qo_val qe_int))) (fun _ _ => rfl))) (qo_val (ce_ix (qo_val (ce_ix (qo_var (pe_var (i := 1) rfl (.inr (.inl  rfl)) (by decide) (by decide))) (qo_var (pe_var (i := 11) rfl (.inl rfl) (by decide) (by decide))) (fun _ _ => rfl))) (qo_var (pe_var (i := 10) rfl (.inl rfl) (by decide) (by decide))) (fun _ _ => rfl))))) (qo_val (ce_ix (qo_var (pe_var (i := 0) rfl (.inr (.inl  rfl)) (by decide) (by decide))) (qo_var (pe_var (i := 10) rfl (.inl rfl) (by decide) (by decide))) (fun _ _ => rfl)))))) (fun _ => rfl))) rfl) rfl rfl)
    (qss_one (qs_ret (ce_cmp (cpLt hr) (qo_var (pe_var (i := 9) rfl (.inl rfl) (by decide) (by decide))) (qo_val (qe_mul (qo_val (qe_neg (qo_val (qe_gintE rfl hG.c_PAIR (by decide))))) (qo_var (pe_var (i := 2) rfl (.inr (.inl rfl)) (by decide) (by decide))))) (nomark _))))))))))))

abbrev s__law_are_clocks_right : Stmt := topS 46
abbrev ps__law_are_clocks_right : List Str := ["pot", "least", "rows"]
theorem sc__law_are_clocks_right : FnScope ["pot", "least", "rows", "rooms", "need", "off", "told", "due", "room", "low", "one", "other", "cars", "lack", "at", "car", "row"] ps__law_are_clocks_right (defScope s__law_are_clocks_right) := ⟨rfl, rfl, rfl, by decide +kernel, rfl, by decide +kernel, by decide +kernel⟩
noncomputable def t__law_are_clocks_right_1 : M Fl := (mSetS 3 (mCallF fd__law_rooms (mcons (mArgF (mfz (mget 1))) (mcons (mArgF (mfz (mget 2))) mnil))))
noncomputable def t__law_are_clocks_right_2 : M Fl := (mSetS 4 (mCallF fd__law_half (mcons (mArgF (mfz (mCallF fd__law_lack (mcons (mArgF (mfz (mget 3))) mnil)))) mnil)))
noncomputable def t__law_are_clocks_right_3 : M Fl := (mIfS (mB (mOp2 (gEq true) (mval (mCallF fd_least_clocks (mcons (mArgF (mfz (mget 1))) (mcons (mArgF (mfz (mget 2))) mnil)))) (mslot 4))) (mRet (pure (frv (.bool false)))) (pure .nx))
noncomputable def t__law_are_clocks_right_4 : M Fl := (mSetS 6 (mCallF fd_clocks (mcons (mArgF (mfz (mget 1))) (mcons (mArgF (mfz (mget 2))) (mcons (mArgF (mfz (mget 5))) mnil)))))
noncomputable def t__law_are_clocks_right_5 : M Fl := (mIfS (mOr (mB (mOp2 (gEq true) (mval (mOp2 (gEq false) (mval (mOp2 gIxS (mslot 6) (mval (pure (frv (.int 0)))))) (mval (pure (frv (.str "may")))))) (mval (mOp2 gGe (mslot 5) (mslot 4))))) (mB (mOp2 (gIs true) (mval (mCallF fd_shows_clocks (mcons (mArgF (mfz (mget 1))) (mcons (mArgF (mfz (mget 2))) (mcons (mArgF (mfz (mget 5))) (mcons (mArgF (mfz (mget 6))) mnil)))))) (mval (pure (frv (.bool true))))))) (mRet (pure (frv (.bool false)))) (pure .nx))
noncomputable def t__law_are_clocks_right_6 : M Fl := (mSetS 7 (mLst (mcons (mfz (mget 5)) mnil)))
noncomputable def u__law_are_clocks_right_1 : M Fl := (mAppend 7 (mfz (mCall (gI2 fun i j => if j < i then j else i) (mcons (mslot 5) (mcons (mval (mOp2 gAdd (mval (mOp2 gIxS (mslot 7) (mval (mOp1 gNeg (mval (pure (frv (.int 1)))))))) (mslot 8))) mnil)))))
noncomputable def l__law_are_clocks_right_1 : M Fl := mFor (mIt (mfz (mget 3))) (putS 8) u__law_are_clocks_right_1
noncomputable def t__law_are_clocks_right_7 : M Fl := (mIfS (mB (mOp2 (gEq true) (mval (mOp2 gIxS (mslot 6) (mval (pure (frv (.int 1)))))) (mval (mCall gTupleOf (mcons (mslot 7) mnil))))) (mRet (pure (frv (.bool false)))) (pure .nx))
noncomputable def c__law_are_clocks_right_1 : M SV := mLc (mIt (mfz (mget 7))) [10] (putS 10) (pure true) (mfz (mOp2 gSub (mslot 10) (mval (pure (frv (.int 1))))))
noncomputable def t__law_are_clocks_right_8 : M Fl := (mSetS 9 (mCall gTupleOf (mcons (mval c__law_are_clocks_right_1) mnil)))
noncomputable def t__law_are_clocks_right_9 : M Fl := (mIfS (mOr (mB (mOp2 (gEq true) (mval (mCallF fd_shows_clocks (mcons (mArgF (mfz (mget 1))) (mcons (mArgF (mfz (mget 2))) (mcons (mArgF (mfz (mget 5))) (mcons (mArgF (mfz (mTup (mcons (mfz (pure (frv (.str "may")))) (mcons (mfz (mget 9)) mnil))))) mnil)))))) (mval (mOp2 gGe (mval (mCall (gBest PySem.W.minD) (mcons (mslot 9) mnil))) (mval (mOp1 gNeg (mslot 5))))))) (mB (mOp2 (gIs true) (mval (mCallF fd_shows_clocks (mcons (mArgF (mfz (mget 1))) (mcons (mArgF (mfz (mget 2))) (mcons (mArgF (mfz (mget 5))) (mcons (mArgF (mfz (mTup (mcons (mfz (pure (frv (.str "may")))) (mcons (mfz (mget 7)) mnil))))) mnil)))))) (mval (pure (frv (.bool false))))))) (mRet (pure (frv (.bool false)))) (pure .nx))
noncomputable def t__law_are_clocks_right_10 : M Fl := (mAsgT (mfz (mSl (mslot 6) (some (mval (pure (frv (.int 1))))) none)) (tgTup 3 (tgCons (putS 10) (tgCons (putS 11) (tgCons (putS 12) tgNil)))))
noncomputable def c__law_are_clocks_right_2 : M SV := mLc (mIt (mfz (mListZip (mIt (mfz (mRgV2 gRgL (mslot 10) (mslot 11)))) (mIt (mfz (mget 12)))))) [14, 15] (tgTup 2 (tgCons (putS 14) (tgCons (putS 15) tgNil))) (pure true) (mfz (mOp2 gSub (mval (mOp2 gSub (mval (mOp2 gIxS (mval (mOp2 gIxS (mslot 2) (mslot 15))) (mval (mOp2 gAdd (mslot 14) (mval (pure (frv (.int 1)))))))) (mval (mOp2 gIxS (mval (mOp2 gIxS (mslot 2) (mslot 15))) (mslot 14))))) (mval (mOp2 gIxS (mslot 1) (mslot 14)))))
noncomputable def t__law_are_clocks_right_11 : M Fl := (mSetS 13 (mCall gSum (mcons (mval c__law_are_clocks_right_2) mnil)))
noncomputable def t__law_are_clocks_right_12 : M Fl := (mIfS (mOr (mNot (mB (mOp2 gLt (mslot 10) (mslot 11)))) (mOr (mB (mOp2 (gEq true) (mval (mCall gLen (mcons (mslot 12) mnil))) (mval (mOp2 gSub (mslot 11) (mslot 10))))) (mB (mOp2 gGe (mslot 13) (mval (mOp2 gMul (mval (mOp1 gNeg (mval (pure (frv (.int 2)))))) (mslot 5))))))) (mRet (pure (frv (.bool false)))) (pure .nx))
noncomputable def t__law_are_clocks_right_13 : M Fl := (mIfS (mB (mOp2 (gEq false) (mval (mOp2 gIxS (mslot 6) (mval (pure (frv (.int 0)))))) (mval (pure (frv (.str "may")))))) (mSeq t__law_are_clocks_right_6
  (mSeq l__law_are_clocks_right_1
  (mSeq t__law_are_clocks_right_7
  (mSeq t__law_are_clocks_right_8
  t__law_are_clocks_right_9)))) (mSeq t__law_are_clocks_right_10
  (mSeq t__law_are_clocks_right_11
  t__law_are_clocks_right_12)))
noncomputable def u__law_are_clocks_right_2 : M Fl := (mSeq t__law_are_clocks_right_4
  (mSeq t__law_are_clocks_right_5
  t__law_are_clocks_right_13))
noncomputable def l__law_are_clocks_right_2 : M Fl := mFor (mIt (mfz (mTup (mcons (mfz (pure (frv (.int 0)))) (mcons (mfz (mCall (gI2 fun i j => if j > i then j else i) (mcons (mval (pure (frv (.int 0)))) (mcons (mval (mOp2 gSub (mslot 4) (mval (pure (frv (.int 1)))))) mnil)))) (mcons (mfz (mget 4)) (mcons (mfz (mCall (gI2 fun i j => if j < i then j else i) (mcons (mval (pure (frv (.int 1000)))) (mcons (mval (mOp2 gAdd (mslot 4) (mval (mCall gInt1 (mcons (mval (mCallF fd__law_take (mcons (mArgI 0) (mcons (mArgF (mfz (pure (frv (.int 5))))) mnil)))) mnil))))) mnil)))) mnil))))))) (putS 5) u__law_are_clocks_right_2
noncomputable def t__law_are_clocks_right_14 : M Fl := (mIfS (mAnd (mB (mOp2 gGtA (mval (mCall gLen (mcons (mslot 2) mnil))) (mval (pure (frv (.int 1)))))) (mB (mOp2 gGtA (mval (mCallF fd_least_clocks (mcons (mArgF (mfz (mget 1))) (mcons (mArgF (mfz (mSl (mslot 2) none (some (mval (mOp1 gNeg (mval (pure (frv (.int 1)))))))))) mnil)))) (mslot 4)))) (mRet (pure (frv (.bool false)))) (pure .nx))
noncomputable def c__law_are_clocks_right_3 : M SV := mLc (mIt (mfz (mget 2))) [16] (putS 16) (pure true) (mfz (mCallF fd_least_off (mcons (mArgF (mfz (mget 1))) (mcons (mArgF (mfz (mget 16))) mnil))))
noncomputable def t__law_are_clocks_right_15 : M Fl := (mRet (mAndV (mOp2 (gEq false) (mval (mCallF fd_least_clocks (mcons (mArgF (mfz (mget 1))) (mcons (mArgF (mfz (mOp1 gRev (mslot 2)))) mnil)))) (mslot 4)) (mOp2 gLe (mval (mCall (gBest PySem.W.maxD) (mcons (mval c__law_are_clocks_right_3) mnil))) (mslot 4))))
noncomputable def b__law_are_clocks_right : M Fl := (mSeq t__law_are_clocks_right_1
  (mSeq t__law_are_clocks_right_2
  (mSeq t__law_are_clocks_right_3
  (mSeq l__law_are_clocks_right_2
  (mSeq t__law_are_clocks_right_14
  t__law_are_clocks_right_15)))))
noncomputable def fd__law_are_clocks_right : FD := ⟨[true, false, false], runF [true, false, false] 17 b__law_are_clocks_right⟩
@[simp] theorem io__law_are_clocks_right : fd__law_are_clocks_right.io = [true, false, false] := by
  delta fd__law_are_clocks_right
  rfl
theorem g__law_are_clocks_right (ds : List PyData) : fd__law_are_clocks_right.g ds = Rf.of [true, false, false] (b__law_are_clocks_right (env0 [true, false, false] ds 17)) := by
  delta fd__law_are_clocks_right
  exact runF_e [true, false, false] 17 b__law_are_clocks_right ds
theorem ok__law_are_clocks_right (hB : Bu mg) (hG : Gc mg) (D : Dfn K mg "_law_are_clocks_right" s__law_are_clocks_right ps__law_are_clocks_right) (h__law_rooms : Cal P w K mg base 1 cl "_law_rooms" ps__law_rooms fd__law_rooms) (h__law_half : Cal P w K mg base 1 cl "_law_half" ps__law_half fd__law_half) (h__law_lack : Cal P w K mg base 1 cl "_law_lack" ps__law_lack fd__law_lack) (h_least_clocks : Cal P w K mg base 6 cl "least_clocks" ps_least_clocks fd_least_clocks) (h__law_take : Cal P w K mg base 1 cl "_law_take" ps__law_take fd__law_take) (h_clocks : Cal P w K mg base 6 cl "clocks" ps_clocks fd_clocks) (h_shows_clocks : Cal P w K mg base 6 cl "shows_clocks" ps_shows_clocks fd_shows_clocks) (h_least_off : Cal P w K mg base 6 cl "least_off" ps_least_off fd_least_off) : Cal P w K mg base 7 cl "_law_are_clocks_right" ps__law_are_clocks_right fd__law_are_clocks_right :=
  cal_of (N := ["pot", "least", "rows", "rooms", "need", "off", "told", "due", "room", "low", "one", "other", "cars", "lack", "at", "car", "row"]) (k := 6) (io := [true, false, false]) (fx := ioIx [true, false, false]) (body := b__law_are_clocks_right) D sc__law_are_clocks_right rfl (fun _ => mem_ioIx) fun f cdv A outer s H E hr => (qss_cons (qs_set (i := 3) sc__law_are_clocks_right.nd rfl (.inl rfl) (.inl rfl) (by decide) (qe_callC (h__law_rooms.mono (by decide)) hr rfl hxD (qar_cons (qr_fz (qf_of (qe_var (pe_var (i := 1) rfl (.inr (.inl rfl)) (by decide) (by decide))))) (qar_cons (qr_fz (qf_of (qe_var (pe_var (i := 2) rfl (.inr (.inl rfl)) (by decide) (by decide))))) qar_nil rfl) rfl) (by decide) rfl rfl) rfl rfl)
    (qss_cons (qs_set (i := 4) sc__law_are_clocks_right.nd rfl (.inl rfl) (.inl rfl) (by decide) (qe_callC (h__law_half.mono (by decide)) hr rfl hxD (qar_cons (qr_fz (qf_of (qe_callC (h__law_lack.mono (by decide)) hr rfl hxD (qar_cons (qr_fz (qf_of (qe_var (pe_var (i := 3) rfl (.inl rfl) (by decide) (by decide))))) qar_nil rfl) (by decide) rfl rfl))) qar_nil rfl) (by decide) rfl rfl) rfl rfl)
    (qss_cons (qs_if (ct_cmp (cpNe hr) (qo_val (qe_callC (h_least_clocks.mono (by decide)) hr rfl hxD (qar_cons (qr_fz (qf_of (qe_var (pe_var (i := 1) rfl (.inr (.inl rfl)) (by decide) (by decide))))) (qar_cons (qr_fz (qf_of (qe_var (pe_var (i := 2) rfl (.inr (.inl rfl)) (by decide) (by decide))))) qar_nil rfl) rfl) (by decide) rfl rfl)) (qo_var (pe_var (i := 4) rfl (.inl rfl) (by decide) (by decide))) (nomark _)) (qss_one (qs_ret qe_bl)) qss_nil)
    (qss_cons (qs_for hpD rfl (qi_seq (qf_of (qe_tup (qaf_cons (qf_of qe_int) (qaf_cons (qf_of (ce_max2 rfl rfl hB.b_max (qo_val qe_int) (qo_val (qe_sub (qo_var (pe_var (i := 4) rfl (.inl rfl) (by decide) (by decide))) (qo_val qe_int))) rfl rfl rfl)) (qaf_cons (qf_of (qe_var (pe_var (i := 4) rfl (.inl rfl) (by decide) (by decide)))) (qaf_cons (qf_of (ce_min2 rfl rfl hB.b_min (qo_val qe_int) (qo_val (qe_add (qo_var (pe_var (i := 4) rfl (.inl rfl) (by decide) (by decide))) (qo_val (ce_int rfl hB.b_int (qo_val (qe_callC (h__law_take.mono (by decide)) hr rfl hxD (qar_cons (qr_io (pe_var (i := 0) rfl (.inl rfl) (by decide) (by decide))) (qar_cons (qr_fz (qf_of qe_int)) qar_nil rfl) rfl) (by decide) rfl rfl)) rfl)))) rfl rfl rfl)) qaf_nil rfl) rfl) rfl) rfl)))) (qg_name (i := 5) sc__law_are_clocks_right.nd rfl (.inl rfl) (.inl rfl) (by decide)) (fun _ => noEx_put) (qss_cons (qs_set (i := 6) sc__law_are_clocks_right.nd rfl (.inl rfl) (.inl rfl) (by decide) (qe_callC (h_clocks.mono (by decide)) hr rfl hxD (qar_cons (qr_fz (qf_of (qe_var (pe_var (i := 1) rfl (.inr (.inl rfl)) (by decide) (by decide))))) (qar_cons (qr_fz (qf_of (qe_var (pe_var (i := 2) rfl (.inr (.inl rfl)) (by decide) (by decide))))) (qar_cons (qr_fz (qf_of (qe_var (pe_var (i := 5) rfl (.inl rfl) (by decide) (by decide))))) qar_nil rfl) rfl) rfl) (by decide) rfl rfl) rfl rfl)
    (qss_cons (qs_if (PW.pt (qw_or (ct_cmp (cpNe hr) (qo_val (ce_cmp (cpEq hr) (qo_val (ce_ix (qo_var (pe_var (i := 6) rfl (.inl rfl) (by decide) (by decide))) (qo_val qe_int) (fun _ _ => rfl))) (qo_val qe_str) (nomark _))) (qo_val (ce_cmp (cpGe hr) (qo_var (pe_var (i := 5) rfl (.inl rfl) (by decide) (by decide))) (qo_var (pe_var (i := 4) rfl (.inl rfl) (by decide) (by decide))) (nomark _))) (nomark _)) (qw_or1 (ct_cmp (cpIsNot hr) (qo_val (qe_callC (h_shows_clocks.mono (by decide)) hr rfl hxD (qar_cons (qr_fz (qf_of (qe_var (pe_var (i := 1) rfl (.inr (.inl rfl)) (by decide) (by decide))))) (qar_cons (qr_fz (qf_of (qe_var (pe_var (i := 2) rfl (.inr (.inl rfl)) (by decide) (by decide))))) (qar_cons (qr_fz (qf_of (qe_var (pe_var (i := 5) rfl (.inl rfl) (by decide) (by decide))))) (qar_cons (qr_fz (qf_of (qe_var (pe_var (i := 6) rfl (.inl rfl) (by decide) (by decide))))) qar_nil rfl) rfl) rfl) rfl) (by decide) rfl rfl)) (qo_val qe_bl) (nomark _))))) (qss_one (qs_ret qe_bl)) qss_nil)
    (qss_one (qs_if (ct_cmp (cpEq hr) (qo_val (ce_ix (qo_var (pe_var (i := 6) rfl (.inl rfl) (by decide) (by decide))) (qo_val qe_int) (fun _ _ => rfl))) (qo_val qe_str) (nomark _)) (qss_cons (qs_set (i := 7) sc__law_are_clocks_right.nd rfl (.inl rfl) (.inl rfl) (by decide) (qe_lst (qaf_cons (qf_of (qe_var (pe_var (i := 5) rfl (.inl rfl) (by decide) (by decide)))) qaf_nil rfl)) rfl rfl)
    (qss_cons (qs_for hpD rfl (qi_seq (qf_of (qe_var (pe_var (i := 3) rfl (.inl rfl) (by decide) (by decide))))) (qg_name (i := 8) sc__law_are_clocks_right.nd rfl (.inl rfl) (.inl rfl) (by decide)) (fun _ => noEx_put) (qss_one (qs_append (pe_var (i := 7) rfl (.inl rfl) (by decide) (by decide)) (qf_of (ce_min2 rfl rfl hB.b_min (qo_var (pe_var (i := 5) rfl (.inl rfl) (by decide) (by decide))) (qo_val (qe_add (qo_val (ce_ix (qo_var (pe_var (i := 7) rfl (.inl rfl) (by decide) (by decide))) (qo_val (qe_neg (qo_val qe_int))) (fun _ _ => rfl))) (qo_var (pe_var (i := 8) rfl (.inl rfl) (by decide) (by decide))))) rfl rfl rfl)) rfl rfl rfl rfl rfl rfl)) (fun _ => rfl))
    (qss_cons (qs_if (ct_cmp (cpNe hr) (qo_val (ce_ix (qo_var (pe_var (i := 6) rfl (.inl rfl) (by decide) (by decide))) (qo_val qe_int) (fun _ _ => rfl))) (qo_val (ce_tuple rfl hB.b_tuple (qo_var (pe_var (i := 7) rfl (.inl rfl) (by decide) (by decide))) rfl)) (nomark _)) (qss_one (qs_ret qe_bl)) qss_nil)
    (qss_cons (qs_set (i := 9) sc__law_are_clocks_right.nd rfl (.inl rfl) (.inl rfl) (by decide) (ce_tuple rfl hB.b_tuple (qo_val (qe_lc (own := [("one", 10)]) rfl sc__law_are_clocks_right.nd (qi_seq (qf_of (qe_var (pe_var (i := 7) rfl (.inl rfl) (by decide) (by decide))))) (blkOk_by (by kernel_rfl)) (fun _ _ _ _ _ => (qg_name (i := 10) sc__law_are_clocks_right.nd rfl (.inl rfl) (.inr rfl) (nbut (by decide)))) (fun _ _ _ _ _ => qts_nil) (fun _ _ _ _ _ => (qf_of (qe_sub (qo_var (pe_var (i := 10) rfl (.inl rfl) (by decide) (by decide))) (qo_val qe_int)))) (fun _ => rfl))) rfl) rfl rfl)
    (qss_one (qs_if (PW.pt (qw_or (ct_cmp (cpNe hr) (qo_val (qe_callC (h_shows_clocks.mono (by decide)) hr rfl hxD (qar_cons (qr_fz (qf_of (qe_var (pe_var (i := 1) rfl (.inr (.inl rfl)) (by decide) (by decide))))) (qar_cons (qr_fz (qf_of (qe_var (pe_var (i := 2) rfl (.inr (.inl rfl)) (by decide) (by decide))))) (qar_cons (qr_fz (qf_of (qe_var (pe_var (i := 5) rfl (.inl rfl) (by decide) (by decide))))) (qar_cons (qr_fz (qf_of (qe_tup (qaf_cons (qf_of qe_str) (qaf_cons (qf_of (qe_var (pe_var (i := 9) rfl (.inl rfl) (by decide) (by decide)))) qaf_nil rfl) rfl)))) qar_nil rfl) rfl) rfl) rfl) (by decide) rfl rfl)) (qo_val (ce_cmp (cpGe hr) (qo_val (ce_min1 rfl hr rfl hB.b_min (qo_var (pe_var (i := 9) rfl (.inl rfl) (by decide) (by decide))) rfl)) (qo_val (qe_neg (qo_var (pe_var (i := 5) rfl (.inl rfl) (by decide) (by decide))))) (nomark _))) (nomark _)) (qw_or1 (ct_cmp (cpIsNot hr) (qo_val (qe_callC (h_shows_clocks.mono (by decide)) hr rfl hxD (qar_cons (qr_fz (qf_of (qe_var (pe_var (i := 1) rfl (.inr (.inl rfl)) (by decide) (by decide))))) (qar_cons (qr_fz (qf_of (qe_var (pe_var (i := 2) rfl (.inr (.inl rfl)) (by decide) (by decide))))) (qar_cons (qr_fz (qf_of (qe_var (pe_var (i := 5) rfl (.inl rfl) (by decide) (by decide))))) (qar_cons (qr_fz (qf_of (qe_tup (qaf_cons (qf_of qe_str) (qaf_cons (qf_of (qe_var (pe_var (i := 7) rfl (.inl rfl) (by decide) (by decide)))) qaf_nil rfl) rfl)))) qar_nil rfl) rfl) rfl) rfl) (by decide) rfl rfl)) (qo_val qe_bl) (nomark _))))) (qss_one (qs_ret qe_bl)) qss_nil)))))) (qss_cons (qs_asgT (qf_of (qe_slice (qo_var (pe_var (i := 6) rfl (.inl rfl) (by decide) (by decide))) (.some (qo_val qe_int)) .none)) (qg_tup rfl (qgs_cons (qg_name (i := 10) sc__law_are_clocks_right.nd rfl (.inl rfl) (.inl rfl) (by decide)) (qgs_cons (qg_name (i := 11) sc__law_are_clocks_right.nd rfl (.inl rfl) (.inl rfl) (by decide)) (qgs_cons (qg_name (i := 12) sc__law_are_clocks_right.nd rfl (.inl rfl) (.inl rfl) (by decide)) qgs_nil rfl) rfl) rfl) rfl rfl) (fun _ => noEx_tup (fun _ => noEx_cons (fun _ => noEx_put) (fun _ => noEx_cons (fun _ => noEx_put) (fun _ => noEx_cons (fun _ => noEx_put) (fun _ => noEx_nil))))) rfl rfl rfl)
    (qss_cons (qs_set (i := 13) sc__law_are_clocks_right.nd rfl (.inl rfl) (.inl rfl) (by decide) (ce_sum rfl rfl hB.b_sum (qo_val (qe_lc (own := [("at", 14), ("car", 15)]) rfl sc__law_are_clocks_right.nd (qi_seq (qf_of (qe_listZip rfl rfl hB.b_list rfl hB.b_zip (qsr_seq (qf_of (qe_listR2 rfl rfl hB.b_list rfl hB.b_range (qo_var (pe_var (i := 10) rfl (.inl rfl) (by decide) (by decide))) (qo_var (pe_var (i := 11) rfl (.inl rfl) (by decide) (by decide))) rfl rfl rfl rfl))) (qsr_seq (qf_of (qe_var (pe_var (i := 12) rfl (.inl rfl) (by decide) (by decide))))) rfl rfl rfl rfl))) (blkOk_by (by kernel_rfl)) (fun _ _ _ _ _ => (qg_tup rfl (qgs_cons (qg_name (i := 14) sc__law_are_clocks_right.nd rfl (.inl rfl) (.inr rfl) (nbut (by decide))) (qgs_cons (qg_name (i := 15) sc__law_are_clocks_right.nd rfl (.inl rfl) (.inr rfl) (nbut (by decide))) qgs_nil rfl) rfl) rfl rfl)) (fun _ _ _ _ _ => qts_nil) (fun _ _ _ _ _ => (qf_of (qe_sub (qo_val (qe_sub (qo_val (ce_ix (qo_val (ce_ix (qo_var (pe_var (i := 2) rfl (.inr (.inl  rfl)) (by decide) (by decide))) (qo_var (pe_var (i := 15) rfl (.inl rfl) (by decide) (by decide))) (fun _ _ => rfl))) (qo_val (qe_add (qo_var (pe_var (i := 14) rfl (.inl rfl) (by decide) (by decide))) (qo_val qe_int))) (fun _ _ => rfl))) (qo_val (ce_ix (qo_val (ce_ix (qo_var (pe_var (i := 2) rfl (.inr (.inl  rfl)) (by decide) (by decide))) (qo_var (pe_var (i := 15) rfl (.inl rfl) (by decide) (by decide))) (fun _ _ => rfl))) (qo_var (pe_var (i := 14) rfl (.inl rfl) (by decide) (by decide))) (fun _ _ => rfl))))) (qo_val (ce_ix (qo_var (pe_var (i := 1) rfl (.inr (.inl  rfl)) (by decide) (by decide))) (qo_var (pe_var (i := 14) rfl (.inl rfl) (by decide) (by decide))) (fun _ _ => rfl)))))) (fun _ => rfl))) rfl) rfl rfl)
    (qss_one (qs_if (PW.pt (qw_or (qt_not (ct_cmp (cpLt hr) (qo_var (pe_var (i := 10) rfl (.inl rfl) (by decide) (by decide))) (qo_var (pe_var (i := 11) rfl (.inl rfl) (by decide) (by decide))) (nomark _))) (qw_or (ct_cmp (cpNe hr) (qo_val (ce_len rfl hB.b_len (qo_var (pe_var (i := 12) rfl (.inl rfl) (by decide) (by decide))) rfl)) (qo_val (qe_sub (qo_var (pe_var (i := 11) rfl (.inl rfl) (by decide) (by decide))) (qo_var (pe_var (i := 10) rfl (.inl rfl) (by decide) (by decide))))) (nomark _)) (qw_or1 (ct_cmp (cpGe hr) (qo_var (pe_var (i := 13) rfl (.inl rfl) (by decide) (by decide))) (qo_val (qe_mul (qo_val (qe_neg (qo_val qe_int))) (qo_var (pe_var (i := 5) rfl (.inl rfl) (by decide) (by decide))))) (nomark _)))))) (qss_one (qs_ret qe_bl)) qss_nil)))))))) (fun _ => rfl))
    (qss_cons (qs_if (PW.pt (qw_and (ct_cmp (cpGt hr) (qo_val (ce_len rfl hB.b_len (qo_var (pe_var (i := 2) rfl (.inr (.inl rfl)) (by decide) (by decide))) rfl)) (qo_val qe_int) (nomark _)) (qw_and1 (ct_cmp (cpGt hr) (qo_val (qe_callC (h_least_clocks.mono (by decide)) hr rfl hxD (qar_cons (qr_fz (qf_of (qe_var (pe_var (i := 1) rfl (.inr (.inl rfl)) (by decide) (by decide))))) (qar_cons (qr_fz (qf_of (qe_slice (qo_var (pe_var (i := 2) rfl (.inr (.inl rfl)) (by decide) (by decide))) .none (.some (qo_val (qe_neg (qo_val qe_int))))))) qar_nil rfl) rfl) (by decide) rfl rfl)) (qo_var (pe_var (i := 4) rfl (.inl rfl) (by decide) (by decide))) (nomark _))))) (qss_one (qs_ret qe_bl)) qss_nil)
    (qss_one (qs_ret (qe_and (ce_cmp (cpEq hr) (qo_val (qe_callC (h_least_clocks.mono (by decide)) hr rfl hxD (qar_cons (qr_fz (qf_of (qe_var (pe_var (i := 1) rfl (.inr (.inl rfl)) (by decide) (by decide))))) (qar_cons (qr_fz (qf_of (qe_rev (qo_var (pe_var (i := 2) rfl (.inr (.inl rfl)) (by decide) (by decide)))))) qar_nil rfl) rfl) (by decide) rfl rfl)) (qo_var (pe_var (i := 4) rfl (.inl rfl) (by decide) (by decide))) (nomark _)) (qe_one (ce_cmp (cpLe hr) (qo_val (ce_max1 rfl hr rfl hB.b_max (qo_val (qe_lc (own := [("row", 16)]) rfl sc__law_are_clocks_right.nd (qi_seq (qf_of (qe_var (pe_var (i := 2) rfl (.inr (.inl rfl)) (by decide) (by decide))))) (blkOk_by (by kernel_rfl)) (fun _ _ _ _ _ => (qg_name (i := 16) sc__law_are_clocks_right.nd rfl (.inl rfl) (.inr rfl) (nbut (by decide)))) (fun _ _ _ _ _ => qts_nil) (fun _ _ _ _ _ => (qf_of (qe_callC0 (h_least_off.mono (by decide)) hr rfl (qar_cons (qr_fz (qf_of (qe_var (pe_var (i := 1) rfl (.inr (.inl  rfl)) (by decide) (by decide))))) (qar_cons (qr_fz (qf_of (qe_var (pe_var (i := 16) rfl (.inl rfl) (by decide) (by decide))))) qar_nil rfl) rfl) (by decide) rfl rfl))) (fun _ => rfl))) rfl)) (qo_var (pe_var (i := 4) rfl (.inl rfl) (by decide) (by decide))) (nomark _)))))))))))

abbrev s_law : Stmt := topS 48
abbrev ps_law : List Str := ["script"]
theorem sc_law : FnScope ["script", "place", "pot", "least", "spread", "rows", "lap"] ps_law (defScope s_law) := ⟨rfl, rfl, rfl, by decide +kernel, rfl, by decide +kernel, by decide +kernel⟩
noncomputable def t_law_1 : M Fl := (mSetS 2 (mCallF fd__law_pot (mcons (mArgF (mfz (mget 0))) (mcons (mArgF (mfz (mget 1))) mnil))))
noncomputable def c_law_1 : M SV := mLc (mRg rg1 (mcons (mval (mOp2 gAdd (mval (pure (frv (.int 1)))) (mval (mCallF fd__law_take (mcons (mArgI 2) (mcons (mArgF (mfz (pure (frv (.int 11))))) mnil)))))) mnil)) [6] (putS 6) (pure true) (mfz (mCall gInt1 (mcons (mval (mCallF fd__law_take (mcons (mArgI 2) (mcons (mArgF (mfz (pure (frv (.int 60))))) mnil)))) mnil)))
noncomputable def t_law_2 : M Fl := (mSetS 3 (mCall gTupleOf (mcons (mval c_law_1) mnil)))
noncomputable def t_law_3 : M Fl := (mSetS 4 (mCallF fd__law_of (mcons (mArgI 2) (mcons (mArgF (mfz (mLst (mcons (mfz (pure (frv (.int 0)))) (mcons (mfz (pure (frv (.int 3)))) (mcons (mfz (pure (frv (.int 12)))) (mcons (mfz (pure (frv (.int 40)))) mnil))))))) mnil))))
noncomputable def c_law_2 : M SV := mLc (mRg rg1 (mcons (mval (mOp2 gAdd (mval (pure (frv (.int 1)))) (mval (mCallF fd__law_take (mcons (mArgI 2) (mcons (mArgF (mfz (pure (frv (.int 20))))) mnil)))))) mnil)) [6] (putS 6) (pure true) (mfz (mCallF fd__law_row (mcons (mArgI 2) (mcons (mArgF (mfz (mget 3))) (mcons (mArgF (mfz (mget 4))) mnil)))))
noncomputable def t_law_4 : M Fl := (mSetS 5 (mCall gTupleOf (mcons (mval c_law_2) mnil)))
noncomputable def t_law_5 : M Fl := (mIfS (mOr (mNot (mB (mCallF fd__law_is_time_right (mcons (mArgI 2) (mcons (mArgF (mfz (mget 3))) (mcons (mArgF (mfz (mOp2 gIxS (mslot 5) (mval (pure (frv (.int 0))))))) mnil)))))) (mNot (mB (mCallF fd__law_are_clocks_right (mcons (mArgI 2) (mcons (mArgF (mfz (mget 3))) (mcons (mArgF (mfz (mget 5))) mnil))))))) (mRet (pure (frv (.bool false)))) (pure .nx))
noncomputable def t_law_6 : M Fl := (mIfS (mNot (mB (mCallF fd__law_is_speed_right (mcons (mArgI 2) (mcons (mArgF (mfz (mget 3))) (mcons (mArgF (mfz (mOp2 gIxS (mslot 5) (mval (mOp1 gNeg (mval (pure (frv (.int 1))))))))) (mcons (mArgF (mfz (mCall gInt1 (mcons (mval (mCallF fd__law_take (mcons (mArgI 2) (mcons (mArgF (mfz (pure (frv (.int 9))))) mnil)))) mnil)))) mnil))))))) (mRet (pure (frv (.bool false)))) (pure .nx))
noncomputable def u_law_1 : M Fl := (mSeq t_law_1
  (mSeq t_law_2
  (mSeq t_law_3
  (mSeq t_law_4
  (mSeq t_law_5
  t_law_6)))))
noncomputable def l_law_1 : M Fl := mFor (mIt (mfz (mCallF fd__law_places (mcons (mArgF (mfz (mget 0))) (mcons (mArgF (mfz (pure (frv (.int 3))))) mnil))))) (putS 1) u_law_1
noncomputable def t_law_7 : M Fl := (mRet (pure (frv (.bool true))))
noncomputable def b_law : M Fl := (mSeq l_law_1
  t_law_7)
noncomputable def fd_law : FD := ⟨[false], runF [false] 7 b_law⟩
@[simp] theorem io_law : fd_law.io = [false] := by
  delta fd_law
  rfl
theorem g_law (ds : List PyData) : fd_law.g ds = Rf.of [false] (b_law (env0 [false] ds 7)) := by
  delta fd_law
  exact runF_e [false] 7 b_law ds
theorem ok_law (hB : Bu mg) (hG : Gc mg) (D : Dfn K mg "law" s_law ps_law) (h__law_places : Cal P w K mg base 1 cl "_law_places" ps__law_places fd__law_places) (h__law_pot : Cal P w K mg base 1 cl "_law_pot" ps__law_pot fd__law_pot) (h__law_take : Cal P w K mg base 1 cl "_law_take" ps__law_take fd__law_take) (h__law_of : Cal P w K mg base 2 cl "_law_of" ps__law_of fd__law_of) (h__law_row : Cal P w K mg base 2 cl "_law_row" ps__law_row fd__law_row) (h__law_is_time_right : Cal P w K mg base 8 cl "_law_is_time_right" ps__law_is_time_right fd__law_is_time_right) (h__law_are_clocks_right : Cal P w K mg base 7 cl "_law_are_clocks_right" ps__law_are_clocks_right fd__law_are_clocks_right) (h__law_is_speed_right : Cal P w K mg base 7 cl "_law_is_speed_right" ps__law_is_speed_right fd__law_is_speed_right) : Cal P w K mg base 9 cl "law" ps_law fd_law :=
  cal_of (N := ["script", "place", "pot", "least", "spread", "rows", "lap"]) (k := 8) (io := [false]) (fx := ioIx [false]) (body := b_law) D sc_law rfl (fun _ => mem_ioIx) fun f cdv A outer s H E hr => (qss_cons (qs_for hpD rfl (qi_seq (qf_of (qe_callC (h__law_places.mono (by decide)) hr rfl hxD (qar_cons (qr_fz (qf_of (qe_var (pe_var (i := 0) rfl (.inl rfl) (by decide) (by decide))))) (qar_cons (qr_fz (qf_of qe_int)) qar_nil rfl) rfl) (by decide) rfl rfl))) (qg_name (i := 1) sc_law.nd rfl (.inl rfl) (.inl rfl) (by decide)) (fun _ => noEx_put) (qss_cons (qs_set (i := 2) sc_law.nd rfl (.inr rfl) (.inl rfl) (by decide) (qe_callC (h__law_pot.mono (by decide)) hr rfl hxD (qar_cons (qr_fz (qf_of (qe_var (pe_var (i := 0) rfl (.inl rfl) (by decide) (by decide))))) (qar_cons (qr_fz (qf_of (qe_var (pe_var (i := 1) rfl (.inl rfl) (by decide) (by decide))))) qar_nil rfl) rfl) (by decide) rfl rfl) rfl rfl)
    (qss_cons (qs_set (i := 3) sc_law.nd rfl (.inr rfl) (.inl rfl) (by decide) (ce_tuple rfl hB.b_tuple (qo_val (qe_lc (own := [("lap", 6)]) rfl sc_law.nd (qi_range1 rfl hB.b_range (pa1 (qo_val (qe_add (qo_val qe_int) (qo_val (qe_callC (h__law_take.mono (by decide)) hr rfl hxD (qar_cons (qr_io (pe_var (i := 2) rfl (.inr (.inl rfl)) (by decide) (by decide))) (qar_cons (qr_fz (qf_of qe_int)) qar_nil rfl) rfl) (by decide) rfl rfl)))) rfl) rfl) (blkOk_by (by kernel_rfl)) (fun _ _ _ _ _ => (qg_name (i := 6) sc_law.nd rfl (.inl rfl) (.inr rfl) (nbut (by decide)))) (fun _ _ _ _ _ => qts_nil) (fun _ _ _ _ _ => (qf_of (ce_int rfl hB.b_int (qo_val (qe_callC0 (h__law_take.mono (by decide)) hr rfl (qar_cons (qr_io (pe_var (i := 2) rfl (.inr (.inl  rfl)) (by decide) (by decide))) (qar_cons (qr_fz (qf_of qe_int)) qar_nil rfl) rfl) (by decide) rfl rfl)) rfl))) (fun _ => rfl))) rfl) rfl rfl)
    (qss_cons (qs_set (i := 4) sc_law.nd rfl (.inr rfl) (.inl rfl) (by decide) (qe_callC (h__law_of.mono (by decide)) hr rfl hxD (qar_cons (qr_io (pe_var (i := 2) rfl (.inr (.inl rfl)) (by decide) (by decide))) (qar_cons (qr_fz (qf_of (qe_lst (qaf_cons (qf_of qe_int) (qaf_cons (qf_of qe_int) (qaf_cons (qf_of qe_int) (qaf_cons (qf_of qe_int) qaf_nil rfl) rfl) rfl) rfl)))) qar_nil rfl) rfl) (by decide) rfl rfl) rfl rfl)
    (qss_cons (qs_set (i := 5) sc_law.nd rfl (.inl rfl) (.inl rfl) (by decide) (ce_tuple rfl hB.b_tuple (qo_val (qe_lc (own := [("lap", 6)]) rfl sc_law.nd (qi_range1 rfl hB.b_range (pa1 (qo_val (qe_add (qo_val qe_int) (qo_val (qe_callC (h__law_take.mono (by decide)) hr rfl hxD (qar_cons (qr_io (pe_var (i := 2) rfl (.inr (.inl rfl)) (by decide) (by decide))) (qar_cons (qr_fz (qf_of qe_int)) qar_nil rfl) rfl) (by decide) rfl rfl)))) rfl) rfl) (blkOk_by (by kernel_rfl)) (fun _ _ _ _ _ => (qg_name (i := 6) sc_law.nd rfl (.inl rfl) (.inr rfl) (nbut (by decide)))) (fun _ _ _ _ _ => qts_nil) (fun _ _ _ _ _ => (qf_of (qe_callC0 (h__law_row.mono (by decide)) hr rfl (qar_cons (qr_io (pe_var (i := 2) rfl (.inr (.inl  rfl)) (by decide) (by decide))) (qar_cons (qr_fz (qf_of (qe_var (pe_var (i := 3) rfl (.inr (.inl  rfl)) (by decide) (by decide))))) (qar_cons (qr_fz (qf_of (qe_var (pe_var (i := 4) rfl (.inr (.inl  rfl)) (by decide) (by decide))))) qar_nil rfl) rfl) rfl) (by decide) rfl rfl))) (fun _ => rfl))) rfl) rfl rfl)
    (qss_cons (qs_if (PW.pt (qw_or (qt_not (qt_val (qe_callC (h__law_is_time_right.mono (by decide)) hr rfl hxD (qar_cons (qr_io (pe_var (i := 2) rfl (.inr (.inl rfl)) (by decide) (by decide))) (qar_cons (qr_fz (qf_of (qe_var (pe_var (i := 3) rfl (.inr (.inl rfl)) (by decide) (by decide))))) (qar_cons (qr_fz (qf_of (ce_ix (qo_var (pe_var (i := 5) rfl (.inl rfl) (by decide) (by decide))) (qo_val qe_int) (fun _ _ => rfl)))) qar_nil rfl) rfl) rfl) (by decide) rfl rfl) fun _ => rfl)) (qw_or1 (qt_not (qt_val (qe_callC (h__law_are_clocks_right.mono (by decide)) hr rfl hxD (qar_cons (qr_io (pe_var (i := 2) rfl (.inr (.inl rfl)) (by decide) (by decide))) (qar_cons (qr_fz (qf_of (qe_var (pe_var (i := 3) rfl (.inr (.inl rfl)) (by decide) (by decide))))) (qar_cons (qr_fz (qf_of (qe_var (pe_var (i := 5) rfl (.inl rfl) (by decide) (by decide))))) qar_nil rfl) rfl) rfl) (by decide) rfl rfl) fun _ => rfl))))) (qss_one (qs_ret qe_bl)) qss_nil)
    (qss_one (qs_if (qt_not (qt_val (qe_callC (h__law_is_speed_right.mono (by decide)) hr rfl hxD (qar_cons (qr_io (pe_var (i := 2) rfl (.inr (.inl rfl)) (by decide) (by decide))) (qar_cons (qr_fz (qf_of (qe_var (pe_var (i := 3) rfl (.inr (.inl rfl)) (by decide) (by decide))))) (qar_cons (qr_fz (qf_of (ce_ix (qo_var (pe_var (i := 5) rfl (.inl rfl) (by decide) (by decide))) (qo_val (qe_neg (qo_val qe_int))) (fun _ _ => rfl)))) (qar_cons (qr_fz (qf_of (ce_int rfl hB.b_int (qo_val (qe_callC (h__law_take.mono (by decide)) hr rfl hxD (qar_cons (qr_io (pe_var (i := 2) rfl (.inr (.inl rfl)) (by decide) (by decide))) (qar_cons (qr_fz (qf_of qe_int)) qar_nil rfl) rfl) (by decide) rfl rfl)) rfl))) qar_nil rfl) rfl) rfl) rfl) (by decide) rfl rfl) fun _ => rfl)) (qss_one (qs_ret qe_bl)) qss_nil))))))) (fun _ => rfl))
    (qss_one (qs_ret qe_bl)))
theorem okF_law {f : Addr} {fd : FuncData} (hB : Bu mg) (hG : Gc mg) (F : Fun K "law" "law" s_law f fd) (h__law_places : Cal P w K mg base 1 cl "_law_places" ps__law_places fd__law_places) (h__law_pot : Cal P w K mg base 1 cl "_law_pot" ps__law_pot fd__law_pot) (h__law_take : Cal P w K mg base 1 cl "_law_take" ps__law_take fd__law_take) (h__law_of : Cal P w K mg base 2 cl "_law_of" ps__law_of fd__law_of) (h__law_row : Cal P w K mg base 2 cl "_law_row" ps__law_row fd__law_row) (h__law_is_time_right : Cal P w K mg base 8 cl "_law_is_time_right" ps__law_is_time_right fd__law_is_time_right) (h__law_are_clocks_right : Cal P w K mg base 7 cl "_law_are_clocks_right" ps__law_are_clocks_right fd__law_are_clocks_right) (h__law_is_speed_right : Cal P w K mg base 7 cl "_law_is_speed_right" ps__law_is_speed_right fd__law_is_speed_right) : FnOk P w K mg base (L2.CX P w) 9 f fd ps_law (spF K cl fd_law) := by
  delta fd_law
  exact fnok_of (N := ["script", "place", "pot", "least", "spread", "rows", "lap"]) (k := 8) (io := [false]) (fx := ioIx [false]) (body := b_law) F sc_law rfl (fun _ => mem_ioIx) fun cdv A outer s H E hr => (qss_cons (qs_for hpD rfl (qi_seq (qf_of (qe_callC (h__law_places.mono (by decide)) hr rfl hxD (qar_cons (qr_fz (qf_of (qe_var (pe_var (i := 0) rfl (.inl rfl) (by decide) (by decide))))) (qar_cons (qr_fz (qf_of qe_int)) qar_nil rfl) rfl) (by decide) rfl rfl))) (qg_name (i := 1) sc_law.nd rfl (.inl rfl) (.inl rfl) (by decide)) (fun _ => noEx_put) (qss_cons (qs_set (i := 2) sc_law.nd rfl (.inr rfl) (.inl rfl) (by decide) (qe_callC (h__law_pot.mono (by decide)) hr rfl hxD (qar_cons (qr_fz (qf_of (qe_var (pe_var (i := 0) rfl (.inl rfl) (by decide) (by decide))))) (qar_cons (qr_fz (qf_of (qe_var (pe_var (i := 1) rfl (.inl rfl) (by decide) (by decide))))) qar_nil rfl) rfl) (by decide) rfl rfl) rfl rfl)
    (qss_cons (qs_set (i := 3) sc_law.nd rfl (.inr rfl) (.inl rfl) (by decide) (ce_tuple rfl hB.b_tuple (qo_val (qe_lc (own := [("lap", 6)]) rfl sc_law.nd (qi_range1 rfl hB.b_range (pa1 (qo_val (qe_add (qo_val qe_int) (qo_val (qe_callC (h__law_take.mono (by decide)) hr rfl hxD (qar_cons (qr_io (pe_var (i := 2) rfl (.inr (.inl rfl)) (by decide) (by decide))) (qar_cons (qr_fz (qf_of qe_int)) qar_nil rfl) rfl) (by decide) rfl rfl)))) rfl) rfl) (blkOk_by (by kernel_rfl)) (fun _ _ _ _ _ => (qg_name (i := 6) sc_law.nd rfl (.inl rfl) (.inr rfl) (nbut (by decide)))) (fun _ _ _ _ _ => qts_nil) (fun _ _ _ _ _ => (qf_of (ce_int rfl hB.b_int (qo_val (qe_callC0 (h__law_take.mono (by decide)) hr rfl (qar_cons (qr_io (pe_var (i := 2) rfl (.inr (.inl  rfl)) (by decide) (by decide))) (qar_cons (qr_fz (qf_of qe_int)) qar_nil rfl) rfl) (by decide) rfl rfl)) rfl))) (fun _ => rfl))) rfl) rfl rfl)
    (qss_cons (qs_set (i := 4) sc_law.nd rfl (.inr rfl) (.inl rfl) (by decide) (qe_callC (h__law_of.mono (by decide)) hr rfl hxD (qar_cons (qr_io (pe_var (i := 2) rfl (.inr (.inl rfl)) (by decide) (by decide))) (qar_cons (qr_fz (qf_of (qe_lst (qaf_cons (qf_of qe_int) (qaf_cons (qf_of qe_int) (qaf_cons (qf_of qe_int) (qaf_cons (qf_of qe_int) qaf_nil rfl) rfl) rfl) rfl)))) qar_nil rfl) rfl) (by decide) rfl rfl) rfl rfl)
    (qss_cons (qs_set (i := 5) sc_law.nd rfl (.inl rfl) (.inl rfl) (by decide) (ce_tuple rfl hB.b_tuple (qo_val (qe_lc (own := [("lap", 6)]) rfl sc_law.nd (qi_range1 rfl hB.b_range (pa1 (qo_val (qe_add (qo_val qe_int) (qo_val (qe_callC (h__law_take.mono (by decide)) hr rfl hxD (qar_cons (qr_io (pe_var (i := 2) rfl (.inr (.inl rfl)) (by decide) (by decide))) (qar_cons (qr_fz (qf_of qe_int)) qar_nil rfl) rfl) (by decide) rfl rfl)))) rfl) rfl) (blkOk_by (by kernel_rfl)) (fun _ _ _ _ _ => (qg_name (i := 6) sc_law.nd rfl (.inl rfl) (.inr rfl) (nbut (by decide)))) (fun _ _ _ _ _ => qts_nil) (fun _ _ _ _ _ => (qf_of (qe_callC0 (h__law_row.mono (by decide)) hr rfl (qar_cons (qr_io (pe_var (i := 2) rfl (.inr (.inl  rfl)) (by decide) (by decide))) (qar_cons (qr_fz (qf_of (qe_var (pe_var (i := 3) rfl (.inr (.inl  rfl)) (by decide) (by decide))))) (qar_cons (qr_fz (qf_of (qe_var (pe_var (i := 4) rfl (.inr (.inl  rfl)) (by decide) (by decide))))) qar_nil rfl) rfl) rfl) (by decide) rfl rfl))) (fun _ => rfl))) rfl) rfl rfl)
    (qss_cons (qs_if (PW.pt (qw_or (qt_not (qt_val (qe_callC (h__law_is_time_right.mono (by decide)) hr rfl hxD (qar_cons (qr_io (pe_var (i := 2) rfl (.inr (.inl rfl)) (by decide) (by decide))) (qar_cons (qr_fz (qf_of (qe_var (pe_var (i := 3) rfl (.inr (.inl rfl)) (by decide) (by decide))))) (qar_cons (qr_fz (qf_of (ce_ix (qo_var (pe_var (i := 5) rfl (.inl rfl) (by decide) (by decide))) (qo_val qe_int) (fun _ _ => rfl)))) qar_nil rfl) rfl) rfl) (by decide) rfl rfl) fun _ => rfl)) (qw_or1 (qt_not (qt_val (qe_callC (h__law_are_clocks_right.mono (by decide)) hr rfl hxD (qar_cons (qr_io (pe_var (i := 2) rfl (.inr (.inl rfl)) (by decide) (by decide))) (qar_cons (qr_fz (qf_of (qe_var (pe_var (i := 3) rfl (.inr (.inl rfl)) (by decide) (by decide))))) (qar_cons (qr_fz (qf_of (qe_var (pe_var (i := 5) rfl (.inl rfl) (by decide) (by decide))))) qar_nil rfl) rfl) rfl) (by decide) rfl rfl) fun _ => rfl))))) (qss_one (qs_ret qe_bl)) qss_nil)
    (qss_one (qs_if (qt_not (qt_val (qe_callC (h__law_is_speed_right.mono (by decide)) hr rfl hxD (qar_cons (qr_io (pe_var (i := 2) rfl (.inr (.inl rfl)) (by decide) (by decide))) (qar_cons (qr_fz (qf_of (qe_var (pe_var (i := 3) rfl (.inr (.inl rfl)) (by decide) (by decide))))) (qar_cons (qr_fz (qf_of (ce_ix (qo_var (pe_var (i := 5) rfl (.inl rfl) (by decide) (by decide))) (qo_val (qe_neg (qo_val qe_int))) (fun _ _ => rfl)))) (qar_cons (qr_fz (qf_of (ce_int rfl hB.b_int (qo_val (qe_callC (h__law_take.mono (by decide)) hr rfl hxD (qar_cons (qr_io (pe_var (i := 2) rfl (.inr (.inl rfl)) (by decide) (by decide))) (qar_cons (qr_fz (qf_of qe_int)) qar_nil rfl) rfl) (by decide) rfl rfl)) rfl))) qar_nil rfl) rfl) rfl) rfl) (by decide) rfl rfl) fun _ => rfl)) (qss_one (qs_ret qe_bl)) qss_nil))))))) (fun _ => rfl))
    (qss_one (qs_ret qe_bl)))
end
end Lw

set_option maxRecDepth 100000
/-! k10: what each def answers, on lists of whole numbers. -/
namespace Lw
open PySem PySem.Spec L2 Pv
@[simp] theorem e_is_tuple (ds : List PyData) (a b : Int) : fd_is_tuple.g [.tuple ds, .int a, .int b] = .ok ⟨.bool (decide (a ≤ ds.length ∧ (ds.length : Int) ≤ b)), .fr⟩ [] := by
  simp [g_is_tuple, b_is_tuple]
  by_cases h : a ≤ ds.length <;> simp [h]
@[simp] theorem e_is_whole (i : Int) : fd_is_whole.g [.int i] = .ok ⟨.bool true, .fr⟩ [] := by
  simp [g_is_whole, b_is_whole]
@[simp] theorem e_is_integer (i a b : Int) : fd_is_integer.g [.int i, .int a, .int b] = .ok ⟨.bool (decide (a ≤ i ∧ i ≤ b)), .fr⟩ [] := by
  simp [g_is_integer, b_is_integer]
  by_cases h : a ≤ i <;> simp [h]
@[simp] theorem e_needed (ns : List Int) (a b : Int) : fd_needed.g [.tuple (ns.map .int), .int a, .int b] = .ok ⟨.int (cutD ns (some a) (some b)).sum, .fr⟩ [] := by
  simp [g_needed, b_needed, cutD_map]
theorem e_is_row (ns : List Int) (n m : Int) (hn : n = ns.length) (hl : ns.length ≤ 1000) (hm : ∀ x ∈ ns, 0 ≤ x ∧ x ≤ m) : fd_is_row.g [.tuple (ns.map .int), .int n, .int m] = .ok ⟨.bool true, .fr⟩ [] := by
  have h : c_is_row_1 [some ⟨.tuple (ns.map .int), .fr⟩, some ⟨.int n, .fr⟩, some ⟨.int m, .fr⟩, none] = .ok ⟨.list ((ns.map fun i => decide (0 ≤ i ∧ i ≤ m)).map .bool), .ow⟩ [some ⟨.tuple (ns.map .int), .fr⟩, some ⟨.int n, .fr⟩, some ⟨.int m, .fr⟩, none] := by
    rw [List.map_map]
    exact mLc_all PyData.int _ ns (by simp) (by simp [plainAt]) (small hl) fun x _ => by simp
  subst hn
  simp [g_is_row, b_is_row, h, -List.map_map]
  exact hm
/-- a road, what was seen along it -/
structure OkL (ls : List Int) : Prop where
  l1 : 1 ≤ ls.length
  l2 : ls.length ≤ 11
  lo : ∀ x ∈ ls, 0 ≤ x ∧ x ≤ 100000
structure OkS (n : Nat) (ss : List Int) : Prop where
  len : ss.length = n + 1
  lo : ∀ x ∈ ss, 0 ≤ x ∧ x ≤ 1000000
theorem e_check_least (ls : List Int) (h : OkL ls) : fd_check_least.g [.tuple (ls.map .int)] = .ok ⟨.none, .fr⟩ [] := by
  have h1 : (1 : Int) ≤ ls.length := by have := h.l1; omega
  have h2 : (ls.length : Int) ≤ 11 := by have := h.l2; omega
  simp [g_check_least, b_check_least, h1, h2, e_is_row ls _ 100000 rfl (by have := h.l2; omega) h.lo]
theorem e_check_seen (ls ss : List Int) (off : Int) (h : OkL ls) (hs : OkS ls.length ss) (h0 : 0 ≤ off) (h1 : off ≤ 1000) : fd_check_seen.g [.tuple (ls.map .int), .tuple (ss.map .int), .int off] = .ok ⟨.none, .fr⟩ [] := by
  simp [g_check_seen, b_check_seen, t_check_seen_1, t_check_seen_2, t_check_seen_3, e_check_least ls h, e_is_row ss (ls.length + 1) 1000000 (by rw [hs.len]; push_cast; rfl) (by rw [hs.len]; have := h.l2; omega) hs.lo, h0, h1]
theorem cut_seg {ns : List Int} {a b : Nat} (h1 : a ≤ ns.length) (h2 : b ≤ ns.length) : (cutD ns (some (a : Int)) (some (b : Int))).sum = seg ns a b := by
  rw [cut_both h1 h2]; rfl
/-! ### too_fast -/
/-- the earliest times -/
def tK (ls ss : List Int) (off : Int) (k : Nat) : Int := nth ss k - off + nth (kad 0 (rooms1 ls ss)) k
theorem kad_getD {rs : List Int} {k : Nat} (h : k ≤ rs.length) : (kad 0 rs)[k]? = some (nth (kad 0 rs) k) := nth_some (by rw [kad_length]; omega)
theorem tK_zero (ls ss : List Int) (off : Int) : tK ls ss off 0 = nth ss 0 - off := by
  unfold tK
  rw [nth_of (kad_zero _ _)]
  omega
theorem kad_next {ls ss : List Int} (hl : ss.length = ls.length + 1) {k : Nat} (h : k < ls.length) : nth (kad 0 (rooms1 ls ss)) (k + 1) = max 0 (nth (kad 0 (rooms1 ls ss)) k - (nth ss (k + 1) - nth ss k - nth ls k)) := by
  have hr := rooms1_length ls ss hl
  have e1 := kad_getD (rs := rooms1 ls ss) (k := k) (by omega)
  have e2 := rooms1_get ls ss k _ _ _ (nth_some h) (nth_some (by omega)) (nth_some (k := k + 1) (by omega))
  have e3 := kad_step _ _ _ _ _ e1 e2
  have e4 := kad_getD (rs := rooms1 ls ss) (k := k + 1) (by omega)
  rw [e3] at e4
  exact (Option.some.inj e4).symm
theorem tK_step {ls ss : List Int} (off : Int) (hl : ss.length = ls.length + 1) {k : Nat} (h : k < ls.length) :
    tK ls ss off (k + 1) = if nth ss (k + 1) - off < tK ls ss off k + nth ls k then tK ls ss off k + nth ls k else nth ss (k + 1) - off := by
  have := kad_next hl h
  unfold tK
  split <;> omega
/-- a slot written at each turn -/
def pv (f : Nat → PyData) : Nat → Option SV
  | 0 => none
  | i + 1 => some ⟨f i, .fr⟩
def Itf (ls ss : List Int) (off : Int) (i : Nat) : PEnv := [some ⟨.tuple (ls.map .int), .fr⟩, some ⟨.tuple (ss.map .int), .fr⟩, some ⟨.int off, .fr⟩, some ⟨.list ((List.range (i + 1)).map fun k => PyData.int (tK ls ss off k)), .ow⟩,
  pv (fun k => .int (k : Nat)) i, pv (fun k => .int (nth ss (k + 1))) i, none, none, none, none]
theorem drop1_get {ss : List Int} {i : Nat} {x : PyData} (h : ((ss.drop 1).map PyData.int)[i]? = some x) : x = .int (nth ss (i + 1)) ∧ i + 1 < ss.length := by
  rw [List.getElem?_map, List.getElem?_drop, Nat.add_comm 1 i] at h
  cases e : ss[i + 1]? with
  | none => rw [e] at h; cases h
  | some y =>
    rw [e] at h
    cases h
    exact ⟨by rw [nth_of e], (List.getElem?_eq_some_iff.mp e).1⟩
theorem r_tf1 (ls ss : List Int) (off : Int) (hl : ss.length = ls.length + 1) (h11 : ls.length ≤ 11) : l_too_fast_1 (Itf ls ss off 0) = .ok .nx (Itf ls ss off ls.length) := by
  have e : (mEn (mIt (mfz (mSl (mslot 1) (some (mval (pure (frv (.int 1))))) none)))) (Itf ls ss off 0) = .ok (enumD 0 ((ss.drop 1).map .int)) (Itf ls ss off 0) := by
    simp [Itf, cut1]
  have hn : (enumD 0 ((ss.drop 1).map PyData.int)).length = ls.length := by rw [enumD_length, List.length_map, List.length_drop]; omega
  unfold l_too_fast_1
  rw [mFor_e, bind_run, e, to_ok]
  have := forL_all (ft := tgTup 2 (tgCons (putS 4) (tgCons (putS 5) tgNil))) (fb := u_too_fast_1) (Itf ls ss off) (enumD 0 ((ss.drop 1).map PyData.int)) 0 fun i d hd => by
    obtain ⟨x, hx, rfl⟩ := enumD_ext hd
    obtain ⟨rfl, hi⟩ := drop1_get hx
    rw [Nat.zero_add]
    have hk : i < ls.length := by omega
    refine ⟨.nx, .inl rfl, ?_⟩
    have e1 := at_rng (f := fun k => PyData.int (tK ls ss off k)) (m := i + 1) (k := i) (by omega)
    have e2 := at_nth (ns := ls) hk
    have e3 : i + 1 < sizeLine := smallT (by omega)
    have e4 := tK_step off hl hk
    simp [u_too_fast_1, Itf, pv, e1, e2, e3]
    rw [← rng_push (m := i + 1), e4]
  rw [hn, Nat.zero_add] at this
  exact this
def lateK (ls ss : List Int) (off : Int) : List Nat := (List.range (ls.length + 1)).filter fun k => decide (nth ss k + off < tK ls ss off k)
def Itg (ls ss : List Int) (off : Int) (late : Option SV) (other : Option SV) : PEnv := [some ⟨.tuple (ls.map .int), .fr⟩, some ⟨.tuple (ss.map .int), .fr⟩, some ⟨.int off, .fr⟩, some ⟨.list ((List.range (ls.length + 1)).map fun k => PyData.int (tK ls ss off k)), .fr⟩,
  pv (fun k => .int (k : Nat)) ls.length, pv (fun k => .int (nth ss (k + 1))) ls.length, late, other, none, none]
theorem plain_pv (f : Nat → PyData) (n : Nat) : (match (some (pv f n) : Option (Option SV)) with | some (some sv) => decide (sv.o = .fr) | some none => true | none => false) = true := by cases n <;> rfl
theorem r_tf2 (ls ss : List Int) (off : Int) (hl : ss.length = ls.length + 1) (h11 : ls.length ≤ 11) : c_too_fast_1 (Itf ls ss off ls.length) = .ok ⟨.list ((lateK ls ss off).map fun (k : Nat) => PyData.int k), .ow⟩ (Itg ls ss off none none) := by
  have e : (mEn (mIt (mfz (mget 3)))) (Itf ls ss off ls.length) = .ok ((List.range (ls.length + 1)).map fun k => PyData.tuple [.int (k : Nat), .int (tK ls ss off k)]) (Itg ls ss off none none) := by
    simp [Itf, Itg, enumD_range]
  unfold lateK
  rw [← filterMap_if]
  refine mLc_run (fun k : Nat => PyData.tuple [.int (k : Nat), .int (tK ls ss off k)]) _ (List.range (ls.length + 1)) e ?_ (by rw [List.length_range]; exact Pv.small (by omega)) fun k hk => ?_
  · have p1 := plain_pv (fun k => PyData.int (k : Nat)) ls.length
    have p2 := plain_pv (fun k => PyData.int (nth ss (k + 1))) ls.length
    simp [plainAt, Itg]
    exact ⟨p1, p2⟩
  · have hk : k < ls.length + 1 := List.mem_range.mp hk
    have e1 := at_nth (ns := ss) (k := k) (by omega)
    by_cases q : nth ss k + off < tK ls ss off k <;> simp [Itg, e1, q]
def overK (ls ss : List Int) (off : Int) (x : Nat) : List Nat := (List.range x).filter fun i => decide (nth ss x - nth ss i + 2 * off < seg ls i x)
theorem r_tf3 (ls ss : List Int) (off : Int) (hl : ss.length = ls.length + 1) (h11 : ls.length ≤ 11) (x : Nat) (hx : x ≤ ls.length) (late : Option SV) :
    c_too_fast_2 (Itg ls ss off late (some ⟨.int (x : Nat), .fr⟩)) = .ok ⟨.list ((overK ls ss off x).map fun (k : Nat) => PyData.int k), .ow⟩ (Itg ls ss off late (some ⟨.int (x : Nat), .fr⟩)) := by
  have e : (mRg rg1 (mcons (mslot 7) mnil)) (Itg ls ss off late (some ⟨.int (x : Nat), .fr⟩)) = .ok ((List.range x).map fun k => PyData.int (k : Nat)) (Itg ls ss off late (some ⟨.int (x : Nat), .fr⟩)) := by
    have := rg1_int x (by omega)
    simp [Itg, this, rgD_range]
  unfold overK
  rw [← filterMap_if]
  refine mLc_run (fun k : Nat => PyData.int (k : Nat)) _ (List.range x) e (by simp [plainAt, Itg]) (by rw [List.length_range]; exact Pv.small (by omega)) fun k hk => ?_
  have hk : k < x := List.mem_range.mp hk
  have e1 := at_nth (ns := ss) (k := k) (by omega)
  have e2 := at_nth (ns := ss) (k := x) (by omega)
  have e3 := cut_seg (ns := ls) (a := k) (b := x) (by omega) hx
  by_cases q : nth ss x - nth ss k + 2 * off < seg ls k x <;> simp [Itg, e1, e2, e3, q]
theorem kad_over {ls ss : List Int} (hl : ss.length = ls.length + 1) {off : Int} (h0 : 0 ≤ off) {x : Nat} (hx : x ≤ ls.length) (h : nth ss x + off < tK ls ss off x) : ∃ i, i < x ∧ nth ss x - nth ss i + 2 * off < seg ls i x := by
  have hr := rooms1_length ls ss hl
  unfold tK at h
  have e := kad_getD (rs := rooms1 ls ss) (k := x) (by omega)
  have key : ∃ i, i ≤ x ∧ nth (kad 0 (rooms1 ls ss)) x = -seg (rooms1 ls ss) i x := by
    rcases kad_att _ 0 x _ (Int.le_refl _) e with q | q
    · exact ⟨0, Nat.zero_le _, by omega⟩
    · exact q
  obtain ⟨i, hi, q⟩ := key
  have t := rooms1_seg ls ss hl i x hi hx _ _ (nth_some (by omega)) (nth_some (by omega))
  refine ⟨i, ?_, by omega⟩
  by_cases z : i = x
  · subst z
    rw [seg_self] at q
    omega
  · omega
/-- too_fast: the earliest times, or two gates between which there was too little time -/
theorem e_too_fast (ls ss : List Int) (off : Int) (h : OkL ls) (hs : OkS ls.length ss) (h0 : 0 ≤ off) (h1 : off ≤ 1000) :
    (lateK ls ss off = [] ∧ fd_too_fast.g [.tuple (ls.map .int), .tuple (ss.map .int), .int off] = .ok ⟨.tuple [.str "may", .tuple ((List.range (ls.length + 1)).map fun k => PyData.int (tK ls ss off k))], .fr⟩ []) ∨
    (lateK ls ss off ≠ [] ∧ ∃ i x : Nat, i < x ∧ x ≤ ls.length ∧ nth ss x - nth ss i + 2 * off < seg ls i x ∧ fd_too_fast.g [.tuple (ls.map .int), .tuple (ss.map .int), .int off] = .ok ⟨.tuple [.str "surely", .int (i : Nat), .int (x : Nat)], .fr⟩ []) := by
  have hl := hs.len
  have h11 := h.l2
  have c0 := e_check_seen ls ss off h hs h0 h1
  have c1 := r_tf1 ls ss off hl h11
  have c2 := r_tf2 ls ss off hl h11
  have e0 := at_nth (ns := ss) (k := 0) (by omega)
  have e0 : L2.atI (ss.map PyData.int) 0 = some (.int (nth ss 0)) := e0
  have eI : [some ⟨.tuple (ls.map .int), .fr⟩, some ⟨.tuple (ss.map .int), .fr⟩, some ⟨.int off, .fr⟩, some ⟨.list [.int (nth ss 0 - off)], .ow⟩, none, none, none, none, none, none] = Itf ls ss off 0 := by
    unfold Itf
    simp [pv, tK_zero]
  let ρ0 : PEnv := [some ⟨.tuple (ls.map .int), .fr⟩, some ⟨.tuple (ss.map .int), .fr⟩, some ⟨.int off, .fr⟩, none, none, none, none, none, none, none]
  have s1 : t_too_fast_1 ρ0 = .ok .nx ρ0 := by simp [t_too_fast_1, ρ0, c0]
  have s2 : t_too_fast_2 ρ0 = .ok .nx (Itf ls ss off 0) := by rw [← eI]; simp [t_too_fast_2, ρ0, e0]
  have s3 : t_too_fast_3 (Itf ls ss off ls.length) = .ok .nx (Itg ls ss off (some ⟨.list ((lateK ls ss off).map fun (k : Nat) => PyData.int k), .ow⟩) none) := by
    simp [t_too_fast_3, c2]
    simp [Itg]
  rw [g_too_fast]
  show (lateK ls ss off = [] ∧ Rf.of _ (b_too_fast ρ0) = _) ∨ (lateK ls ss off ≠ [] ∧ ∃ i x : Nat, i < x ∧ x ≤ ls.length ∧ nth ss x - nth ss i + 2 * off < seg ls i x ∧ Rf.of _ (b_too_fast ρ0) = _)
  rw [b_too_fast, mSeq_nx s1, mSeq_nx s2, mSeq_nx c1, mSeq_nx s3]
  cases q : lateK ls ss off with
  | nil =>
    left
    refine ⟨rfl, ?_⟩
    have s4 : t_too_fast_4 (Itg ls ss off (some ⟨.list (([] : List Nat).map fun (k : Nat) => PyData.int k), .ow⟩) none) = .ok (.rt ⟨.tuple [.str "may", .tuple ((List.range (ls.length + 1)).map fun k => PyData.int (tK ls ss off k))], .fr⟩) (Itg ls ss off (some ⟨.list (([] : List Nat).map fun (k : Nat) => PyData.int k), .ow⟩) none) := by
      simp [t_too_fast_4, Itg]
    rw [mSeq_rt s4]
    simp [Itg]
  | cons x r =>
    right
    refine ⟨fun z => (nomatch z), ?_⟩
    have hx : x ∈ lateK ls ss off := by rw [q]; exact List.mem_cons_self
    unfold lateK at hx
    rw [List.mem_filter, List.mem_range, decide_eq_true_eq] at hx
    have hxl : x ≤ ls.length := by omega
    obtain ⟨i0, hi0, hi1⟩ := kad_over hl h0 hxl hx.2
    have hm : i0 ∈ overK ls ss off x := by
      unfold overK
      rw [List.mem_filter, List.mem_range, decide_eq_true_eq]
      exact ⟨hi0, hi1⟩
    have hne : overK ls ss off x ≠ [] := List.ne_nil_of_mem hm
    have el := List.getLast?_eq_getLast hne
    have hm2 := List.getLast_mem hne
    generalize (overK ls ss off x).getLast hne = i at el hm2
    unfold overK at hm2
    rw [List.mem_filter, List.mem_range, decide_eq_true_eq] at hm2
    refine ⟨i, x, hm2.1, hxl, hm2.2, ?_⟩
    let L : Option SV := some ⟨.list ((x :: r).map fun (k : Nat) => PyData.int k), .ow⟩
    have s4 : t_too_fast_4 (Itg ls ss off L none) = .ok .nx (Itg ls ss off L none) := by
      simp only [L]
      have e := gEq_mapint_nil false (fun k : Nat => (k : Int)) (x :: r)
      simp at e
      simp [t_too_fast_4, Itg, e]
    have s5 : t_too_fast_5 (Itg ls ss off L none) = .ok .nx (Itg ls ss off L (some ⟨.int (x : Nat), .fr⟩)) := by
      simp [t_too_fast_5, Itg, L, at_head]
    have s6 : t_too_fast_6 (Itg ls ss off L (some ⟨.int (x : Nat), .fr⟩)) = .ok .nx ((Itg ls ss off L (some ⟨.int (x : Nat), .fr⟩)).set 8 (some ⟨.list ((overK ls ss off x).map fun (k : Nat) => PyData.int k), .ow⟩)) := by
      simp [t_too_fast_6, r_tf3 ls ss off hl h11 x hxl]
      simp [Itg]
    have e8 := at_last_map (f := fun k : Nat => PyData.int (k : Nat)) el
    have s7 : t_too_fast_7 ((Itg ls ss off L (some ⟨.int (x : Nat), .fr⟩)).set 8 (some ⟨.list ((overK ls ss off x).map fun (k : Nat) => PyData.int k), .ow⟩)) = .ok (.rt ⟨.tuple [.str "surely", .int (i : Nat), .int (x : Nat)], .fr⟩) ((Itg ls ss off L (some ⟨.int (x : Nat), .fr⟩)).set 8 (some ⟨.list ((overK ls ss off x).map fun (k : Nat) => PyData.int k), .ow⟩)) := by
      simp [t_too_fast_7, Itg, e8]
    rw [mSeq_nx s4, mSeq_nx s5, mSeq_nx s6, s7]
    simp [Itg]
end Lw

set_option maxRecDepth 100000
/-! k10: shows_too_fast, least_off. -/
namespace Lw
open PySem PySem.Spec L2 Pv
@[simp] theorem q_ms (n : Bool) : gEq n (.str "may") (.str "surely") = some ⟨.bool (if n then true else false), .fr⟩ := by
  rw [gEq_str n (by decide +kernel) (by decide +kernel)]; cases n <;> rfl
@[simp] theorem q_mm (n : Bool) : gEq n (.str "may") (.str "may") = some ⟨.bool (if n then false else true), .fr⟩ := by
  rw [gEq_str n (by decide +kernel) (by decide +kernel)]; cases n <;> rfl
@[simp] theorem q_ss (n : Bool) : gEq n (.str "surely") (.str "surely") = some ⟨.bool (if n then false else true), .fr⟩ := by
  rw [gEq_str n (by decide +kernel) (by decide +kernel)]; cases n <;> rfl
@[simp] theorem q_sm (n : Bool) : gEq n (.str "surely") (.str "may") = some ⟨.bool (if n then true else false), .fr⟩ := by
  rw [gEq_str n (by decide +kernel) (by decide +kernel)]; cases n <;> rfl
/-- the value shown: the earliest times -/
def mayD (vs : List Int) : PyData := .tuple [.str "may", .tuple (vs.map .int)]
def surD (i x : Nat) : PyData := .tuple [.str "surely", .int (i : Nat), .int (x : Nat)]
def okV (ss : List Int) (off : Int) (vs : List Int) (k : Nat) : Prop := nth ss k - off ≤ nth vs k ∧ nth vs k ≤ nth ss k + off
instance (ss : List Int) (off : Int) (vs : List Int) (k : Nat) : Decidable (okV ss off vs k) := by unfold okV; infer_instance
def Ist (ls ss : List Int) (off : Int) (vs : List Int) (i : Nat) : PEnv := [some ⟨.tuple (ls.map .int), .fr⟩, some ⟨.tuple (ss.map .int), .fr⟩, some ⟨.int off, .fr⟩, some ⟨mayD vs, .fr⟩, none, none, some ⟨.int ss.length, .fr⟩,
  pv (fun k => .int (nth ss k)) i, pv (fun k => .int (nth vs k)) i, none]
theorem r_st1 (ls ss : List Int) (off : Int) (vs : List Int) (hv : vs.length = ss.length) : ((∀ k, k < ss.length → okV ss off vs k) ∧ l_shows_too_fast_1 (Ist ls ss off vs 0) = .ok .nx (Ist ls ss off vs ss.length)) ∨
    (¬(∀ k, k < ss.length → okV ss off vs k) ∧ ∃ ρ, l_shows_too_fast_1 (Ist ls ss off vs 0) = .ok (.rt ⟨.bool false, .fr⟩) ρ ∧ outsOf [false, false, false, false] ρ = some []) := by
  have e : (mZi2 (mIt (mfz (mget 1))) (mIt (mfz (mOp2 gIxS (mslot 3) (mval (pure (frv (.int 1)))))))) (Ist ls ss off vs 0) = .ok (zipD (ss.map .int) (vs.map .int)) (Ist ls ss off vs 0) := by
    simp [Ist, mayD, at_one]
  have hn : (zipD (ss.map PyData.int) (vs.map .int)).length = ss.length := by unfold zipD; rw [List.length_zipWith, List.length_map, List.length_map]; omega
  unfold l_shows_too_fast_1
  rw [mFor_e, bind_run, e, to_ok]
  have := forL_chk (ft := tgTup 2 (tgCons (putS 7) (tgCons (putS 8) tgNil))) (fb := u_shows_too_fast_1) (Ist ls ss off vs) (okV ss off vs) ⟨.bool false, .fr⟩ (fun ρ => outsOf [false, false, false, false] ρ = some []) (zipD (ss.map PyData.int) (vs.map .int)) 0 fun i d hd => by
    have hi : i < ss.length := by have := (List.getElem?_eq_some_iff.mp hd).1; omega
    obtain ⟨x, y, hx, hy, rfl⟩ := zipD_ext hd
    rw [mapint_get hi] at hx
    rw [mapint_get (by omega)] at hy
    cases hx; cases hy
    rw [Nat.zero_add]
    by_cases h1 : nth ss i - off ≤ nth vs i
    · by_cases h2 : nth vs i ≤ nth ss i + off
      · refine .inl ⟨⟨h1, h2⟩, .nx, .inl rfl, ?_⟩
        simp [u_shows_too_fast_1, Ist, pv, h1, h2]
      · refine .inr ⟨fun q => h2 q.2, _, by simp [u_shows_too_fast_1, Ist, pv, h1, h2]; rfl, rfl⟩
    · refine .inr ⟨fun q => h1 q.1, _, by simp [u_shows_too_fast_1, Ist, pv, h1]; rfl, rfl⟩
  simp only [hn, Nat.zero_add] at this
  exact this
theorem r_st2 (ls ss : List Int) (off : Int) (vs : List Int) (hv : vs.length = ls.length + 1) (h11 : ls.length ≤ 11) (i : Nat) : c_shows_too_fast_2 (Ist ls ss off vs i) = .ok ⟨.list (((List.range ls.length).map fun k => decide (nth ls k ≤ nth vs (k + 1) - nth vs k)).map .bool), .ow⟩ (Ist ls ss off vs i) := by
  have e : (mZi3 (mIt (mfz (mOp2 gIxS (mslot 3) (mval (pure (frv (.int 1))))))) (mIt (mfz (mSl (mval (mOp2 gIxS (mslot 3) (mval (pure (frv (.int 1)))))) (some (mval (pure (frv (.int 1))))) none))) (mIt (mfz (mget 0)))) (Ist ls ss off vs i) = .ok ((List.range ls.length).map fun k => PyData.tuple [.int (nth vs k), .int (nth vs (k + 1)), .int (nth ls k)]) (Ist ls ss off vs i) := by
    have := zip3D_range (ds := vs.map .int) (es := (vs.drop 1).map .int) (fs := ls.map .int) (m := ls.length) (f := fun k => .int (nth vs k)) (g := fun k => .int (nth vs (k + 1))) (h := fun k => .int (nth ls k)) (by simp only [List.length_map, List.length_drop]; omega) (fun i hi => mapint_get (by omega)) (fun i hi => by rw [drop_get (by omega), Nat.add_comm]) (fun i hi => mapint_get hi)
    rw [← this]
    simp [Ist, mayD, at_one, cut1]
  rw [← range_mapb]
  exact mLc_all (fun k : Nat => PyData.tuple [.int (nth vs k), .int (nth vs (k + 1)), .int (nth ls k)]) _ (List.range ls.length) e (by simp [plainAt, Ist]) (by rw [List.length_range]; exact Pv.small (by omega)) fun k hk => by simp [Ist]
theorem e_stf_may (ls ss : List Int) (off : Int) (vs : List Int) (h : OkL ls) (hs : OkS ls.length ss) (h0 : 0 ≤ off) (h1 : off ≤ 1000) (hv : vs.length = ls.length + 1) :
    fd_shows_too_fast.g [.tuple (ls.map .int), .tuple (ss.map .int), .int off, mayD vs] = .ok ⟨.bool (decide ((∀ k, k ≤ ls.length → okV ss off vs k) ∧ ∀ k, k < ls.length → nth ls k ≤ nth vs (k + 1) - nth vs k)), .fr⟩ [] := by
  have hl := hs.len
  have h11 := h.l2
  have c0 := e_check_seen ls ss off h hs h0 h1
  let ρ0 : PEnv := [some ⟨.tuple (ls.map .int), .fr⟩, some ⟨.tuple (ss.map .int), .fr⟩, some ⟨.int off, .fr⟩, some ⟨mayD vs, .fr⟩, none, none, none, none, none, none]
  have s1 : t_shows_too_fast_1 ρ0 = .ok .nx ρ0 := by simp [t_shows_too_fast_1, ρ0, c0]
  have s2 : t_shows_too_fast_2 ρ0 = .ok .nx ρ0 := by simp [t_shows_too_fast_2, ρ0, mayD, at_head]
  have s3 : t_shows_too_fast_6 ρ0 = .ok .nx ρ0 := by simp [t_shows_too_fast_6, ρ0, mayD, at_head]
  have s4 : t_shows_too_fast_7 ρ0 = .ok .nx (Ist ls ss off vs 0) := by simp [t_shows_too_fast_7, ρ0, Ist, pv]
  have hvs : vs.length = ss.length := by omega
  have s5 : t_shows_too_fast_8 (Ist ls ss off vs 0) = .ok .nx (Ist ls ss off vs 0) := by simp [t_shows_too_fast_8, Ist, mayD, at_head, at_one, hvs]
  rw [g_shows_too_fast]
  show Rf.of _ (b_shows_too_fast ρ0) = _
  rw [b_shows_too_fast, mSeq_nx s1, mSeq_nx s2, mSeq_nx s3, mSeq_nx s4, mSeq_nx s5]
  rcases r_st1 ls ss off vs hvs with ⟨a, b⟩ | ⟨a, ρ, b, c⟩
  · rw [mSeq_nx b]
    have s6 : t_shows_too_fast_9 (Ist ls ss off vs ss.length) = .ok (.rt ⟨.bool (((List.range ls.length).map fun k => decide (nth ls k ≤ nth vs (k + 1) - nth vs k)).all id), .fr⟩) (Ist ls ss off vs ss.length) := by
      have := r_st2 ls ss off vs hv h11 ss.length
      simp [t_shows_too_fast_9, this, -List.map_map]
    rw [s6, allR]
    simp only [decide_eq_true_eq]
    have q : (∀ k, k ≤ ls.length → okV ss off vs k) := fun k hk => a k (by omega)
    simp only [eq_true q, true_and]
    simp [Ist]
  · rw [mSeq_rt b]
    have q : ¬((∀ k, k ≤ ls.length → okV ss off vs k) ∧ ∀ k, k < ls.length → nth ls k ≤ nth vs (k + 1) - nth vs k) := fun z => a fun k hk => z.1 k (by omega)
    rw [decide_eq_false q, rf_rt, c]
theorem e_stf_sur (ls ss : List Int) (off : Int) (i x : Nat) (h : OkL ls) (hs : OkS ls.length ss) (h0 : 0 ≤ off) (h1 : off ≤ 1000) (hi : i ≤ ls.length) (hx : x ≤ ls.length) :
    fd_shows_too_fast.g [.tuple (ls.map .int), .tuple (ss.map .int), .int off, surD i x] = .ok ⟨.bool (decide (i < x ∧ nth ss x - nth ss i + 2 * off < seg ls i x)), .fr⟩ [] := by
  have hl := hs.len
  have h11 := h.l2
  have c0 := e_check_seen ls ss off h hs h0 h1
  let ρ0 : PEnv := [some ⟨.tuple (ls.map .int), .fr⟩, some ⟨.tuple (ss.map .int), .fr⟩, some ⟨.int off, .fr⟩, some ⟨surD i x, .fr⟩, none, none, none, none, none, none]
  have s1 : t_shows_too_fast_1 ρ0 = .ok .nx ρ0 := by simp [t_shows_too_fast_1, ρ0, c0]
  have s2 : t_shows_too_fast_2 ρ0 = .ok .nx ρ0 := by simp [t_shows_too_fast_2, ρ0, surD, at_head]
  have c1 : c_shows_too_fast_1 ρ0 = .ok ⟨.list ([true, true].map .bool), .ow⟩ ρ0 := by
    exact mLc_all PyData.int (fun _ => .bool true) [(i : Int), (x : Int)] (by simp [ρ0, surD, cut1]) (by simp [plainAt, ρ0]) (Pv.small (by simp)) fun k hk => by
      have : k = i ∨ k = x := by simpa using hk
      rcases this with rfl | rfl <;> simp [ρ0] <;> omega
  have hi' : (i : Int) ≤ ls.length := by omega
  have e1 := at_nth (ns := ss) (k := i) (by omega)
  have e2 := at_nth (ns := ss) (k := x) (by omega)
  have e3 := cut_seg (ns := ls) (a := i) (b := x) hi hx
  let ρ1 : PEnv := [some ⟨.tuple (ls.map .int), .fr⟩, some ⟨.tuple (ss.map .int), .fr⟩, some ⟨.int off, .fr⟩, some ⟨surD i x, .fr⟩, some ⟨.int i, .fr⟩, some ⟨.int x, .fr⟩, none, none, none, none]
  have s3 : t_shows_too_fast_6 ρ0 = .ok (.rt ⟨.bool (decide (i < x ∧ nth ss x - nth ss i + 2 * off < seg ls i x)), .fr⟩) ρ1 := by
    have t3 : t_shows_too_fast_3 ρ0 = .ok .nx ρ0 := by
      have gA : gAllAny (·.all id) [.list ([true, true].map .bool)] = some ⟨.bool true, .fr⟩ := gAllAny_list _ _
      simp only [ρ0, surD] at c1
      simp [t_shows_too_fast_3, ρ0, surD, c1, gA, -List.map_cons]
    have t4 : t_shows_too_fast_4 ρ0 = .ok .nx ρ1 := by
      simp [t_shows_too_fast_4, ρ0, ρ1, surD, cut1]
    have t5 : t_shows_too_fast_5 ρ1 = .ok (.rt ⟨.bool (decide (i < x ∧ nth ss x - nth ss i + 2 * off < seg ls i x)), .fr⟩) ρ1 := by
      by_cases q : i < x <;> simp [t_shows_too_fast_5, ρ1, e1, e2, e3, q]
    rw [t_shows_too_fast_6, mIfS_t (ρ' := ρ0) (by simp [ρ0, surD, at_head]), mSeq_nx t3, mSeq_nx t4, t5]
  rw [g_shows_too_fast]
  show Rf.of _ (b_shows_too_fast ρ0) = _
  rw [b_shows_too_fast, mSeq_nx s1, mSeq_nx s2, mSeq_rt s3]
  simp [ρ1]
end Lw

set_option maxRecDepth 100000
/-! k10: least_off, check_rows, slack_of, least_clocks. -/
namespace Lw
open PySem PySem.Spec L2 Pv
/-! ### the greatest of the sums -/
def accG (f : Nat → Nat → Int) : Nat → List Int
  | 0 => [0]
  | m + 1 => accG f m ++ (List.range m).map fun i => f i m
theorem accG_mem (f : Nat → Nat → Int) (x : Int) : ∀ m, x ∈ accG f m ↔ x = 0 ∨ ∃ i j, i < j ∧ j < m ∧ x = f i j
  | 0 => by
    constructor
    · intro h; left; simpa [accG] using h
    · rintro (h | ⟨i, j, _, h, _⟩)
      · subst h; exact List.mem_cons_self
      · omega
  | m + 1 => by
    show x ∈ accG f m ++ _ ↔ _
    rw [List.mem_append, accG_mem f x m, List.mem_map]
    constructor
    · rintro ((h | ⟨i, j, h1, h2, h3⟩) | ⟨i, h1, h2⟩)
      · exact .inl h
      · exact .inr ⟨i, j, h1, by omega, h3⟩
      · exact .inr ⟨i, m, List.mem_range.mp h1, by omega, h2.symm⟩
    · rintro (h | ⟨i, j, h1, h2, h3⟩)
      · exact .inl (.inl h)
      · by_cases q : j = m
        · subst q
          exact .inr ⟨i, List.mem_range.mpr h1, h3.symm⟩
        · exact .inl (.inr ⟨i, j, h1, by omega, h3⟩)
theorem accG_len (f : Nat → Nat → Int) : ∀ m, (accG f m).length ≤ 1 + m * m
  | 0 => by simp [accG]
  | m + 1 => by
    show (accG f m ++ _).length ≤ _
    rw [List.length_append, List.length_map, List.length_range]
    have := accG_len f m
    rw [Nat.add_mul, Nat.mul_add]
    omega
theorem accG_lack {f : Nat → Nat → Int} {rs : List Int} (h : ∀ i j, i < j → j ≤ rs.length → f i j = -seg rs i j) : mxI (accG f (rs.length + 1)) = lack rs := by
  refine mxI_eq ?_ fun x hx => ?_
  · rw [accG_mem]
    rcases lack_att rs with e | ⟨i, j, h1, h2, h3⟩
    · exact .inl e
    · exact .inr ⟨i, j, h1, by omega, by rw [h i j h1 h2]; exact h3⟩
  · rcases (accG_mem f x _).mp hx with e | ⟨i, j, h1, h2, h3⟩
    · rw [e]; exact lack_nn rs
    · rw [h3, h i j h1 (by omega)]
      exact lack_ge rs (by omega) (by omega)
theorem accG_ne (f : Nat → Nat → Int) (m : Nat) : accG f m ≠ [] := List.ne_nil_of_mem ((accG_mem f 0 m).mpr (.inl rfl))
/-- half the lack, rounded up -/
def hf (x : Int) : Int := (x + 1) / 2
/-! ### least_off -/
def fO (ls ss : List Int) (i j : Nat) : Int := seg ls i j - (nth ss j - nth ss i)
def Ilo (ls ss : List Int) (m : Nat) : PEnv := [some ⟨.tuple (ls.map .int), .fr⟩, some ⟨.tuple (ss.map .int), .fr⟩, some ⟨.list ((accG (fO ls ss) m).map .int), .ow⟩, pv (fun k => .int (k : Nat)) m, none]
theorem r_lo1 (ls ss : List Int) (hl : ss.length = ls.length + 1) (h11 : ls.length ≤ 11) (acc : PyData) (m : Nat) (hm : m ≤ ls.length) :
    c_least_off_1 [some ⟨.tuple (ls.map .int), .fr⟩, some ⟨.tuple (ss.map .int), .fr⟩, some ⟨acc, .ow⟩, some ⟨.int (m : Nat), .fr⟩, none] = .ok ⟨.list (((List.range m).map fun i => fO ls ss i m).map .int), .ow⟩ [some ⟨.tuple (ls.map .int), .fr⟩, some ⟨.tuple (ss.map .int), .fr⟩, some ⟨acc, .ow⟩, some ⟨.int (m : Nat), .fr⟩, none] := by
  rw [List.map_map]
  refine mLc_all (fun k : Nat => PyData.int (k : Nat)) _ (List.range m) ?_ (by simp [plainAt]) (by rw [List.length_range]; exact Pv.small (by omega)) fun k hk => ?_
  · have := rg1_int m (by omega)
    simp [this, rgD_range]
  · have hk : k < m := List.mem_range.mp hk
    have e1 := at_nth (ns := ss) (k := k) (by omega)
    have e2 := at_nth (ns := ss) (k := m) (by omega)
    have e3 := cut_seg (ns := ls) (a := k) (b := m) (by omega) hm
    simp [e1, e2, e3, fO]
theorem r_lo2b (ls ss : List Int) (h11 : ls.length ≤ 11) (i : Nat) (hi : i < ls.length + 1) : (accG (fO ls ss) i).length + i ≤ 1000 := by
  have b1 := accG_len (fO ls ss) i
  have b2 : i * i ≤ 11 * 11 := Nat.mul_le_mul (by omega) (by omega)
  omega
theorem r_lo2 (ls ss : List Int) (hl : ss.length = ls.length + 1) (h11 : ls.length ≤ 11) (i : Nat) (hi : i < ls.length + 1) : (putS 3 (.int (i : Nat)) >>= fun _ => u_least_off_1) (Ilo ls ss i) = .ok .nx (Ilo ls ss (i + 1)) := by
  have c := r_lo1 ls ss hl h11 (.list ((accG (fO ls ss) i).map .int)) i (by omega)
  have b3 := r_lo2b ls ss h11 i hi
  have e := mExtend_run (i := 2) (f := c_least_off_1) rfl c rfl (by rw [List.length_map, List.length_map, List.length_map, List.length_range]; exact Pv.small b3)
  have p : putS 3 (.int (i : Nat)) (Ilo ls ss i) = .ok () [some ⟨.tuple (ls.map .int), .fr⟩, some ⟨.tuple (ss.map .int), .fr⟩, some ⟨.list ((accG (fO ls ss) i).map .int), .ow⟩, some ⟨.int i, .fr⟩, none] := by simp [Ilo]
  rw [bind_run, p, to_ok, u_least_off_1, e, ← List.map_append]
  have z : accG (fO ls ss) (i + 1) = accG (fO ls ss) i ++ (List.range i).map fun k => fO ls ss k i := rfl
  unfold Ilo
  rw [z]
  rfl
theorem r_lo3 (ls ss : List Int) (hl : ss.length = ls.length + 1) (h11 : ls.length ≤ 11) : (mRg rg1 (mcons (mval (mCall gLen (mcons (mslot 1) mnil))) mnil)) (Ilo ls ss 0) = .ok ((List.range (ls.length + 1)).map fun k => PyData.int (k : Nat)) (Ilo ls ss 0) := by
  have := rg1_int (ls.length + 1) (by omega)
  push_cast at this
  simp [Ilo, this, rgD_range, hl]
theorem r_lo4 (ls ss : List Int) (hl : ss.length = ls.length + 1) (h11 : ls.length ≤ 11) : l_least_off_1 (Ilo ls ss 0) = .ok .nx (Ilo ls ss (ls.length + 1)) := by
  unfold l_least_off_1
  rw [mFor_e, bind_run, r_lo3 ls ss hl h11, to_ok]
  have := forL_all (ft := putS 3) (fb := u_least_off_1) (Ilo ls ss) ((List.range (ls.length + 1)).map fun k => PyData.int (k : Nat)) 0 fun i d hd => by
    have hi : i < ls.length + 1 := by simpa using (List.getElem?_eq_some_iff.mp hd).1
    rw [List.getElem?_map, List.getElem?_range hi] at hd
    cases hd
    rw [Nat.zero_add]
    exact ⟨.nx, .inl rfl, r_lo2 ls ss hl h11 i hi⟩
  rw [List.length_map, List.length_range, Nat.zero_add] at this
  exact this
theorem r_lo5 (ls ss : List Int) (hl : ss.length = ls.length + 1) (m : Nat) (hm : m = ls.length + 1) : t_least_off_3 (Ilo ls ss m) = .ok (.rt ⟨.int (hf (lack (rooms1 ls ss))), .fr⟩) (Ilo ls ss m) := by
  have hr := rooms1_length ls ss hl
  have b := best_mx (accG_ne (fO ls ss) m)
  have q := accG_lack (f := fO ls ss) (rs := rooms1 ls ss) fun i j h1 h2 => by
    rw [rooms1_seg ls ss hl i j (by omega) (by omega) _ _ (nth_some (by omega)) (nth_some (by omega))]
    unfold fO; omega
  rw [hr, ← hm] at q
  rw [q] at b
  simp [t_least_off_3, Ilo, b, hf]
theorem e_least_off (ls ss : List Int) (h : OkL ls) (hs : OkS ls.length ss) : fd_least_off.g [.tuple (ls.map .int), .tuple (ss.map .int)] = .ok ⟨.int (hf (lack (rooms1 ls ss))), .fr⟩ [] := by
  have hl := hs.len
  have h11 := h.l2
  have c0 := e_check_seen ls ss 0 h hs (by omega) (by omega)
  let ρ0 : PEnv := [some ⟨.tuple (ls.map .int), .fr⟩, some ⟨.tuple (ss.map .int), .fr⟩, none, none, none]
  have s1 : t_least_off_1 ρ0 = .ok .nx ρ0 := by simp [t_least_off_1, ρ0, c0]
  have s2 : t_least_off_2 ρ0 = .ok .nx (Ilo ls ss 0) := by simp [t_least_off_2, ρ0, Ilo, accG, pv]
  have s3 := r_lo4 ls ss hl h11
  have s4 := r_lo5 ls ss hl _ rfl
  rw [g_least_off]
  show Rf.of _ (b_least_off ρ0) = _
  rw [b_least_off, mSeq_nx s1, mSeq_nx s2, mSeq_nx s3, s4]
  simp [Ilo]
/-! ### rows -/
def rwD (r : List Int) : PyData := .tuple (r.map .int)
def rwsD (rows : List (List Int)) : PyData := .tuple (rows.map rwD)
structure OkR (n : Nat) (rows : List (List Int)) : Prop where
  l1 : 1 ≤ rows.length
  l2 : rows.length ≤ 20
  ok : ∀ r ∈ rows, OkS n r
theorem e_check_rows (ls : List Int) (rows : List (List Int)) (off : Int) (h : OkL ls) (hs : OkR ls.length rows) (h0 : 0 ≤ off) (h1 : off ≤ 1000) : fd_check_rows.g [.tuple (ls.map .int), rwsD rows, .int off] = .ok ⟨.none, .fr⟩ [] := by
  have h11 := h.l2
  have l1 : (1 : Int) ≤ rows.length := by have := hs.l1; omega
  have l2 : (rows.length : Int) ≤ 20 := by have := hs.l2; omega
  have c : c_check_rows_1 [some ⟨.tuple (ls.map .int), .fr⟩, some ⟨rwsD rows, .fr⟩, some ⟨.int off, .fr⟩, some ⟨.int (ls.length + 1), .fr⟩, none] = .ok ⟨.list ((rows.map fun _ => true).map .bool), .ow⟩ [some ⟨.tuple (ls.map .int), .fr⟩, some ⟨rwsD rows, .fr⟩, some ⟨.int off, .fr⟩, some ⟨.int (ls.length + 1), .fr⟩, none] := by
    rw [List.map_map]
    refine mLc_all rwD _ rows (by simp [rwsD]) (by simp [plainAt]) (Pv.small (by have := hs.l2; omega)) fun r hr => ?_
    have e := e_is_row r (ls.length + 1) 1000000 (by rw [(hs.ok r hr).len]; push_cast; rfl) (by rw [(hs.ok r hr).len]; omega) (hs.ok r hr).lo
    simp [rwD, e]
  have gA : gAllAny (·.all id) [.list ((rows.map fun _ => true).map .bool)] = some ⟨.bool true, .fr⟩ := by
    rw [gAllAny_list]; simp
  have e1 := e_check_least ls h
  simp only [rwsD] at c
  simp [g_check_rows, b_check_rows, t_check_rows_1, t_check_rows_2, t_check_rows_3, t_check_rows_4, e1, c, gA, h0, h1, l1, l2, rwsD, -List.map_map, -List.map_const]
end Lw

set_option maxRecDepth 100000
/-! k10: slack_of, least_clocks. -/
namespace Lw
open PySem PySem.Spec L2 Pv
/-- the least pair of some -/
noncomputable def bestP (ps : List (Int × Int)) : Int × Int := open Classical in if h : ps ≠ [] then Classical.choose (best_prs h) else (0, 0)
theorem bestP_e {ps : List (Int × Int)} (h : ps ≠ []) : gBest PySem.W.minD [.list (ps.map prD)] = some ⟨prD (bestP ps), .fr⟩ ∧ bestP ps ∈ ps ∧ ∀ r ∈ ps, (bestP ps).1 ≤ r.1 := by
  unfold bestP
  rw [dif_pos h]
  exact Classical.choose_spec (best_prs h)
def rowN (rows : List (List Int)) (c : Nat) : List Int := rows.getD c []
theorem rowN_some {rows : List (List Int)} {c : Nat} (h : c < rows.length) : rows[c]? = some (rowN rows c) := by
  unfold rowN
  rw [List.getD_eq_getElem?_getD, List.getElem?_eq_getElem h]; rfl
theorem rowN_ok {n : Nat} {rows : List (List Int)} (h : OkR n rows) {c : Nat} (hc : c < rows.length) : OkS n (rowN rows c) := h.ok _ (List.mem_of_getElem? (rowN_some hc))
/-- what one car shows of a stretch, for all the cars -/
def candK (ls : List Int) (rows : List (List Int)) (k : Nat) : List (Int × Int) := (List.range rows.length).map fun c => (nth (rowN rows c) (k + 1) - nth (rowN rows c) k - nth ls k, (c : Int))
noncomputable def slk (ls : List Int) (rows : List (List Int)) (k : Nat) : Int × Int := bestP (candK ls rows k)
/-- the rooms of all the cars -/
def roomK (ls : List Int) (rows : List (List Int)) (k : Nat) : Int := mnI (rows.map fun r => nth r (k + 1) - nth r k) - nth ls k
def roomsR (ls : List Int) (rows : List (List Int)) : List Int := (List.range ls.length).map (roomK ls rows)
theorem roomsR_length (ls : List Int) (rows : List (List Int)) : (roomsR ls rows).length = ls.length := by simp [roomsR]
theorem roomsR_nth {ls : List Int} {rows : List (List Int)} {k : Nat} (h : k < ls.length) : nth (roomsR ls rows) k = roomK ls rows k := nth_of (by unfold roomsR; rw [List.getElem?_map, List.getElem?_range h]; rfl)
theorem candK_ne {ls : List Int} {rows : List (List Int)} (h : 1 ≤ rows.length) (k : Nat) : candK ls rows k ≠ [] := fun e => by
  have := congrArg List.length e
  simp [candK] at this
  rw [this] at h
  exact absurd h (by simp)
theorem slk_room {ls : List Int} {rows : List (List Int)} (h : 1 ≤ rows.length) (k : Nat) : (slk ls rows k).1 = roomK ls rows k ∧ ∃ c : Nat, c < rows.length ∧ (slk ls rows k).2 = (c : Int) ∧ roomK ls rows k = nth (rowN rows c) (k + 1) - nth (rowN rows c) k - nth ls k := by
  obtain ⟨_, h2, h3⟩ := bestP_e (candK_ne (ls := ls) h k)
  have h2 : slk ls rows k ∈ candK ls rows k := h2
  have h3 : ∀ r ∈ candK ls rows k, (slk ls rows k).1 ≤ r.1 := h3
  unfold candK at h2
  obtain ⟨c, hc, e⟩ := List.mem_map.mp h2
  have hc := List.mem_range.mp hc
  have e1 : (slk ls rows k).1 = nth (rowN rows c) (k + 1) - nth (rowN rows c) k - nth ls k := by rw [← e]
  have e2 : (slk ls rows k).2 = (c : Int) := by rw [← e]
  have m : mnI (rows.map fun r => nth r (k + 1) - nth r k) = nth (rowN rows c) (k + 1) - nth (rowN rows c) k := by
    refine mnI_eq (List.mem_map.mpr ⟨_, List.mem_of_getElem? (rowN_some hc), rfl⟩) fun x hx => ?_
    obtain ⟨r, hr, rfl⟩ := List.mem_map.mp hx
    obtain ⟨j, hj, ej⟩ := List.getElem_of_mem hr
    have q := h3 (nth (rowN rows j) (k + 1) - nth (rowN rows j) k - nth ls k, (j : Int)) (List.mem_map.mpr ⟨j, List.mem_range.mpr hj, rfl⟩)
    have ej : rowN rows j = r := by
      have a := rowN_some hj
      rw [List.getElem?_eq_getElem hj, ej] at a
      exact (Option.some.inj a).symm
    rw [ej] at q
    have q : (slk ls rows k).1 ≤ nth r (k + 1) - nth r k - nth ls k := q
    omega
  have r : roomK ls rows k = nth (rowN rows c) (k + 1) - nth (rowN rows c) k - nth ls k := by unfold roomK; rw [m]
  exact ⟨by rw [e1, r], c, hc, e2, r⟩
/-- the slack, as the program keeps it -/
noncomputable def slkL (ls : List Int) (rows : List (List Int)) : List PyData := (List.range ls.length).map fun k => prD (slk ls rows k)
theorem rows_range (rows : List (List Int)) : rows.map rwD = (List.range rows.length).map fun c => rwD (rowN rows c) := by
  have h := list_range ([] : List Int) rows
  conv => lhs; rw [h]
  rw [List.map_map]; rfl
noncomputable def Isl (ls : List Int) (rows : List (List Int)) (i : Nat) : PEnv := [some ⟨.tuple (ls.map .int), .fr⟩, some ⟨rwsD rows, .fr⟩, some ⟨.list ((List.range i).map fun k => prD (slk ls rows k)), .ow⟩, pv (fun k => .int (k : Nat)) i, pv (fun k => .int (nth ls k)) i, none, none]
theorem r_sl1 (ls : List Int) (rows : List (List Int)) (hs : OkR ls.length rows) (k : Nat) (hk : k < ls.length) (d : PyData) :
    c_slack_of_1 [some ⟨.tuple (ls.map .int), .fr⟩, some ⟨rwsD rows, .fr⟩, some ⟨d, .ow⟩, some ⟨.int (k : Nat), .fr⟩, some ⟨.int (nth ls k), .fr⟩, none, none] = .ok ⟨.list ((candK ls rows k).map prD), .ow⟩ [some ⟨.tuple (ls.map .int), .fr⟩, some ⟨rwsD rows, .fr⟩, some ⟨d, .ow⟩, some ⟨.int (k : Nat), .fr⟩, some ⟨.int (nth ls k), .fr⟩, none, none] := by
  unfold candK
  rw [List.map_map]
  refine mLc_all (fun c : Nat => PyData.tuple [.int (c : Nat), rwD (rowN rows c)]) _ (List.range rows.length) ?_ (by simp [plainAt]) (by rw [List.length_range]; exact Pv.small (by have := hs.l2; omega)) fun c hc => ?_
  · simp [rwsD, rows_range, enumD_range]
  · have hc := List.mem_range.mp hc
    have hr := (rowN_ok hs hc).len
    have e1 := at_nth (ns := rowN rows c) (k := k) (by omega)
    have e2 := at_nth (ns := rowN rows c) (k := k + 1) (by omega)
    push_cast at e2
    simp [rwD, e1, e2, prD]
theorem r_sl2 (ls : List Int) (rows : List (List Int)) (h11 : ls.length ≤ 11) (hs : OkR ls.length rows) (k : Nat) (hk : k < ls.length) : (tgTup 2 (tgCons (putS 3) (tgCons (putS 4) tgNil)) (.tuple [.int (k : Nat), .int (nth ls k)]) >>= fun _ => u_slack_of_1) (Isl ls rows k) = .ok .nx (Isl ls rows (k + 1)) := by
  have c := r_sl1 ls rows hs k hk (.list ((List.range k).map fun k => prD (slk ls rows k)))
  have b : gBest PySem.W.minD [.list ((candK ls rows k).map prD)] = some ⟨prD (slk ls rows k), .fr⟩ := (bestP_e (candK_ne hs.l1 k)).1
  have p : tgTup 2 (tgCons (putS 3) (tgCons (putS 4) tgNil)) (.tuple [.int (k : Nat), .int (nth ls k)]) (Isl ls rows k) = .ok () [some ⟨.tuple (ls.map .int), .fr⟩, some ⟨rwsD rows, .fr⟩, some ⟨.list ((List.range k).map fun k => prD (slk ls rows k)), .ow⟩, some ⟨.int (k : Nat), .fr⟩, some ⟨.int (nth ls k), .fr⟩, none, none] := by
    simp [Isl]
  have q : (mfz (mCall (gBest PySem.W.minD) (mcons (mval c_slack_of_1) mnil))) [some ⟨.tuple (ls.map .int), .fr⟩, some ⟨rwsD rows, .fr⟩, some ⟨.list ((List.range k).map fun k => prD (slk ls rows k)), .ow⟩, some ⟨.int (k : Nat), .fr⟩, some ⟨.int (nth ls k), .fr⟩, none, none] = .ok (prD (slk ls rows k)) [some ⟨.tuple (ls.map .int), .fr⟩, some ⟨rwsD rows, .fr⟩, some ⟨.list ((List.range k).map fun k => prD (slk ls rows k)), .ow⟩, some ⟨.int (k : Nat), .fr⟩, some ⟨.int (nth ls k), .fr⟩, none, none] := by
    simp [c, b, -List.map_map]
  rw [bind_run, p, to_ok, u_slack_of_1, mAppend_run (i := 2) rfl q rfl (by rw [List.length_map, List.length_range]; exact smallT (by omega)), rng_push (f := fun k => prD (slk ls rows k))]
  rfl
theorem e_slack_of (ls : List Int) (rows : List (List Int)) (h11 : ls.length ≤ 11) (hs : OkR ls.length rows) : fd_slack_of.g [.tuple (ls.map .int), rwsD rows] = .ok ⟨.list (slkL ls rows), .ow⟩ [] := by
  let ρ0 : PEnv := [some ⟨.tuple (ls.map .int), .fr⟩, some ⟨rwsD rows, .fr⟩, none, none, none, none, none]
  have s1 : t_slack_of_1 ρ0 = .ok .nx (Isl ls rows 0) := by simp [t_slack_of_1, ρ0, Isl, pv]
  have e : (mEn (mIt (mfz (mget 0)))) (Isl ls rows 0) = .ok ((List.range ls.length).map fun k => PyData.tuple [.int (k : Nat), .int (nth ls k)]) (Isl ls rows 0) := by
    have z : ls.map PyData.int = (List.range ls.length).map fun k => PyData.int (nth ls k) := by
      have h := list_range (0 : Int) ls
      conv => lhs; rw [h]
      rw [List.map_map]; rfl
    simp [Isl, z, enumD_range]
  have s2 : l_slack_of_1 (Isl ls rows 0) = .ok .nx (Isl ls rows ls.length) := by
    unfold l_slack_of_1
    rw [mFor_e, bind_run, e, to_ok]
    have := forL_all (ft := tgTup 2 (tgCons (putS 3) (tgCons (putS 4) tgNil))) (fb := u_slack_of_1) (Isl ls rows) ((List.range ls.length).map fun k => PyData.tuple [.int (k : Nat), .int (nth ls k)]) 0 fun i d hd => by
      have hi : i < ls.length := by simpa using (List.getElem?_eq_some_iff.mp hd).1
      rw [List.getElem?_map, List.getElem?_range hi] at hd
      cases hd
      rw [Nat.zero_add]
      exact ⟨.nx, .inl rfl, r_sl2 ls rows h11 hs i hi⟩
    rw [List.length_map, List.length_range, Nat.zero_add] at this
    exact this
  have s3 : t_slack_of_2 (Isl ls rows ls.length) = .ok (.rt ⟨.list (slkL ls rows), .ow⟩) ((Isl ls rows ls.length).set 2 none) := by
    simp [t_slack_of_2, Isl, slkL]
  rw [g_slack_of]
  show Rf.of _ (b_slack_of ρ0) = _
  rw [b_slack_of, mSeq_nx s1, mSeq_nx s2, s3]
  simp [Isl]
end Lw

set_option maxRecDepth 100000
/-! k10: least_clocks, clocks. -/
namespace Lw
open PySem PySem.Spec L2 Pv
def cutRg (n a b : Nat) : List Nat := ((List.range n).drop a).take (b - a)
theorem cutRg_len (n a b : Nat) (hb : b ≤ n) : (cutRg n a b).length = b - a := by
  unfold cutRg
  rw [List.length_take, List.length_drop, List.length_range]
  omega
theorem cutRg_get {n a b k : Nat} (hb : b ≤ n) (h : k < b - a) : (cutRg n a b)[k]? = some (a + k) := by
  unfold cutRg
  rw [List.getElem?_take, if_pos h, List.getElem?_drop, List.getElem?_range (by omega)]
theorem slkL_cut (ls : List Int) (rows : List (List Int)) {a b : Nat} (ha : a ≤ ls.length) (hb : b ≤ ls.length) : cutD (slkL ls rows) (some (a : Int)) (some (b : Int)) = (cutRg ls.length a b).map fun k => prD (slk ls rows k) := by
  have hn : (slkL ls rows).length = ls.length := by simp [slkL]
  rw [cut_both (by omega) (by omega)]
  unfold slkL cutRg
  rw [← List.map_drop, ← List.map_take]
theorem seg_cut (ls : List Int) (rows : List (List Int)) (a b : Nat) : ((cutRg ls.length a b).map (roomK ls rows)).sum = seg (roomsR ls rows) a b := by
  unfold seg roomsR cutRg
  rw [← List.map_drop, ← List.map_take]
theorem prD_at0 (p : Int × Int) : gIxS (prD p) (.int 0) = some ⟨.int p.1, .fr⟩ := by simp [prD, at_head]
theorem prD_at1 (p : Int × Int) : gIxS (prD p) (.int 1) = some ⟨.int p.2, .fr⟩ := by simp [prD, at_one]
noncomputable def envLc (ls : List Int) (rows : List (List Int)) (acc : PyData) (m : Nat) (o : Option SV) : PEnv := [some ⟨.tuple (ls.map .int), .fr⟩, some ⟨rwsD rows, .fr⟩, some ⟨.list (slkL ls rows), .ow⟩, some ⟨acc, .ow⟩, some ⟨.int (m : Nat), .fr⟩, o, none]
theorem r_lc1 (ls : List Int) (rows : List (List Int)) (h1 : 1 ≤ rows.length) (h11 : ls.length ≤ 11) (acc : PyData) (m a : Nat) (ha : a ≤ ls.length) (hm : m ≤ ls.length) :
    c_least_clocks_1 (envLc ls rows acc m (some ⟨.int (a : Nat), .fr⟩)) = .ok ⟨.list (((cutRg ls.length a m).map (roomK ls rows)).map .int), .ow⟩ (envLc ls rows acc m (some ⟨.int (a : Nat), .fr⟩)) := by
  rw [List.map_map]
  refine mLc_all (fun k => prD (slk ls rows k)) _ (cutRg ls.length a m) ?_ (by simp [plainAt, envLc]) (by rw [cutRg_len _ _ _ hm]; exact Pv.small (by omega)) fun k hk => ?_
  · rw [← slkL_cut ls rows ha hm]
    simp [envLc]
  · simp [envLc, prD_at0, (slk_room h1 k).1]
def fL (ls : List Int) (rows : List (List Int)) (i j : Nat) : Int := -seg (roomsR ls rows) i j
theorem r_lc2 (ls : List Int) (rows : List (List Int)) (h1 : 1 ≤ rows.length) (h11 : ls.length ≤ 11) (acc : PyData) (m : Nat) (hm : m ≤ ls.length) :
    c_least_clocks_2 (envLc ls rows acc m none) = .ok ⟨.list (((List.range m).map fun i => fL ls rows i m).map .int), .ow⟩ (envLc ls rows acc m none) := by
  rw [List.map_map]
  refine mLc_all (fun k : Nat => PyData.int (k : Nat)) _ (List.range m) ?_ (by simp [plainAt, envLc]) (by rw [List.length_range]; exact Pv.small (by omega)) fun k hk => ?_
  · have := rg1_int m (by omega)
    simp [envLc, this, rgD_range]
  · have hk := List.mem_range.mp hk
    have c := r_lc1 ls rows h1 h11 acc m k (by omega) hm
    have s := gSum_list ((cutRg ls.length k m).map (roomK ls rows))
    rw [seg_cut] at s
    simp only [envLc] at c
    simp [envLc, c, s, -List.map_map, -gSum_list]
    rfl
noncomputable def Ilc (ls : List Int) (rows : List (List Int)) (m : Nat) : PEnv := [some ⟨.tuple (ls.map .int), .fr⟩, some ⟨rwsD rows, .fr⟩, some ⟨.list (slkL ls rows), .ow⟩, some ⟨.list ((accG (fL ls rows) m).map .int), .ow⟩, pv (fun k => .int (k : Nat)) m, none, none]
theorem accG_small {f : Nat → Nat → Int} {i n : Nat} (h11 : n ≤ 11) (hi : i < n + 1) : (accG f i).length + i ≤ 1000 := by
  have b1 := accG_len f i
  have b2 : i * i ≤ 11 * 11 := Nat.mul_le_mul (by omega) (by omega)
  omega
theorem r_lc3 (ls : List Int) (rows : List (List Int)) (h1 : 1 ≤ rows.length) (h11 : ls.length ≤ 11) (i : Nat) (hi : i < ls.length + 1) : (putS 4 (.int (i : Nat)) >>= fun _ => u_least_clocks_1) (Ilc ls rows i) = .ok .nx (Ilc ls rows (i + 1)) := by
  have c := r_lc2 ls rows h1 h11 (.list ((accG (fL ls rows) i).map .int)) i (by omega)
  have b3 := accG_small (f := fL ls rows) h11 hi
  have e := mExtend_run (i := 3) (f := c_least_clocks_2) rfl c rfl (by rw [List.length_map, List.length_map, List.length_map, List.length_range]; exact Pv.small b3)
  have p : putS 4 (.int (i : Nat)) (Ilc ls rows i) = .ok () (envLc ls rows (.list ((accG (fL ls rows) i).map .int)) i none) := by simp [Ilc, envLc]
  rw [bind_run, p, to_ok, u_least_clocks_1, e, ← List.map_append]
  have z : accG (fL ls rows) (i + 1) = accG (fL ls rows) i ++ (List.range i).map fun k => fL ls rows k i := rfl
  unfold Ilc
  rw [z]
  rfl
theorem e_least_clocks (ls : List Int) (rows : List (List Int)) (h : OkL ls) (hs : OkR ls.length rows) : fd_least_clocks.g [.tuple (ls.map .int), rwsD rows] = .ok ⟨.int (hf (lack (roomsR ls rows))), .fr⟩ [] := by
  have h11 := h.l2
  have c0 := e_check_rows ls rows 0 h hs (by omega) (by omega)
  have c1 := e_slack_of ls rows h11 hs
  let ρ0 : PEnv := [some ⟨.tuple (ls.map .int), .fr⟩, some ⟨rwsD rows, .fr⟩, none, none, none, none, none]
  have s1 : t_least_clocks_1 ρ0 = .ok .nx ρ0 := by simp [t_least_clocks_1, ρ0, c0]
  have s2 : t_least_clocks_2 ρ0 = .ok .nx (Ilc ls rows 0) := by simp [t_least_clocks_2, ρ0, c1, Ilc, accG, pv]
  have s3 : l_least_clocks_1 (Ilc ls rows 0) = .ok .nx (Ilc ls rows (ls.length + 1)) := by
    have e : (mRg rg1 (mcons (mval (mOp2 gAdd (mval (mCall gLen (mcons (mslot 0) mnil))) (mval (pure (frv (.int 1)))))) mnil)) (Ilc ls rows 0) = .ok ((List.range (ls.length + 1)).map fun k => PyData.int (k : Nat)) (Ilc ls rows 0) := by
      have := rg1_int (ls.length + 1) (by omega)
      push_cast at this
      simp [Ilc, this, rgD_range]
    unfold l_least_clocks_1
    rw [mFor_e, bind_run, e, to_ok]
    have := forL_all (ft := putS 4) (fb := u_least_clocks_1) (Ilc ls rows) ((List.range (ls.length + 1)).map fun k => PyData.int (k : Nat)) 0 fun i d hd => by
      have hi : i < ls.length + 1 := by simpa using (List.getElem?_eq_some_iff.mp hd).1
      rw [List.getElem?_map, List.getElem?_range hi] at hd
      cases hd
      rw [Nat.zero_add]
      exact ⟨.nx, .inl rfl, r_lc3 ls rows hs.l1 h11 i hi⟩
    rw [List.length_map, List.length_range, Nat.zero_add] at this
    exact this
  have s4 : t_least_clocks_3 (Ilc ls rows (ls.length + 1)) = .ok (.rt ⟨.int (hf (lack (roomsR ls rows))), .fr⟩) (Ilc ls rows (ls.length + 1)) := by
    have b := best_mx (accG_ne (fL ls rows) (ls.length + 1))
    have m := accG_lack (f := fL ls rows) (rs := roomsR ls rows) fun i j _ _ => rfl
    rw [roomsR_length] at m
    rw [m] at b
    simp [t_least_clocks_3, Ilc, b, hf]
  rw [g_least_clocks]
  show Rf.of _ (b_least_clocks ρ0) = _
  rw [b_least_clocks, mSeq_nx s1, mSeq_nx s2, mSeq_nx s3, s4]
  simp [Ilc]
/-! ### clocks -/
def ahK (ls : List Int) (rows : List (List Int)) (off : Int) (k : Nat) : Int := off - nth (kad 0 (roomsR ls rows)) k
theorem ahK_zero (ls : List Int) (rows : List (List Int)) (off : Int) : ahK ls rows off 0 = off := by
  unfold ahK
  rw [nth_of (kad_zero _ _)]
  omega
theorem kadR_next (rs : List Int) {k : Nat} (h : k < rs.length) : nth (kad 0 rs) (k + 1) = max 0 (nth (kad 0 rs) k - nth rs k) := by
  have e1 := kad_getD (rs := rs) (k := k) (by omega)
  have e3 := kad_step _ _ _ _ _ e1 (nth_some h)
  have e4 := kad_getD (rs := rs) (k := k + 1) (by omega)
  rw [e3] at e4
  exact (Option.some.inj e4).symm
theorem ahK_step (ls : List Int) (rows : List (List Int)) (off : Int) {k : Nat} (h : k < ls.length) :
    ahK ls rows off (k + 1) = if ahK ls rows off k + roomK ls rows k < off then ahK ls rows off k + roomK ls rows k else off := by
  have := kadR_next (roomsR ls rows) (k := k) (by rw [roomsR_length]; exact h)
  rw [roomsR_nth h] at this
  unfold ahK
  split <;> omega
noncomputable def Icl (ls : List Int) (rows : List (List Int)) (off : Int) (i : Nat) : PEnv := [some ⟨.tuple (ls.map .int), .fr⟩, some ⟨rwsD rows, .fr⟩, some ⟨.int off, .fr⟩, some ⟨.list (slkL ls rows), .fr⟩, some ⟨.list ((List.range (i + 1)).map fun k => PyData.int (ahK ls rows off k)), .ow⟩,
  pv (fun k => .int (slk ls rows k).1) i, pv (fun k => .int (slk ls rows k).2) i, none, none, none, none]
def surC (i x : Nat) (cs : List Int) : PyData := .tuple [.str "surely", .int (i : Nat), .int (x : Nat), .tuple (cs.map .int)]
noncomputable def carsK (ls : List Int) (rows : List (List Int)) (i x : Nat) : List Int := (cutRg ls.length i x).map fun k => (slk ls rows k).2
noncomputable def envC (ls : List Int) (rows : List (List Int)) (off : Int) (i : Nat) (o7 o8 o9 : Option SV) : PEnv := [some ⟨.tuple (ls.map .int), .fr⟩, some ⟨rwsD rows, .fr⟩, some ⟨.int off, .fr⟩, some ⟨.list (slkL ls rows), .fr⟩, some ⟨.list ((List.range (i + 1)).map fun k => PyData.int (ahK ls rows off k)), .ow⟩,
  pv (fun k => .int (slk ls rows k).1) i, pv (fun k => .int (slk ls rows k).2) i, o7, o8, o9, none]
def overC (ls : List Int) (rows : List (List Int)) (off : Int) (x : Nat) : List Nat := (List.range x).filter fun k => decide (seg (roomsR ls rows) k x < -2 * off)
section
variable (ls : List Int) (rows : List (List Int)) (off : Int) (h1 : 1 ≤ rows.length) (h11 : ls.length ≤ 11)
include h1 h11
theorem r_cl1 (i m a : Nat) (ha : a ≤ ls.length) (hm : m ≤ ls.length) (o8 : Option SV) :
    c_clocks_1 (envC ls rows off i (some ⟨.int (m : Nat), .fr⟩) o8 (some ⟨.int (a : Nat), .fr⟩)) = .ok ⟨.list (((cutRg ls.length a m).map (roomK ls rows)).map .int), .ow⟩ (envC ls rows off i (some ⟨.int (m : Nat), .fr⟩) o8 (some ⟨.int (a : Nat), .fr⟩)) := by
  rw [List.map_map]
  refine mLc_all (fun k => prD (slk ls rows k)) _ (cutRg ls.length a m) ?_ (by simp [plainAt, envC]) (by rw [cutRg_len _ _ _ hm]; exact Pv.small (by omega)) fun k hk => ?_
  · rw [← slkL_cut ls rows ha hm]
    simp [envC]
  · simp [envC, prD_at0, (slk_room h1 k).1]
theorem r_cl2 (i m : Nat) (hm : m ≤ ls.length) :
    c_clocks_2 (envC ls rows off i (some ⟨.int (m : Nat), .fr⟩) none none) = .ok ⟨.list ((overC ls rows off m).map fun k : Nat => PyData.int k), .ow⟩ (envC ls rows off i (some ⟨.int (m : Nat), .fr⟩) none none) := by
  unfold overC
  rw [← filterMap_if]
  refine mLc_run (fun k : Nat => PyData.int (k : Nat)) _ (List.range m) ?_ (by simp [plainAt, envC]) (by rw [List.length_range]; exact Pv.small (by omega)) fun k hk => ?_
  · have := rg1_int m (by omega)
    simp [envC, this, rgD_range]
  · have hk := List.mem_range.mp hk
    have c := r_cl1 ls rows off h1 h11 i m k (by omega) hm none
    have s := gSum_list ((cutRg ls.length k m).map (roomK ls rows))
    rw [seg_cut] at s
    simp only [envC] at c
    by_cases q : seg (roomsR ls rows) k m < -2 * off <;> simp [envC, c, s, q, -List.map_map, -gSum_list]
theorem r_cl3 (i m a : Nat) (ha : a ≤ ls.length) (hm : m ≤ ls.length) (ov : List PyData) (hov : L2.atI ov (-1) = some (.int (a : Nat))) :
    c_clocks_3 (envC ls rows off i (some ⟨.int (m : Nat), .fr⟩) (some ⟨.list ov, .ow⟩) none) = .ok ⟨.list ((carsK ls rows a m).map .int), .ow⟩ (envC ls rows off i (some ⟨.int (m : Nat), .fr⟩) (some ⟨.list ov, .ow⟩) none) := by
  unfold carsK
  rw [List.map_map]
  refine mLc_all (fun k => prD (slk ls rows k)) _ (cutRg ls.length a m) ?_ (by simp [plainAt, envC]) (by rw [cutRg_len _ _ _ hm]; exact Pv.small (by omega)) fun k hk => ?_
  · rw [← slkL_cut ls rows ha hm]
    simp [envC, hov]
  · simp [envC, prD_at1]
/-- one turn -/
theorem r_cl4 (h0 : 0 ≤ off) (i : Nat) (hi : i < ls.length) : (¬ahK ls rows off (i + 1) < -off ∧ ∃ fl, (fl = .nx ∨ fl = .ct) ∧ (tgTup 2 (tgCons (putS 5) (tgCons (putS 6) tgNil)) (prD (slk ls rows i)) >>= fun _ => u_clocks_1) (Icl ls rows off i) = .ok fl (Icl ls rows off (i + 1))) ∨
    (¬¬ahK ls rows off (i + 1) < -off ∧ ∃ sv ρ, (tgTup 2 (tgCons (putS 5) (tgCons (putS 6) tgNil)) (prD (slk ls rows i)) >>= fun _ => u_clocks_1) (Icl ls rows off i) = .ok (.rt sv) ρ ∧
      (outsOf [false, false, false] ρ = some [] ∧ ∃ a x : Nat, a < x ∧ x ≤ ls.length ∧ seg (roomsR ls rows) a x < -2 * off ∧ sv = ⟨surC a x (carsK ls rows a x), .fr⟩)) := by
  let E0 : PEnv := [some ⟨.tuple (ls.map .int), .fr⟩, some ⟨rwsD rows, .fr⟩, some ⟨.int off, .fr⟩, some ⟨.list (slkL ls rows), .fr⟩, some ⟨.list ((List.range (i + 1)).map fun k => PyData.int (ahK ls rows off k)), .ow⟩,
  some ⟨.int (slk ls rows i).1, .fr⟩, some ⟨.int (slk ls rows i).2, .fr⟩, none, none, none, none]
  have p : tgTup 2 (tgCons (putS 5) (tgCons (putS 6) tgNil)) (prD (slk ls rows i)) (Icl ls rows off i) = .ok () E0 := by simp [Icl, E0, prD]
  have e1 : L2.atI ((List.range (i + 1)).map fun k => PyData.int (ahK ls rows off k)) (-1) = some (.int (ahK ls rows off i)) := at_last_map (f := fun k => PyData.int (ahK ls rows off k)) (by rw [List.getLast?_range]; simp)
  have s1 : t_clocks_3 E0 = .ok .nx (Icl ls rows off (i + 1)) := by
    have q : (mfz (mCall (gI2 fun i j => if j < i then j else i) (mcons (mslot 2) (mcons (mval (mOp2 gAdd (mval (mOp2 gIxS (mslot 4) (mval (mOp1 gNeg (mval (pure (frv (.int 1)))))))) (mslot 5))) mnil)))) E0 = .ok (.int (ahK ls rows off (i + 1))) E0 := by
      rw [ahK_step ls rows off hi]
      simp [E0, e1, (slk_room h1 i).1]
    rw [t_clocks_3, mAppend_run (i := 4) rfl q rfl (by rw [List.length_map, List.length_range]; exact smallT (by omega)), rng_push (f := fun k => PyData.int (ahK ls rows off k))]
    rfl
  have e2 : L2.atI ((List.range (i + 1 + 1)).map fun k => PyData.int (ahK ls rows off k)) (-1) = some (.int (ahK ls rows off (i + 1))) := at_last_map (f := fun k => PyData.int (ahK ls rows off k)) (by rw [List.getLast?_range]; simp)
  have t : (mB (mOp2 gLt (mval (mOp2 gIxS (mslot 4) (mval (mOp1 gNeg (mval (pure (frv (.int 1)))))))) (mval (mOp1 gNeg (mslot 2))))) (Icl ls rows off (i + 1)) = .ok (decide (ahK ls rows off (i + 1) < -off)) (Icl ls rows off (i + 1)) := by
    simp [Icl, e2]
  by_cases q : ahK ls rows off (i + 1) < -off
  · right
    refine ⟨fun z => z q, ?_⟩
    rw [decide_eq_true q] at t
    have hne : overC ls rows off (i + 1) ≠ [] := by
      unfold ahK at q
      have kp := kad_getD (rs := roomsR ls rows) (k := i + 1) (by rw [roomsR_length]; omega)
      have key : ∃ a, a ≤ i + 1 ∧ nth (kad 0 (roomsR ls rows)) (i + 1) = -seg (roomsR ls rows) a (i + 1) := by
        rcases kad_att _ 0 _ _ (Int.le_refl _) kp with z | z
        · exact ⟨0, Nat.zero_le _, by omega⟩
        · exact z
      obtain ⟨a, ha, z⟩ := key
      have ne : a ≠ i + 1 := fun y => by subst y; rw [seg_self] at z; omega
      refine List.ne_nil_of_mem (a := a) ?_
      unfold overC
      rw [List.mem_filter, List.mem_range, decide_eq_true_eq]
      exact ⟨by omega, by omega⟩
    have el := List.getLast?_eq_getLast hne
    have hm2 := List.getLast_mem hne
    generalize (overC ls rows off (i + 1)).getLast hne = a at el hm2
    unfold overC at hm2
    rw [List.mem_filter, List.mem_range, decide_eq_true_eq] at hm2
    have s4 : t_clocks_4 (Icl ls rows off (i + 1)) = .ok .nx (envC ls rows off (i + 1) (some ⟨.int ((i + 1 : Nat) : Int), .fr⟩) none none) := by
      simp [t_clocks_4, Icl, envC]
    have c2 := r_cl2 ls rows off h1 h11 (i + 1) (i + 1) (by omega)
    have s5 : t_clocks_5 (envC ls rows off (i + 1) (some ⟨.int ((i + 1 : Nat) : Int), .fr⟩) none none) = .ok .nx (envC ls rows off (i + 1) (some ⟨.int ((i + 1 : Nat) : Int), .fr⟩) (some ⟨.list ((overC ls rows off (i + 1)).map fun k : Nat => PyData.int k), .ow⟩) none) := by
      rw [t_clocks_5, mSetS_run, bind_run, c2, to_ok]
      simp [envC]
    have e8 := at_last_map (f := fun k : Nat => PyData.int (k : Nat)) el
    have c3 := r_cl3 ls rows off h1 h11 (i + 1) (i + 1) a (by omega) (by omega) _ e8
    have s6 : t_clocks_6 (envC ls rows off (i + 1) (some ⟨.int ((i + 1 : Nat) : Int), .fr⟩) (some ⟨.list ((overC ls rows off (i + 1)).map fun k : Nat => PyData.int k), .ow⟩) none) = .ok (.rt ⟨surC a (i + 1) (carsK ls rows a (i + 1)), .fr⟩) (envC ls rows off (i + 1) (some ⟨.int ((i + 1 : Nat) : Int), .fr⟩) (some ⟨.list ((overC ls rows off (i + 1)).map fun k : Nat => PyData.int k), .ow⟩) none) := by
      simp only [envC] at c3
      push_cast at c3
      simp [t_clocks_6, envC, e8, c3, surC]
    have fin : (tgTup 2 (tgCons (putS 5) (tgCons (putS 6) tgNil)) (prD (slk ls rows i)) >>= fun _ => u_clocks_1) (Icl ls rows off i) = .ok (.rt ⟨surC a (i + 1) (carsK ls rows a (i + 1)), .fr⟩) (envC ls rows off (i + 1) (some ⟨.int ((i + 1 : Nat) : Int), .fr⟩) (some ⟨.list ((overC ls rows off (i + 1)).map fun k : Nat => PyData.int k), .ow⟩) none) := by
      rw [bind_run, p, to_ok, u_clocks_1, mSeq_nx s1, t_clocks_7, mIfS_t t, mSeq_nx s4, mSeq_nx s5, s6]
    exact ⟨_, _, fin, by simp [envC], a, i + 1, hm2.1, by omega, hm2.2, rfl⟩
  · left
    rw [decide_eq_false q] at t
    refine ⟨q, .nx, .inl rfl, ?_⟩
    rw [bind_run, p, to_ok, u_clocks_1, mSeq_nx s1, t_clocks_7, mIfS_f t]
    rfl
end
theorem e_clocks (ls : List Int) (rows : List (List Int)) (off : Int) (h : OkL ls) (hs : OkR ls.length rows) (h0 : 0 ≤ off) (h1 : off ≤ 1000) :
    ((∀ k, k < ls.length → ¬ahK ls rows off (k + 1) < -off) ∧ fd_clocks.g [.tuple (ls.map .int), rwsD rows, .int off] = .ok ⟨.tuple [.str "may", .tuple ((List.range (ls.length + 1)).map fun k => PyData.int (ahK ls rows off k))], .fr⟩ []) ∨
    (¬(∀ k, k < ls.length → ¬ahK ls rows off (k + 1) < -off) ∧ ∃ a x : Nat, a < x ∧ x ≤ ls.length ∧ seg (roomsR ls rows) a x < -2 * off ∧ fd_clocks.g [.tuple (ls.map .int), rwsD rows, .int off] = .ok ⟨surC a x (carsK ls rows a x), .fr⟩ []) := by
  have h11 := h.l2
  have c0 := e_check_rows ls rows off h hs h0 h1
  have c1 := e_slack_of ls rows h11 hs
  let ρ0 : PEnv := [some ⟨.tuple (ls.map .int), .fr⟩, some ⟨rwsD rows, .fr⟩, some ⟨.int off, .fr⟩, none, none, none, none, none, none, none, none]
  have s1 : t_clocks_1 ρ0 = .ok .nx ρ0 := by simp [t_clocks_1, ρ0, c0]
  have s2 : t_clocks_2 ρ0 = .ok .nx ((Icl ls rows off 0).set 3 (some ⟨.list (slkL ls rows), .ow⟩)) := by simp [t_clocks_2, ρ0, c1, Icl, ahK_zero, pv]
  have e : (mIt (mfz (mget 3))) ((Icl ls rows off 0).set 3 (some ⟨.list (slkL ls rows), .ow⟩)) = .ok ((List.range ls.length).map fun k => prD (slk ls rows k)) (Icl ls rows off 0) := by
    simp [Icl, slkL]
  have L := forL_chk2 (ft := tgTup 2 (tgCons (putS 5) (tgCons (putS 6) tgNil))) (fb := u_clocks_1) (Icl ls rows off) (fun k => ¬ahK ls rows off (k + 1) < -off) (fun sv ρ => outsOf [false, false, false] ρ = some [] ∧ ∃ a x : Nat, a < x ∧ x ≤ ls.length ∧ seg (roomsR ls rows) a x < -2 * off ∧ sv = ⟨surC a x (carsK ls rows a x), .fr⟩) ((List.range ls.length).map fun k => prD (slk ls rows k)) 0 fun i d hd => by
    have hi : i < ls.length := by simpa using (List.getElem?_eq_some_iff.mp hd).1
    rw [List.getElem?_map, List.getElem?_range hi] at hd
    cases hd
    rw [Nat.zero_add]
    exact r_cl4 ls rows off hs.l1 h11 h0 i hi
  rw [List.length_map, List.length_range] at L
  simp only [Nat.zero_add] at L
  rw [g_clocks]
  show (_ ∧ Rf.of _ (b_clocks ρ0) = _) ∨ (_ ∧ ∃ a x : Nat, a < x ∧ x ≤ ls.length ∧ seg (roomsR ls rows) a x < -2 * off ∧ Rf.of _ (b_clocks ρ0) = _)
  rw [b_clocks, mSeq_nx s1, mSeq_nx s2]
  rcases L with ⟨a, b⟩ | ⟨a, sv, ρ, b, c, d⟩
  · left
    refine ⟨a, ?_⟩
    have s3 : l_clocks_1 ((Icl ls rows off 0).set 3 (some ⟨.list (slkL ls rows), .ow⟩)) = .ok .nx (Icl ls rows off ls.length) := by
      unfold l_clocks_1
      rw [mFor_e, bind_run, e, to_ok, b]
    have s4 : t_clocks_8 (Icl ls rows off ls.length) = .ok (.rt ⟨.tuple [.str "may", .tuple ((List.range (ls.length + 1)).map fun k => PyData.int (ahK ls rows off k))], .fr⟩) (Icl ls rows off ls.length) := by
      simp [t_clocks_8, Icl]
    rw [mSeq_nx s3, s4]
    simp [Icl]
  · right
    refine ⟨a, ?_⟩
    have s3 : l_clocks_1 ((Icl ls rows off 0).set 3 (some ⟨.list (slkL ls rows), .ow⟩)) = .ok (.rt sv) ρ := by
      unfold l_clocks_1
      rw [mFor_e, bind_run, e, to_ok, b]
    obtain ⟨i, x, q1, q2, q3, rfl⟩ := d
    refine ⟨i, x, q1, q2, q3, ?_⟩
    rw [mSeq_rt s3, rf_rt, c]
end Lw

set_option maxRecDepth 100000
/-! k10: shows_clocks. -/
namespace Lw
open PySem PySem.Spec L2 Pv
@[simp] theorem isi_tuple_l (ds : List PyData) : isiD "tuple" (.list ds) = some ⟨.bool false, .fr⟩ := by unfold isiD tyD; simp only [show kitB "list" "tuple" = some false by decide +kernel]; rfl
@[simp] theorem e_is_tuple_l (ds : List PyData) (a b : Int) : fd_is_tuple.g [.list ds, .int a, .int b] = .ok ⟨.bool false, .fr⟩ [] := by
  simp [g_is_tuple, b_is_tuple]
theorem carsK_len (ls : List Int) (rows : List (List Int)) (a x : Nat) (hx : x ≤ ls.length) : (carsK ls rows a x).length = x - a := by
  unfold carsK
  rw [List.length_map, cutRg_len _ _ _ hx]
theorem carsK_mem {ls : List Int} {rows : List (List Int)} (h1 : 1 ≤ rows.length) {a x : Nat} {c : Int} (h : c ∈ carsK ls rows a x) : 0 ≤ c ∧ c ≤ rows.length - 1 := by
  unfold carsK at h
  obtain ⟨k, _, rfl⟩ := List.mem_map.mp h
  obtain ⟨_, c, h2, h3, _⟩ := slk_room (ls := ls) h1 k
  rw [h3]
  omega
noncomputable def envS (ls : List Int) (rows : List (List Int)) (off : Int) (v : PyData) (o4 o5 o6 o7 o8 o9 : Option SV) : PEnv := [some ⟨.tuple (ls.map .int), .fr⟩, some ⟨rwsD rows, .fr⟩, some ⟨.int off, .fr⟩, some ⟨v, .fr⟩, o4, o5, o6, o7, o8, o9, none, none, none]
section
variable (ls : List Int) (rows : List (List Int)) (off : Int) (h : OkL ls) (hs : OkR ls.length rows) (h0 : 0 ≤ off) (h1 : off ≤ 1000)
include h hs h0 h1
theorem r_sc1 (v : PyData) : t_shows_clocks_1 (envS ls rows off v none none none none none none) = .ok .nx (envS ls rows off v none none none none none none) := by
  have c0 := e_check_rows ls rows off h hs h0 h1
  simp [t_shows_clocks_1, envS, c0]
omit hs h0 h1 in
theorem r_sc3 (v : PyData) : t_shows_clocks_3 (envS ls rows off v none none none none none none) = .ok .nx (envS ls rows off v (some ⟨.int (ls.length + 1), .fr⟩) none none none none none) := by
  simp [t_shows_clocks_3, envS]
omit h hs h0 h1 in
theorem r_scA (vs : List Int) (hv : vs.length ≤ 1000) (o4 : Option SV) : c_shows_clocks_1 (envS ls rows off (mayD vs) o4 none none none none none) = .ok ⟨.list ((vs.map fun v => decide (-off ≤ v ∧ v ≤ off)).map .bool), .ow⟩ (envS ls rows off (mayD vs) o4 none none none none none) := by
  rw [List.map_map]
  exact mLc_all PyData.int _ vs (by simp [envS, mayD, at_one]) (by simp [envS, plainAt]) (Pv.small hv) fun v hv => by simp [envS]
omit hs h0 h1 in
theorem r_scB (vs : List Int) (hv : vs.length = ls.length + 1) (hr : 1 ≤ rows.length) (o4 : Option SV) : c_shows_clocks_2 (envS ls rows off (mayD vs) o4 (some ⟨.list (slkL ls rows), .ow⟩) none none none none) = .ok ⟨.list (((List.range ls.length).map fun k => decide (nth vs (k + 1) - nth vs k ≤ roomK ls rows k)).map .bool), .ow⟩ (envS ls rows off (mayD vs) o4 (some ⟨.list (slkL ls rows), .fr⟩) none none none none) := by
  have h11 := h.l2
  have e : (mZi3 (mIt (mfz (mOp2 gIxS (mslot 3) (mval (pure (frv (.int 1))))))) (mIt (mfz (mSl (mval (mOp2 gIxS (mslot 3) (mval (pure (frv (.int 1)))))) (some (mval (pure (frv (.int 1))))) none))) (mIt (mfz (mget 5)))) (envS ls rows off (mayD vs) o4 (some ⟨.list (slkL ls rows), .ow⟩) none none none none) = .ok ((List.range ls.length).map fun k => PyData.tuple [.int (nth vs k), .int (nth vs (k + 1)), prD (slk ls rows k)]) (envS ls rows off (mayD vs) o4 (some ⟨.list (slkL ls rows), .fr⟩) none none none none) := by
    have := zip3D_range (ds := vs.map .int) (es := (vs.drop 1).map .int) (fs := slkL ls rows) (m := ls.length) (f := fun k => .int (nth vs k)) (g := fun k => .int (nth vs (k + 1))) (h := fun k => prD (slk ls rows k)) (by simp only [List.length_map, List.length_drop, slkL, List.length_range]; omega) (fun i hi => mapint_get (by omega)) (fun i hi => by rw [drop_get (by omega), Nat.add_comm]) (fun i hi => by unfold slkL; rw [List.getElem?_map, List.getElem?_range hi]; rfl)
    rw [← this]
    simp [envS, mayD, at_one, cut1]
  rw [← range_mapb]
  exact mLc_all (fun k : Nat => PyData.tuple [.int (nth vs k), .int (nth vs (k + 1)), prD (slk ls rows k)]) _ (List.range ls.length) e (by simp [plainAt, envS]) (by rw [List.length_range]; exact Pv.small (by omega)) fun k hk => by simp [envS, prD_at0, (slk_room hr k).1]
theorem e_sc_may (vs : List Int) (hv : vs.length = ls.length + 1) :
    fd_shows_clocks.g [.tuple (ls.map .int), rwsD rows, .int off, mayD vs] = .ok ⟨.bool (decide ((∀ v ∈ vs, -off ≤ v ∧ v ≤ off) ∧ ∀ k, k < ls.length → nth vs (k + 1) - nth vs k ≤ roomK ls rows k)), .fr⟩ [] := by
  have h11 := h.l2
  have c1 := e_slack_of ls rows h11 hs
  have s1 := r_sc1 ls rows off h hs h0 h1 (mayD vs)
  have s2 : t_shows_clocks_2 (envS ls rows off (mayD vs) none none none none none none) = .ok .nx (envS ls rows off (mayD vs) none none none none none none) := by simp [t_shows_clocks_2, envS, mayD, at_head]
  have s3 := r_sc3 ls rows off h (mayD vs)
  let M : Option SV := some ⟨.int (ls.length + 1), .fr⟩
  have t : (mB (mOp2 (gEq false) (mval (mOp2 gIxS (mslot 3) (mval (pure (frv (.int 0)))))) (mval (pure (frv (.str "may")))))) (envS ls rows off (mayD vs) M none none none none none) = .ok true (envS ls rows off (mayD vs) M none none none none none) := by
    simp [envS, mayD, at_head]
  have hv' : (vs.length : Int) = ls.length + 1 := by omega
  have s4 : t_shows_clocks_4 (envS ls rows off (mayD vs) M none none none none none) = .ok .nx (envS ls rows off (mayD vs) M none none none none none) := by
    simp [t_shows_clocks_4, envS, mayD, at_one, M, hv']
  have cA := r_scA ls rows off vs (by omega) M
  have tA : (mNot (mB (mCall (gAllAny (·.all id)) (mcons (mval c_shows_clocks_1) mnil)))) (envS ls rows off (mayD vs) M none none none none none) = .ok (!((vs.map fun v => decide (-off ≤ v ∧ v ≤ off)).all id)) (envS ls rows off (mayD vs) M none none none none none) := by
    simp [cA, -List.map_map, -List.all_map]
  have eA : ((vs.map fun v => decide (-off ≤ v ∧ v ≤ off)).all id) = decide (∀ v ∈ vs, -off ≤ v ∧ v ≤ off) := by
    rw [Bool.eq_iff_iff, decide_eq_true_eq, List.all_eq_true]
    constructor
    · intro q v hv
      exact of_decide_eq_true (q _ (List.mem_map.mpr ⟨v, hv, rfl⟩))
    · intro q b hb
      obtain ⟨v, hv, rfl⟩ := List.mem_map.mp hb
      exact decide_eq_true (q v hv)
  rw [eA] at tA
  rw [g_shows_clocks]
  show Rf.of _ (b_shows_clocks (envS ls rows off (mayD vs) none none none none none none)) = _
  rw [b_shows_clocks, mSeq_nx s1, mSeq_nx s2, mSeq_nx s3]
  by_cases q : ∀ v ∈ vs, -off ≤ v ∧ v ≤ off
  · rw [decide_eq_true q] at tA
    have s5 : t_shows_clocks_5 (envS ls rows off (mayD vs) M none none none none none) = .ok .nx (envS ls rows off (mayD vs) M none none none none none) := by
      rw [t_shows_clocks_5, mIfS_f tA]; rfl
    have s6 : t_shows_clocks_6 (envS ls rows off (mayD vs) M none none none none none) = .ok .nx (envS ls rows off (mayD vs) M (some ⟨.list (slkL ls rows), .ow⟩) none none none none) := by
      simp [t_shows_clocks_6, envS, c1]
    have cB := r_scB ls rows off h vs hv hs.l1 M
    have s7 : t_shows_clocks_7 (envS ls rows off (mayD vs) M (some ⟨.list (slkL ls rows), .ow⟩) none none none none) = .ok (.rt ⟨.bool (((List.range ls.length).map fun k => decide (nth vs (k + 1) - nth vs k ≤ roomK ls rows k)).all id), .fr⟩) (envS ls rows off (mayD vs) M (some ⟨.list (slkL ls rows), .fr⟩) none none none none) := by
      simp [t_shows_clocks_7, cB, -List.map_map, -List.all_map]
    have s8 : t_shows_clocks_8 (envS ls rows off (mayD vs) M none none none none none) = .ok (.rt ⟨.bool (((List.range ls.length).map fun k => decide (nth vs (k + 1) - nth vs k ≤ roomK ls rows k)).all id), .fr⟩) (envS ls rows off (mayD vs) M (some ⟨.list (slkL ls rows), .fr⟩) none none none none) := by
      rw [t_shows_clocks_8, mIfS_t t, mSeq_nx s4, mSeq_nx s5, mSeq_nx s6, s7]
    rw [mSeq_rt s8, allR]
    simp only [decide_eq_true_eq, eq_true q, true_and]
    simp [envS]
  · rw [decide_eq_false q] at tA
    have s5 : t_shows_clocks_5 (envS ls rows off (mayD vs) M none none none none none) = .ok (.rt ⟨.bool false, .fr⟩) (envS ls rows off (mayD vs) M none none none none none) := by
      rw [t_shows_clocks_5, mIfS_t tA]; rfl
    have s8 : t_shows_clocks_8 (envS ls rows off (mayD vs) M none none none none none) = .ok (.rt ⟨.bool false, .fr⟩) (envS ls rows off (mayD vs) M none none none none none) := by
      rw [t_shows_clocks_8, mIfS_t t, mSeq_nx s4, mSeq_rt s5]
    rw [mSeq_rt s8, decide_eq_false fun z => q z.1]
    simp [envS]
theorem e_sc_list (vs : List Int) : fd_shows_clocks.g [.tuple (ls.map .int), rwsD rows, .int off, .tuple [.str "may", .list (vs.map .int)]] = .ok ⟨.bool false, .fr⟩ [] := by
  let v : PyData := .tuple [.str "may", .list (vs.map .int)]
  let M : Option SV := some ⟨.int (ls.length + 1), .fr⟩
  have s1 := r_sc1 ls rows off h hs h0 h1 v
  have s2 : t_shows_clocks_2 (envS ls rows off v none none none none none none) = .ok .nx (envS ls rows off v none none none none none none) := by simp [t_shows_clocks_2, envS, v, at_head]
  have s3 := r_sc3 ls rows off h v
  have t : (mB (mOp2 (gEq false) (mval (mOp2 gIxS (mslot 3) (mval (pure (frv (.int 0)))))) (mval (pure (frv (.str "may")))))) (envS ls rows off v M none none none none none) = .ok true (envS ls rows off v M none none none none none) := by
    simp [envS, v, at_head]
  have s4 : t_shows_clocks_4 (envS ls rows off v M none none none none none) = .ok (.rt ⟨.bool false, .fr⟩) (envS ls rows off v M none none none none none) := by
    simp [t_shows_clocks_4, envS, v, at_one, M]
  have s8 : t_shows_clocks_8 (envS ls rows off v M none none none none none) = .ok (.rt ⟨.bool false, .fr⟩) (envS ls rows off v M none none none none none) := by
    rw [t_shows_clocks_8, mIfS_t t, mSeq_rt s4]
  rw [g_shows_clocks]
  show Rf.of _ (b_shows_clocks (envS ls rows off v none none none none none none)) = _
  rw [b_shows_clocks, mSeq_nx s1, mSeq_nx s2, mSeq_nx s3, mSeq_rt s8]
  simp [envS]
omit h0 h1 in
theorem r_scC (a x : Nat) (ha : a < x) (hx : x ≤ ls.length) (v : PyData) (o4 : Option SV) :
    c_shows_clocks_4 (envS ls rows off v o4 none (some ⟨.int (a : Nat), .fr⟩) (some ⟨.int (x : Nat), .fr⟩) (some ⟨.tuple ((carsK ls rows a x).map .int), .fr⟩) none) = .ok ⟨.list (((cutRg ls.length a x).map (roomK ls rows)).map .int), .ow⟩ (envS ls rows off v o4 none (some ⟨.int (a : Nat), .fr⟩) (some ⟨.int (x : Nat), .fr⟩) (some ⟨.tuple ((carsK ls rows a x).map .int), .fr⟩) none) := by
  have h11 := h.l2
  have hn := cutRg_len ls.length a x hx
  have e : (mZi2 (mSrcR rg2 (mcons (mslot 6) (mcons (mslot 7) mnil))) (mIt (mfz (mget 8)))) (envS ls rows off v o4 none (some ⟨.int (a : Nat), .fr⟩) (some ⟨.int (x : Nat), .fr⟩) (some ⟨.tuple ((carsK ls rows a x).map .int), .fr⟩) none) = .ok ((cutRg ls.length a x).map fun k => PyData.tuple [.int (k : Nat), .int (slk ls rows k).2]) (envS ls rows off v o4 none (some ⟨.int (a : Nat), .fr⟩) (some ⟨.int (x : Nat), .fr⟩) (some ⟨.tuple ((carsK ls rows a x).map .int), .fr⟩) none) := by
    have r := rg2_int a x (by omega) (by omega)
    have z : zipD (rgD a (x - a)) ((carsK ls rows a x).map .int) = (cutRg ls.length a x).map fun k => PyData.tuple [.int (k : Nat), .int (slk ls rows k).2] := by
      apply List.ext_getElem?
      intro i
      have l1 : (rgD (a : Int) (x - a)).length = x - a := by unfold rgD; simp
      by_cases hi : i < x - a
      · have g := cutRg_get hx hi
        unfold zipD carsK
        unfold rgD
        simp [List.getElem?_zipWith, List.getElem?_map, g, List.getElem?_range hi]
      · rw [List.getElem?_eq_none (by unfold zipD; rw [List.length_zipWith, l1]; omega), List.getElem?_eq_none (by rw [List.length_map]; omega)]
    rw [← z]
    simp [envS, r]
  rw [List.map_map]
  refine mLc_all (fun k => PyData.tuple [.int (k : Nat), .int (slk ls rows k).2]) _ (cutRg ls.length a x) e (by simp [plainAt, envS]) (by rw [hn]; exact Pv.small (by omega)) fun k hk => ?_
  have hk' : k < ls.length := by
    unfold cutRg at hk
    exact List.mem_range.mp (List.mem_of_mem_drop (List.mem_of_mem_take hk))
  obtain ⟨_, c, h2, h3, h4⟩ := slk_room (ls := ls) hs.l1 k
  have hr := (rowN_ok hs h2).len
  have e0 : L2.atI (rows.map rwD) (c : Int) = some (rwD (rowN rows c)) := at_getL (rowN_some h2)
  have e1 := at_nth (ns := rowN rows c) (k := k) (by omega)
  have e2 := at_nth (ns := rowN rows c) (k := k + 1) (by omega)
  have e3 := at_nth (ns := ls) (k := k) hk'
  push_cast at e2
  simp [envS, rwsD, h3, e0, rwD, e1, e2, e3, h4]
theorem e_sc_sur (a x : Nat) (ha : a < x) (hx : x ≤ ls.length) :
    fd_shows_clocks.g [.tuple (ls.map .int), rwsD rows, .int off, surC a x (carsK ls rows a x)] = .ok ⟨.bool (decide (seg (roomsR ls rows) a x < -2 * off)), .fr⟩ [] := by
  have h11 := h.l2
  let v : PyData := surC a x (carsK ls rows a x)
  let M : Option SV := some ⟨.int (ls.length + 1), .fr⟩
  let A : Option SV := some ⟨.int (a : Nat), .fr⟩
  let B : Option SV := some ⟨.int (x : Nat), .fr⟩
  let C : Option SV := some ⟨.tuple ((carsK ls rows a x).map .int), .fr⟩
  have s1 := r_sc1 ls rows off h hs h0 h1 v
  have s2 : t_shows_clocks_2 (envS ls rows off v none none none none none none) = .ok .nx (envS ls rows off v none none none none none none) := by simp [t_shows_clocks_2, envS, v, surC, at_head]
  have s3 := r_sc3 ls rows off h v
  have s4 : t_shows_clocks_8 (envS ls rows off v M none none none none none) = .ok .nx (envS ls rows off v M none none none none none) := by
    simp [t_shows_clocks_8, envS, v, surC, at_head]
  have c1 : c_shows_clocks_3 (envS ls rows off v M none none none none none) = .ok ⟨.list ([true, true].map .bool), .ow⟩ (envS ls rows off v M none none none none none) := by
    have hc : cutD [PyData.str "surely", .int (a : Nat), .int (x : Nat), .tuple ((carsK ls rows a x).map .int)] (some 1) (some 3) = [PyData.int (a : Nat), .int (x : Nat)] := cut_both (a := 1) (b := 3) (by simp) (by simp)
    exact mLc_all PyData.int (fun _ => .bool true) [(a : Int), (x : Int)] (by simp [envS, v, surC, hc]) (by simp [plainAt, envS]) (Pv.small (by simp)) fun k hk => by
      have : k = a ∨ k = x := by simpa using hk
      rcases this with rfl | rfl <;> simp [envS] <;> omega
  have gA : gAllAny (·.all id) [.list ([true, true].map .bool)] = some ⟨.bool true, .fr⟩ := gAllAny_list _ _
  have s5 : t_shows_clocks_9 (envS ls rows off v M none none none none none) = .ok .nx (envS ls rows off v M none none none none none) := by
    simp only [envS, v, surC] at c1
    simp [t_shows_clocks_9, envS, v, surC, at_head, c1, gA, -List.map_cons]
  have s6 : t_shows_clocks_10 (envS ls rows off v M none none none none none) = .ok .nx (envS ls rows off v M none A B C none) := by
    simp [t_shows_clocks_10, envS, v, surC, cut1, A, B, C]
  have e5 := e_is_row (carsK ls rows a x) ((x : Int) - a) ((rows.length : Int) - 1) (by rw [carsK_len _ _ _ _ hx]; omega) (by rw [carsK_len _ _ _ _ hx]; omega) fun c hc => carsK_mem hs.l1 hc
  have na : ¬(x : Int) ≤ a := by omega
  have s7 : t_shows_clocks_11 (envS ls rows off v M none A B C none) = .ok .nx (envS ls rows off v M none A B C none) := by
    have hrw : ((rows.map rwD).length : Int) = rows.length := by rw [List.length_map]
    have na' : ¬(x ≤ a) := by omega
    simp [t_shows_clocks_11, envS, A, B, C, rwsD, e5, na, na']
  have c2 := r_scC ls rows off h hs a x ha hx v M
  have s := gSum_list ((cutRg ls.length a x).map (roomK ls rows))
  rw [seg_cut] at s
  have s8 : t_shows_clocks_12 (envS ls rows off v M none A B C none) = .ok .nx (envS ls rows off v M none A B C (some ⟨.int (seg (roomsR ls rows) a x), .fr⟩)) := by
    simp only [envS] at c2
    simp [t_shows_clocks_12, envS, A, B, C, c2, s, -List.map_map, -gSum_list]
  have s9 : t_shows_clocks_13 (envS ls rows off v M none A B C (some ⟨.int (seg (roomsR ls rows) a x), .fr⟩)) = .ok (.rt ⟨.bool (decide (seg (roomsR ls rows) a x < -2 * off)), .fr⟩) (envS ls rows off v M none A B C (some ⟨.int (seg (roomsR ls rows) a x), .fr⟩)) := by
    simp [t_shows_clocks_13, envS]
  rw [g_shows_clocks]
  show Rf.of _ (b_shows_clocks (envS ls rows off v none none none none none none)) = _
  rw [b_shows_clocks, mSeq_nx s1, mSeq_nx s2, mSeq_nx s3, mSeq_nx s4, mSeq_nx s5, mSeq_nx s6, mSeq_nx s7, mSeq_nx s8, s9]
  simp [envS]
end
end Lw

set_option maxRecDepth 100000
/-! k10: shortest, averages, over; the greatest common divisor. -/
namespace Lw
open PySem PySem.Spec L2 Pv
/-- Euclid -/
def eu : Nat → Int → Int → Int
  | 0, a, _ => a
  | n + 1, a, b => if b = 0 then a else eu n b (a % b)
theorem eu_pos : ∀ (n : Nat) (a b : Int), 0 ≤ a → 0 ≤ b → (0 < a ∨ 0 < b) → b ≤ n → 0 < eu n a b ∧ eu n a b ≤ max a b
  | 0, a, b, h0, h1, h2, h3 => by
    have : b = 0 := by omega
    subst this
    show 0 < a ∧ a ≤ max a 0
    omega
  | n + 1, a, b, h0, h1, h2, h3 => by
    unfold eu
    by_cases q : b = 0
    · rw [if_pos q]; omega
    · rw [if_neg q]
      have m0 := Int.emod_nonneg a q
      have m1 := Int.emod_lt_of_pos a (show 0 < b by omega)
      have := eu_pos n b (a % b) h1 m0 (.inl (by omega)) (by omega)
      omega
theorem r_gcdW (x y : Int) : ∀ (n : Nat) (a b : Int), 0 ≤ a → 0 ≤ b → b ≤ n → whileL (mB (mOp2 (gEq true) (mslot 3) (mval (pure (frv (.int 0)))))) u_shortest_1 (n + 1) [some ⟨.int x, .fr⟩, some ⟨.int y, .fr⟩, some ⟨.int a, .fr⟩, some ⟨.int b, .fr⟩] = .ok .nx [some ⟨.int x, .fr⟩, some ⟨.int y, .fr⟩, some ⟨.int (eu n a b), .fr⟩, some ⟨.int 0, .fr⟩] := by
  intro n
  induction n with
  | zero =>
    intro a b h0 h1 h2
    have : b = 0 := by omega
    subst this
    simp [whileL, eu]
  | succ n ih =>
    intro a b h0 h1 h2
    have e : whileL (mB (mOp2 (gEq true) (mslot 3) (mval (pure (frv (.int 0)))))) u_shortest_1 (n + 1 + 1) = ((mB (mOp2 (gEq true) (mslot 3) (mval (pure (frv (.int 0)))))) >>= fun c => if c = true then (u_shortest_1 >>= fun fl => match fl with
      | .nx => whileL (mB (mOp2 (gEq true) (mslot 3) (mval (pure (frv (.int 0)))))) u_shortest_1 (n + 1)
      | .ct => whileL (mB (mOp2 (gEq true) (mslot 3) (mval (pure (frv (.int 0)))))) u_shortest_1 (n + 1)
      | .bk => pure .nx
      | .rt sv => pure (.rt sv)) else pure .nx) := rfl
    have t : (mB (mOp2 (gEq true) (mslot 3) (mval (pure (frv (.int 0)))))) [some ⟨.int x, .fr⟩, some ⟨.int y, .fr⟩, some ⟨.int a, .fr⟩, some ⟨.int b, .fr⟩] = .ok (!(b == 0)) [some ⟨.int x, .fr⟩, some ⟨.int y, .fr⟩, some ⟨.int a, .fr⟩, some ⟨.int b, .fr⟩] := by simp
    rw [e, bind_run, t, to_ok]
    unfold eu
    by_cases q : b = 0
    · subst q
      rw [if_pos rfl]
      rfl
    · have m0 := Int.emod_nonneg a q
      have m1 := Int.emod_lt_of_pos a (show 0 < b by omega)
      have hb : 0 < b := by omega
      have u : u_shortest_1 [some ⟨.int x, .fr⟩, some ⟨.int y, .fr⟩, some ⟨.int a, .fr⟩, some ⟨.int b, .fr⟩] = .ok .nx [some ⟨.int x, .fr⟩, some ⟨.int y, .fr⟩, some ⟨.int b, .fr⟩, some ⟨.int (a % b), .fr⟩] := by simp [u_shortest_1, hb]
      have nb : (!(b == 0)) = true := by simp [q]
      rw [if_neg q, nb, if_pos rfl, bind_run, u, to_ok]
      exact ih b (a % b) h1 m0 (by omega)
/-- the shortest form of a share -/
def shD (o u : Int) : PyData := if u ≤ 0 then .none else .tuple [.int (o / eu u.toNat o u), .int (u / eu u.toNat o u)]
theorem cdiv_small {i j : Int} (h : 0 < j) (h2 : j < 18446744073709551616) : CDivW i j := by
  refine ⟨h, ?_⟩
  have : j.natAbs < 2 ^ 64 := by omega
  have l := (Nat.log2_lt (n := j.natAbs) (k := 64) (by omega)).mpr this
  omega
theorem e_shortest (o u : Int) (h0 : 0 ≤ o) (h1 : o < 10000000) (h2 : u < 10000000) : fd_shortest.g [.int o, .int u] = .ok ⟨shD o u, .fr⟩ [] := by
  rw [g_shortest]
  show Rf.of _ (b_shortest [some ⟨.int o, .fr⟩, some ⟨.int u, .fr⟩, none, none]) = _
  rw [b_shortest]
  unfold shD
  by_cases q : u ≤ 0
  · rw [if_pos q]
    have s1 : t_shortest_1 [some ⟨.int o, .fr⟩, some ⟨.int u, .fr⟩, none, none] = .ok (.rt ⟨.none, .fr⟩) [some ⟨.int o, .fr⟩, some ⟨.int u, .fr⟩, none, none] := by simp [t_shortest_1, q]
    rw [mSeq_rt s1]
    simp
  · rw [if_neg q]
    have s1 : t_shortest_1 [some ⟨.int o, .fr⟩, some ⟨.int u, .fr⟩, none, none] = .ok .nx [some ⟨.int o, .fr⟩, some ⟨.int u, .fr⟩, none, none] := by simp [t_shortest_1, q]
    have s2 : t_shortest_2 [some ⟨.int o, .fr⟩, some ⟨.int u, .fr⟩, none, none] = .ok .nx [some ⟨.int o, .fr⟩, some ⟨.int u, .fr⟩, some ⟨.int o, .fr⟩, some ⟨.int u, .fr⟩] := by simp [t_shortest_2]
    have w := r_gcdW o u u.toNat o u h0 (by omega) (by omega)
    have s3 : l_shortest_1 [some ⟨.int o, .fr⟩, some ⟨.int u, .fr⟩, some ⟨.int o, .fr⟩, some ⟨.int u, .fr⟩] = .ok .nx [some ⟨.int o, .fr⟩, some ⟨.int u, .fr⟩, some ⟨.int (eu u.toNat o u), .fr⟩, some ⟨.int 0, .fr⟩] := by
      unfold l_shortest_1
      rw [mWhile_eq (n := u.toNat + 1) (by rw [w]; exact fun z => nomatch z), w]
    have p := eu_pos u.toNat o u h0 (by omega) (.inr (by omega)) (by omega)
    have d1 : CDivW o (eu u.toNat o u) := cdiv_small p.1 (by omega)
    have d2 : CDivW u (eu u.toNat o u) := cdiv_small p.1 (by omega)
    have s4 : t_shortest_3 [some ⟨.int o, .fr⟩, some ⟨.int u, .fr⟩, some ⟨.int (eu u.toNat o u), .fr⟩, some ⟨.int 0, .fr⟩] = .ok (.rt ⟨.tuple [.int (o / eu u.toNat o u), .int (u / eu u.toNat o u)], .fr⟩) [some ⟨.int o, .fr⟩, some ⟨.int u, .fr⟩, some ⟨.int (eu u.toNat o u), .fr⟩, some ⟨.int 0, .fr⟩] := by
      simp [t_shortest_3, d1, d2]
    rw [mSeq_nx s1, mSeq_nx s2, mSeq_nx s3, s4]
    simp
/-- the law's own -/
theorem r_gcdF : ∀ (n : Nat) (ds : List PyData) (a b : Int) (o : Option SV), n < ds.length → 0 ≤ a → 0 ≤ b → b ≤ n → ∃ o', forL (putS 2) u__law_gcd_1 ds [some ⟨.int a, .fr⟩, some ⟨.int b, .fr⟩, o] = .ok .nx [some ⟨.int (eu n a b), .fr⟩, some ⟨.int 0, .fr⟩, o']
  | n, [], a, b, o, h, _, _, _ => by simp at h
  | 0, d :: ds, a, b, o, h, h0, h1, h2 => by
    have : b = 0 := by omega
    subst this
    refine ⟨some ⟨d, .fr⟩, ?_⟩
    rw [forL_cons]
    simp [u__law_gcd_1, t__law_gcd_1, t__law_gcd_2, eu]
  | n + 1, d :: ds, a, b, o, h, h0, h1, h2 => by
    by_cases q : b = 0
    · subst q
      refine ⟨some ⟨d, .fr⟩, ?_⟩
      rw [forL_cons]
      simp [u__law_gcd_1, t__law_gcd_1, t__law_gcd_2, eu]
    · have m0 := Int.emod_nonneg a q
      have m1 := Int.emod_lt_of_pos a (show 0 < b by omega)
      have hb : 0 < b := by omega
      obtain ⟨o', e⟩ := r_gcdF n ds b (a % b) (some ⟨d, .fr⟩) (by simpa using h) h1 m0 (by omega)
      refine ⟨o', ?_⟩
      have u : u__law_gcd_1 [some ⟨.int a, .fr⟩, some ⟨.int b, .fr⟩, some ⟨d, .fr⟩] = .ok .nx [some ⟨.int b, .fr⟩, some ⟨.int (a % b), .fr⟩, some ⟨d, .fr⟩] := by simp [u__law_gcd_1, t__law_gcd_1, t__law_gcd_2, hb, q]
      have p : putS 2 d [some ⟨.int a, .fr⟩, some ⟨.int b, .fr⟩, o] = .ok () [some ⟨.int a, .fr⟩, some ⟨.int b, .fr⟩, some ⟨d, .fr⟩] := by simp
      rw [forL_cons, bind_run, p, to_ok, bind_run, u, to_ok]
      show forL (putS 2) u__law_gcd_1 ds _ = _
      rw [e]
      simp [eu, q]
theorem e__law_gcd (a b : Int) (h0 : 0 ≤ a) (h1 : 0 < b) (h2 : b < 1000000) : fd__law_gcd.g [.int a, .int b] = .ok ⟨.int (eu b.toNat a b), .fr⟩ [] := by
  rw [g__law_gcd]
  show Rf.of _ (b__law_gcd [some ⟨.int a, .fr⟩, some ⟨.int b, .fr⟩, none]) = _
  have pw : gPow (.int 10) (.int 6) = some ⟨.int 1000000, .fr⟩ := by
    have c : CPowW 10 6 := by unfold CPowW; decide
    simp [c]
  have rg := rg1_int 1000000 (by omega)
  have hl : b.toNat < (rgD 0 1000000).length := by unfold rgD; rw [List.length_map, List.length_range]; omega
  generalize rgD 0 1000000 = ds at rg hl
  have e : (mRg rg1 (mcons (mval (mOp2 gPow (mval (pure (frv (.int 10)))) (mval (pure (frv (.int 6)))))) mnil)) [some ⟨.int a, .fr⟩, some ⟨.int b, .fr⟩, none] = .ok ds [some ⟨.int a, .fr⟩, some ⟨.int b, .fr⟩, none] := by
    have rg' : rg1 [.int 1000000] = some ds := rg
    simp [pw, rg', -gPow_int]
  obtain ⟨o', f⟩ := r_gcdF b.toNat ds a b none hl h0 (by omega) (by omega)
  have s1 : l__law_gcd_1 [some ⟨.int a, .fr⟩, some ⟨.int b, .fr⟩, none] = .ok .nx [some ⟨.int (eu b.toNat a b), .fr⟩, some ⟨.int 0, .fr⟩, o'] := by
    unfold l__law_gcd_1
    rw [mFor_e, bind_run, e, to_ok, f]
  have p := eu_pos b.toNat a b h0 (by omega) (.inr h1) (by omega)
  have np : ¬eu b.toNat a b < 0 := by omega
  have s2 : t__law_gcd_3 [some ⟨.int (eu b.toNat a b), .fr⟩, some ⟨.int 0, .fr⟩, o'] = .ok (.rt ⟨.int (eu b.toNat a b), .fr⟩) [some ⟨.int (eu b.toNat a b), .fr⟩, some ⟨.int 0, .fr⟩, o'] := by
    simp [t__law_gcd_3, np]
  rw [b__law_gcd, mSeq_nx s1, s2]
  simp
theorem seg_nn {rs : List Int} (h : ∀ x ∈ rs, 0 ≤ x) (i j : Nat) : 0 ≤ seg rs i j := by
  unfold seg
  have : ∀ x ∈ (rs.drop i).take (j - i), 0 ≤ x := fun x hx => h x (List.mem_of_mem_drop (List.mem_of_mem_take hx))
  generalize (rs.drop i).take (j - i) = l at this
  induction l with
  | nil => simp
  | cons x l ih =>
    rw [List.sum_cons]
    have a := this x List.mem_cons_self
    have b := ih fun y hy => this y (List.mem_cons_of_mem _ hy)
    omega
theorem sum_le {l : List Int} {m : Int} (h : ∀ x ∈ l, x ≤ m) : l.sum ≤ l.length * m := by
  induction l with
  | nil => simp
  | cons x l ih =>
    rw [List.sum_cons]
    have a := h x List.mem_cons_self
    have b := ih fun y hy => h y (List.mem_cons_of_mem _ hy)
    simp only [List.length_cons]
    push_cast
    rw [Int.add_mul]
    omega
theorem seg_ub {rs : List Int} {n : Nat} {m : Int} (hm : 0 ≤ m) (hn : rs.length ≤ n) (h : ∀ x ∈ rs, x ≤ m) (i j : Nat) : seg rs i j ≤ n * m := by
  unfold seg
  have : ∀ x ∈ (rs.drop i).take (j - i), x ≤ m := fun x hx => h x (List.mem_of_mem_drop (List.mem_of_mem_take hx))
  have a := sum_le this
  have b : ((rs.drop i).take (j - i)).length ≤ n := by rw [List.length_take, List.length_drop]; omega
  have c : (((rs.drop i).take (j - i)).length : Int) * m ≤ n * m := Int.mul_le_mul_of_nonneg_right (by omega) hm
  omega
theorem e_averages (ls ss : List Int) (off : Int) (a x : Nat) (h : OkL ls) (hs : OkS ls.length ss) (h0 : 0 ≤ off) (h1 : off ≤ 1000) (ha : a < x) (hx : x ≤ ls.length) :
    fd_averages.g [.tuple (ls.map .int), .tuple (ss.map .int), .int off, .int (a : Nat), .int (x : Nat)] = .ok ⟨.tuple [shD (seg ls a x) (nth ss x - nth ss a + 2 * off), shD (seg ls a x) (nth ss x - nth ss a - 2 * off)], .fr⟩ [] := by
  have hl := hs.len
  have c0 := e_check_seen ls ss off h hs h0 h1
  have e1 := at_nth (ns := ss) (k := a) (by omega)
  have e2 := at_nth (ns := ss) (k := x) (by omega)
  have e3 := cut_seg (ns := ls) (a := a) (b := x) (by omega) hx
  have g0 := seg_nn (fun y hy => (h.lo y hy).1) a x
  have g1 := seg_ub (n := 11) (m := 100000) (by omega) h.l2 (fun y hy => (h.lo y hy).2) a x
  have b1 := hs.lo _ (List.mem_of_getElem? (nth_some (ns := ss) (k := a) (by omega)))
  have b2 := hs.lo _ (List.mem_of_getElem? (nth_some (ns := ss) (k := x) (by omega)))
  have q1 := e_shortest (seg ls a x) (nth ss x - nth ss a + 2 * off) g0 (by omega) (by omega)
  have q2 := e_shortest (seg ls a x) (nth ss x - nth ss a - 2 * off) g0 (by omega) (by omega)
  let E (o5 o6 o7 : Option SV) : PEnv := [some ⟨.tuple (ls.map .int), .fr⟩, some ⟨.tuple (ss.map .int), .fr⟩, some ⟨.int off, .fr⟩, some ⟨.int (a : Nat), .fr⟩, some ⟨.int (x : Nat), .fr⟩, o5, o6, o7]
  have s1 : t_averages_1 (E none none none) = .ok .nx (E none none none) := by simp [t_averages_1, E, c0]
  have ha' : (a : Int) ≤ ls.length := by omega
  have hx' : (x : Int) ≤ ls.length := by omega
  have na : ¬x ≤ a := by omega
  have s2 : l_averages_1 (E none none none) = .ok .nx (E (some ⟨.int (x : Nat), .fr⟩) none none) := by
    have n1 : ¬ls.length < a := by omega
    have n2 : ¬ls.length < x := by omega
    simp [l_averages_1, u_averages_1, E, forL_cons, n1, n2]
  have s3 : t_averages_2 (E (some ⟨.int (x : Nat), .fr⟩) none none) = .ok .nx (E (some ⟨.int (x : Nat), .fr⟩) none none) := by simp [t_averages_2, E, na]
  have s4 : t_averages_3 (E (some ⟨.int (x : Nat), .fr⟩) none none) = .ok .nx (E (some ⟨.int (x : Nat), .fr⟩) (some ⟨.int (seg ls a x), .fr⟩) (some ⟨.int (nth ss x - nth ss a), .fr⟩)) := by
    simp [t_averages_3, E, e1, e2, e3]
  have s5 : t_averages_4 (E (some ⟨.int (x : Nat), .fr⟩) (some ⟨.int (seg ls a x), .fr⟩) (some ⟨.int (nth ss x - nth ss a), .fr⟩)) = .ok (.rt ⟨.tuple [shD (seg ls a x) (nth ss x - nth ss a + 2 * off), shD (seg ls a x) (nth ss x - nth ss a - 2 * off)], .fr⟩) (E (some ⟨.int (x : Nat), .fr⟩) (some ⟨.int (seg ls a x), .fr⟩) (some ⟨.int (nth ss x - nth ss a), .fr⟩)) := by
    simp [t_averages_4, E, q1, q2]
  rw [g_averages]
  show Rf.of _ (b_averages (E none none none)) = _
  rw [b_averages, mSeq_nx s1, mSeq_nx s2, mSeq_nx s3, mSeq_nx s4, s5]
  simp [E]
end Lw

set_option maxRecDepth 100000
/-! k10: over; lack, rooms, half. -/
namespace Lw
open PySem PySem.Spec L2 Pv
/-! ### pairs of gates -/
def inn (c : Nat → Nat → Bool) (i j : Nat) : List (Int × Int) := ((List.range j).filter fun t => c i (i + 1 + t)).map fun t => ((i : Nat), ((i + 1 + t : Nat) : Int))
def ovI (c : Nat → Nat → Bool) (n : Nat) : Nat → List (Int × Int)
  | 0 => []
  | i + 1 => ovI c n i ++ inn c i (n - i)
theorem inn_succ (c : Nat → Nat → Bool) (i j : Nat) : inn c i (j + 1) = inn c i j ++ if c i (i + 1 + j) = true then [((i : Int), ((i + 1 + j : Nat) : Int))] else [] := by
  unfold inn
  rw [List.range_succ, List.filter_append, List.map_append]
  by_cases q : c i (i + 1 + j) = true <;> simp [q]
theorem inn_len (c : Nat → Nat → Bool) (i j : Nat) : (inn c i j).length ≤ j := by
  unfold inn
  rw [List.length_map]
  have := List.length_filter_le (fun t => c i (i + 1 + t)) (List.range j)
  rw [List.length_range] at this
  exact this
theorem ovI_len (c : Nat → Nat → Bool) (n : Nat) : ∀ i, (ovI c n i).length ≤ i * n
  | 0 => by simp [ovI]
  | i + 1 => by
    show (ovI c n i ++ _).length ≤ _
    rw [List.length_append, Nat.add_mul]
    have := ovI_len c n i
    have := inn_len c i (n - i)
    omega
theorem ovI_small {c : Nat → Nat → Bool} {n i : Nat} (hn : n ≤ 11) (hi : i ≤ n + 1) (j : Nat) (hj : j ≤ n) : (ovI c n i ++ inn c i j).length ≤ 999 := by
  rw [List.length_append]
  have a := ovI_len c n i
  have b := inn_len c i j
  have : i * n ≤ 12 * 11 := Nat.mul_le_mul (by omega) hn
  omega
theorem rgD_get {a : Int} {m t : Nat} {d : PyData} (h : (rgD a m)[t]? = some d) : t < m ∧ d = .int (a + t) := by
  unfold rgD at h
  rw [List.getElem?_map] at h
  by_cases q : t < m
  · rw [List.getElem?_range q] at h
    exact ⟨q, (Option.some.inj h).symm⟩
  · rw [List.getElem?_eq_none (by rw [List.length_range]; omega)] at h
    cases h
theorem rgD_length (a : Int) (m : Nat) : (rgD a m).length = m := by unfold rgD; simp
/-- too fast anywhere -/
def fast (ls ss : List Int) (off lim : Int) (i j : Nat) : Bool := decide (lim * (nth ss j - nth ss i + 2 * off) < seg ls i j)
def envO (ls ss : List Int) (off lim : Int) (ps : List (Int × Int)) (o5 o6 o7 : Option SV) : PEnv := [some ⟨.tuple (ls.map .int), .fr⟩, some ⟨.tuple (ss.map .int), .fr⟩, some ⟨.int off, .fr⟩, some ⟨.int lim, .fr⟩, some ⟨.list (ps.map prD), .ow⟩, o5, o6, o7]
theorem r_ov1 (ls ss : List Int) (off lim : Int) (hl : ss.length = ls.length + 1) (h11 : ls.length ≤ 11) (hm0 : 0 ≤ lim) (hm : lim ≤ 100000) (i : Nat) (hi : i < ls.length + 1) (o6 o7 : Option SV) :
    ∃ o6' o7', l_over_1 (envO ls ss off lim (ovI (fast ls ss off lim) ls.length i) (some ⟨.int (i : Nat), .fr⟩) o6 o7) = .ok .nx (envO ls ss off lim (ovI (fast ls ss off lim) ls.length (i + 1)) (some ⟨.int (i : Nat), .fr⟩) o6' o7') := by
  have r := rg2_int (i + 1) (ls.length + 1) (by omega) (by omega)
  have e : (mRg rg2 (mcons (mval (mOp2 gAdd (mslot 5) (mval (pure (frv (.int 1)))))) (mcons (mval (mCall gLen (mcons (mslot 1) mnil))) mnil))) (envO ls ss off lim (ovI (fast ls ss off lim) ls.length i) (some ⟨.int (i : Nat), .fr⟩) o6 o7) = .ok (rgD ((i + 1 : Nat) : Int) (ls.length + 1 - (i + 1))) (envO ls ss off lim (ovI (fast ls ss off lim) ls.length i) (some ⟨.int (i : Nat), .fr⟩) o6 o7) := by
    push_cast at r ⊢
    simp [envO, hl, r]
  obtain ⟨ρ', e2, o6', o7', e3⟩ := forL_inv (ft := putS 6) (fb := u_over_1) (fun j ρ => ∃ o6 o7, ρ = envO ls ss off lim (ovI (fast ls ss off lim) ls.length i ++ inn (fast ls ss off lim) i j) (some ⟨.int (i : Nat), .fr⟩) o6 o7) (rgD ((i + 1 : Nat) : Int) (ls.length + 1 - (i + 1))) 0 (envO ls ss off lim (ovI (fast ls ss off lim) ls.length i) (some ⟨.int (i : Nat), .fr⟩) o6 o7) ⟨o6, o7, by simp [inn]⟩ fun j d ρ hd hI => by
    obtain ⟨o6, o7, rfl⟩ := hI
    obtain ⟨hj, rfl⟩ := rgD_get hd
    rw [Nat.zero_add]
    have hx : i + 1 + j ≤ ls.length := by omega
    have e1 := at_nth (ns := ss) (k := i) (by omega)
    have e2 := at_nth (ns := ss) (k := i + 1 + j) (by omega)
    have e3 := cut_seg (ns := ls) (a := i) (b := i + 1 + j) (by omega) hx
    have hc : (((i + 1 : Nat) : Int) + (j : Nat)) = ((i + 1 + j : Nat) : Int) := by push_cast; rfl
    rw [hc]
    have p : putS 6 (.int ((i + 1 + j : Nat) : Int)) (envO ls ss off lim (ovI (fast ls ss off lim) ls.length i ++ inn (fast ls ss off lim) i j) (some ⟨.int (i : Nat), .fr⟩) o6 o7) = .ok () (envO ls ss off lim (ovI (fast ls ss off lim) ls.length i ++ inn (fast ls ss off lim) i j) (some ⟨.int (i : Nat), .fr⟩) (some ⟨.int ((i + 1 + j : Nat) : Int), .fr⟩) o7) := by simp [envO]
    have s1 : t_over_4 (envO ls ss off lim (ovI (fast ls ss off lim) ls.length i ++ inn (fast ls ss off lim) i j) (some ⟨.int (i : Nat), .fr⟩) (some ⟨.int ((i + 1 + j : Nat) : Int), .fr⟩) o7) = .ok .nx (envO ls ss off lim (ovI (fast ls ss off lim) ls.length i ++ inn (fast ls ss off lim) i j) (some ⟨.int (i : Nat), .fr⟩) (some ⟨.int ((i + 1 + j : Nat) : Int), .fr⟩) (some ⟨.int (nth ss (i + 1 + j) - nth ss i + 2 * off), .fr⟩)) := by
      generalize hxx : i + 1 + j = x at *
      simp [t_over_4, envO, e1, e2]
    have cm : CMulA lim (nth ss (i + 1 + j) - nth ss i + 2 * off) := cmul_l (by omega) (by omega)
    have t : (mB (mOp2 gGtA (mval (mCallF fd_needed (mcons (mArgF (mfz (mget 0))) (mcons (mArgF (mfz (mget 5))) (mcons (mArgF (mfz (mget 6))) mnil))))) (mval (mOp2 gMul (mslot 3) (mslot 7))))) (envO ls ss off lim (ovI (fast ls ss off lim) ls.length i ++ inn (fast ls ss off lim) i j) (some ⟨.int (i : Nat), .fr⟩) (some ⟨.int ((i + 1 + j : Nat) : Int), .fr⟩) (some ⟨.int (nth ss (i + 1 + j) - nth ss i + 2 * off), .fr⟩)) = .ok (fast ls ss off lim i (i + 1 + j)) (envO ls ss off lim (ovI (fast ls ss off lim) ls.length i ++ inn (fast ls ss off lim) i j) (some ⟨.int (i : Nat), .fr⟩) (some ⟨.int ((i + 1 + j : Nat) : Int), .fr⟩) (some ⟨.int (nth ss (i + 1 + j) - nth ss i + 2 * off), .fr⟩)) := by
      generalize hxx : i + 1 + j = x at *
      simp [envO, e3, cm, fast]
    refine ⟨.nx, envO ls ss off lim (ovI (fast ls ss off lim) ls.length i ++ inn (fast ls ss off lim) i (j + 1)) (some ⟨.int (i : Nat), .fr⟩) (some ⟨.int ((i + 1 + j : Nat) : Int), .fr⟩) (some ⟨.int (nth ss (i + 1 + j) - nth ss i + 2 * off), .fr⟩), .inl rfl, ?_, _, _, rfl⟩
    rw [bind_run, p, to_ok, u_over_1, mSeq_nx s1, t_over_5, inn_succ]
    by_cases q : fast ls ss off lim i (i + 1 + j) = true
    · rw [q] at t
      have a : (mfz (mTup (mcons (mfz (mget 5)) (mcons (mfz (mget 6)) mnil)))) (envO ls ss off lim (ovI (fast ls ss off lim) ls.length i ++ inn (fast ls ss off lim) i j) (some ⟨.int (i : Nat), .fr⟩) (some ⟨.int ((i + 1 + j : Nat) : Int), .fr⟩) (some ⟨.int (nth ss (i + 1 + j) - nth ss i + 2 * off), .fr⟩)) = .ok (prD ((i : Nat), ((i + 1 + j : Nat) : Int))) (envO ls ss off lim (ovI (fast ls ss off lim) ls.length i ++ inn (fast ls ss off lim) i j) (some ⟨.int (i : Nat), .fr⟩) (some ⟨.int ((i + 1 + j : Nat) : Int), .fr⟩) (some ⟨.int (nth ss (i + 1 + j) - nth ss i + 2 * off), .fr⟩)) := by
        simp [envO, prD]
      have sm := ovI_small (c := fast ls ss off lim) (n := ls.length) (i := i) h11 (by omega) j (by omega)
      rw [mIfS_t t, mAppend_run (i := 4) rfl a rfl (by rw [List.length_map]; exact smallT (by omega)), if_pos q, ← List.append_assoc]
      simp [envO]
    · have qf : fast ls ss off lim i (i + 1 + j) = false := by simpa using q
      rw [qf] at t
      rw [mIfS_f t, if_neg q, List.append_nil]
      rfl
  refine ⟨o6', o7', ?_⟩
  unfold l_over_1
  rw [mFor_e, bind_run, e, to_ok, e2, e3, rgD_length, Nat.zero_add, show ls.length + 1 - (i + 1) = ls.length - i by omega]
  rfl
theorem e_over (ls ss : List Int) (off lim : Int) (h : OkL ls) (hs : OkS ls.length ss) (h0 : 0 ≤ off) (h1 : off ≤ 1000) (hm0 : 0 ≤ lim) (hm : lim ≤ 100000) :
    fd_over.g [.tuple (ls.map .int), .tuple (ss.map .int), .int off, .int lim] = .ok ⟨.tuple ((ovI (fast ls ss off lim) ls.length (ls.length + 1)).map prD), .fr⟩ [] := by
  have hl := hs.len
  have h11 := h.l2
  have c0 := e_check_seen ls ss off h hs h0 h1
  let ρ0 : PEnv := [some ⟨.tuple (ls.map .int), .fr⟩, some ⟨.tuple (ss.map .int), .fr⟩, some ⟨.int off, .fr⟩, some ⟨.int lim, .fr⟩, none, none, none, none]
  have s1 : t_over_1 ρ0 = .ok .nx ρ0 := by simp [t_over_1, ρ0, c0]
  have s2 : t_over_2 ρ0 = .ok .nx ρ0 := by simp [t_over_2, ρ0, hm0, hm]
  have s3 : t_over_3 ρ0 = .ok .nx (envO ls ss off lim (ovI (fast ls ss off lim) ls.length 0) none none none) := by simp [t_over_3, ρ0, envO, ovI]
  have e : (mRg rg1 (mcons (mval (mCall gLen (mcons (mslot 1) mnil))) mnil)) (envO ls ss off lim (ovI (fast ls ss off lim) ls.length 0) none none none) = .ok (rgD 0 (ls.length + 1)) (envO ls ss off lim (ovI (fast ls ss off lim) ls.length 0) none none none) := by
    have := rg1_int (ls.length + 1) (by omega)
    push_cast at this
    simp [envO, hl, this]
  obtain ⟨ρ', e2, o5, o6, o7, e3⟩ := forL_inv (ft := putS 5) (fb := u_over_2) (fun j ρ => ∃ o5 o6 o7, ρ = envO ls ss off lim (ovI (fast ls ss off lim) ls.length j) o5 o6 o7) (rgD 0 (ls.length + 1)) 0 (envO ls ss off lim (ovI (fast ls ss off lim) ls.length 0) none none none) ⟨_, _, _, rfl⟩ fun j d ρ hd hI => by
    obtain ⟨o5, o6, o7, rfl⟩ := hI
    obtain ⟨hj, rfl⟩ := rgD_get hd
    rw [Nat.zero_add, Int.zero_add]
    obtain ⟨o6', o7', z⟩ := r_ov1 ls ss off lim hl h11 hm0 hm j hj o6 o7
    have p : putS 5 (.int (j : Nat)) (envO ls ss off lim (ovI (fast ls ss off lim) ls.length j) o5 o6 o7) = .ok () (envO ls ss off lim (ovI (fast ls ss off lim) ls.length j) (some ⟨.int (j : Nat), .fr⟩) o6 o7) := by simp [envO]
    refine ⟨.nx, _, .inl rfl, by rw [bind_run, p, to_ok, u_over_2, z], _, _, _, rfl⟩
  have s4 : l_over_2 (envO ls ss off lim (ovI (fast ls ss off lim) ls.length 0) none none none) = .ok .nx (envO ls ss off lim (ovI (fast ls ss off lim) ls.length (ls.length + 1)) o5 o6 o7) := by
    unfold l_over_2
    rw [mFor_e, bind_run, e, to_ok, e2, e3, rgD_length, Nat.zero_add]
  have s5 : t_over_6 (envO ls ss off lim (ovI (fast ls ss off lim) ls.length (ls.length + 1)) o5 o6 o7) = .ok (.rt ⟨.tuple ((ovI (fast ls ss off lim) ls.length (ls.length + 1)).map prD), .fr⟩) (envO ls ss off lim (ovI (fast ls ss off lim) ls.length (ls.length + 1)) o5 o6 o7) := by
    simp [t_over_6, envO]
  rw [g_over]
  show Rf.of _ (b_over ρ0) = _
  rw [b_over, mSeq_nx s1, mSeq_nx s2, mSeq_nx s3, mSeq_nx s4, s5]
  simp [envO]
/-! ### the law's own: lack, rooms, half -/
theorem kad_foldl_cons (r : Int) (rs : List Int) (h m : Int) (hm : h ≤ m) : (kad h (r :: rs)).foldl max m = (kad (max 0 (h - r)) rs).foldl max (max m (max 0 (h - r))) := by
  show (kad (max 0 (h - r)) rs).foldl max (max m h) = _
  have : max m h = m := by omega
  rw [this]
  cases rs with
  | nil => show max m _ = max (max m _) _; omega
  | cons r' rs => show List.foldl max (max m _) _ = List.foldl max (max (max m _) _) _; congr 1; omega
theorem r_lk (d : Option SV) : ∀ (rs : List Int) (h m : Int) (o : Option SV), h ≤ m → ∃ o2 o3, forL (putS 3) u__law_lack_1 (rs.map .int) [d, some ⟨.int m, .fr⟩, some ⟨.int h, .fr⟩, o] = .ok .nx [d, some ⟨.int ((kad h rs).foldl max m), .fr⟩, o2, o3]
  | [], h, m, o, hm => by
    refine ⟨some ⟨.int h, .fr⟩, o, ?_⟩
    have : max m h = m := by omega
    simp [kad, this]
  | r :: rs, h, m, o, hm => by
    obtain ⟨o2, o3, e⟩ := r_lk d rs (max 0 (h - r)) (max m (max 0 (h - r))) (some ⟨.int r, .fr⟩) (by omega)
    refine ⟨o2, o3, ?_⟩
    have p : putS 3 (.int r) [d, some ⟨.int m, .fr⟩, some ⟨.int h, .fr⟩, o] = .ok () [d, some ⟨.int m, .fr⟩, some ⟨.int h, .fr⟩, some ⟨.int r, .fr⟩] := by simp
    have m1 : (if h - r > 0 then h - r else 0) = max 0 (h - r) := by split <;> omega
    have m2 : (if max 0 (h - r) > m then max 0 (h - r) else m) = max m (max 0 (h - r)) := by split <;> omega
    have s1 : t__law_lack_2 [d, some ⟨.int m, .fr⟩, some ⟨.int h, .fr⟩, some ⟨.int r, .fr⟩] = .ok .nx [d, some ⟨.int m, .fr⟩, some ⟨.int (max 0 (h - r)), .fr⟩, some ⟨.int r, .fr⟩] := by
      rw [← m1]
      simp [t__law_lack_2]
    have s2 : t__law_lack_3 [d, some ⟨.int m, .fr⟩, some ⟨.int (max 0 (h - r)), .fr⟩, some ⟨.int r, .fr⟩] = .ok .nx [d, some ⟨.int (max m (max 0 (h - r))), .fr⟩, some ⟨.int (max 0 (h - r)), .fr⟩, some ⟨.int r, .fr⟩] := by
      rw [← m2]
      simp [t__law_lack_3]
    rw [List.map_cons, forL_cons, bind_run, p, to_ok, bind_run, u__law_lack_1, mSeq_nx s1, s2, to_ok, kad_foldl_cons r rs h m hm]
    exact e
@[simp] theorem e__law_lack (rs : List Int) : fd__law_lack.g [.list (rs.map .int)] = .ok ⟨.int (lack rs), .fr⟩ [] := by
  rw [g__law_lack]
  obtain ⟨o2, o3, e⟩ := r_lk (some ⟨.list (rs.map .int), .fr⟩) rs 0 0 none (Int.le_refl _)
  have s1 : t__law_lack_1 [some ⟨.list (rs.map .int), .fr⟩, none, none, none] = .ok .nx [some ⟨.list (rs.map .int), .fr⟩, some ⟨.int 0, .fr⟩, some ⟨.int 0, .fr⟩, none] := by simp [t__law_lack_1]
  have s2 : l__law_lack_1 [some ⟨.list (rs.map .int), .fr⟩, some ⟨.int 0, .fr⟩, some ⟨.int 0, .fr⟩, none] = .ok .nx [some ⟨.list (rs.map .int), .fr⟩, some ⟨.int (lack rs), .fr⟩, o2, o3] := by
    unfold l__law_lack_1
    have a : (mIt (mfz (mget 0))) [some ⟨.list (rs.map .int), .fr⟩, some ⟨.int 0, .fr⟩, some ⟨.int 0, .fr⟩, none] = .ok (rs.map .int) [some ⟨.list (rs.map .int), .fr⟩, some ⟨.int 0, .fr⟩, some ⟨.int 0, .fr⟩, none] := by simp
    rw [mFor_e, bind_run, a, to_ok, e]
    rfl
  have s3 : t__law_lack_4 [some ⟨.list (rs.map .int), .fr⟩, some ⟨.int (lack rs), .fr⟩, o2, o3] = .ok (.rt ⟨.int (lack rs), .fr⟩) [some ⟨.list (rs.map .int), .fr⟩, some ⟨.int (lack rs), .fr⟩, o2, o3] := by simp [t__law_lack_4]
  show Rf.of _ (b__law_lack [some ⟨.list (rs.map .int), .fr⟩, none, none, none]) = _
  rw [b__law_lack, mSeq_nx s1, mSeq_nx s2, s3]
  simp
@[simp] theorem e__law_half (x : Int) : fd__law_half.g [.int x] = .ok ⟨.int (hf x), .fr⟩ [] := by
  have := half_up x
  simp [g__law_half, b__law_half, hf, this]
theorem r_rm1 (ls : List Int) (rows : List (List Int)) (hs : OkR ls.length rows) (k : Nat) (hk : k < ls.length) (f : List PyData → PyData) (hf : (srcD (f (rows.map rwD))) = some (rows.map rwD)) (z : Int) :
    c__law_rooms_1 [some ⟨.tuple (ls.map .int), .fr⟩, some ⟨f (rows.map rwD), .fr⟩, some ⟨.int (k : Nat), .fr⟩, some ⟨.int z, .fr⟩, none] = .ok ⟨.list ((rows.map fun r => nth r (k + 1) - nth r k).map .int), .ow⟩ [some ⟨.tuple (ls.map .int), .fr⟩, some ⟨f (rows.map rwD), .fr⟩, some ⟨.int (k : Nat), .fr⟩, some ⟨.int z, .fr⟩, none] := by
  rw [List.map_map]
  refine mLc_all rwD _ rows (by simp [hf]) (by simp [plainAt]) (Pv.small (by have := hs.l2; omega)) fun r hr => ?_
  have hl := (hs.ok r hr).len
  have e1 := at_nth (ns := r) (k := k) (by omega)
  have e2 := at_nth (ns := r) (k := k + 1) (by omega)
  push_cast at e2
  simp [rwD, e1, e2]
theorem e__law_roomsG (ls : List Int) (rows : List (List Int)) (h11 : ls.length ≤ 11) (hs : OkR ls.length rows) (f : List PyData → PyData) (hf : (srcD (f (rows.map rwD))) = some (rows.map rwD)) :
    fd__law_rooms.g [.tuple (ls.map .int), f (rows.map rwD)] = .ok ⟨.list ((roomsR ls rows).map .int), .ow⟩ [] := by
  have z : ls.map PyData.int = (List.range ls.length).map fun k => PyData.int (nth ls k) := by
    have h := list_range (0 : Int) ls
    conv => lhs; rw [h]
    rw [List.map_map]; rfl
  have c : c__law_rooms_2 [some ⟨.tuple (ls.map .int), .fr⟩, some ⟨f (rows.map rwD), .fr⟩, none, none, none] = .ok ⟨.list ((roomsR ls rows).map .int), .ow⟩ [some ⟨.tuple (ls.map .int), .fr⟩, some ⟨f (rows.map rwD), .fr⟩, none, none, none] := by
    unfold roomsR
    rw [List.map_map]
    refine mLc_all (fun k : Nat => PyData.tuple [.int (k : Nat), .int (nth ls k)]) _ (List.range ls.length) ?_ (by simp [plainAt]) (by rw [List.length_range]; exact Pv.small (by omega)) fun k hk => ?_
    · simp
      rw [z, enumD_range]
    · have hk := List.mem_range.mp hk
      have c1 := r_rm1 ls rows hs k hk f hf (nth ls k)
      have b := best_mn (ns := rows.map fun r => nth r (k + 1) - nth r k) (fun e => by
        have q := hs.l1
        rw [List.map_eq_nil_iff.mp e] at q
        exact absurd q (by simp))
      simp [c1, b, -List.map_map, roomK]
  rw [g__law_rooms]
  show Rf.of _ (b__law_rooms [some ⟨.tuple (ls.map .int), .fr⟩, some ⟨f (rows.map rwD), .fr⟩, none, none, none]) = _
  rw [b__law_rooms, mRet_e, bind_run, c, to_ok]
  simp
end Lw

set_option maxRecDepth 100000
/-! k10: the law's own draws. -/
namespace Lw
open PySem PySem.Spec L2 Pv
/-- a pot, after so many draws -/
def Pot (m : Nat) (p : PyData) : Prop := ∃ a b c : Int, p = .list [.int a, .int b, .int c] ∧ 0 ≤ a ∧ 0 ≤ b ∧ b < 2305843009213693952 ∧ 0 ≤ c ∧ c ≤ m
theorem Pot.mono {m n : Nat} {p : PyData} (h : Pot m p) (q : m ≤ n) : Pot n p := by
  obtain ⟨a, b, c, e, h1, h2, h3, h4, h5⟩ := h
  exact ⟨a, b, c, e, h1, h2, h3, h4, by omega⟩
theorem cpow3 {i : Int} (h : i.natAbs < 18446744073709551616) : CPowW i 3 := by
  refine ⟨by omega, ?_⟩
  have b : Builtin.Int.intBits i ≤ i.natAbs.log2 + 1 := by
    unfold Builtin.Int.intBits
    split <;> omega
  have l : i.natAbs.log2 < 64 := by
    by_cases z : i.natAbs = 0
    · rw [z]; decide
    · exact (Nat.log2_lt z).mpr (by omega)
  omega
theorem e__law_take {m : Nat} {p : PyData} (hp : Pot m p) (u : Int) (h1 : 1 ≤ u) (h2 : u ≤ 1000000) (hm : m ≤ 1000000) : ∃ t p', fd__law_take.g [p, .int u] = .ok ⟨.int t, .fr⟩ [p'] ∧ 0 ≤ t ∧ t < u ∧ Pot (m + 1) p' := by
  obtain ⟨a, b, c, rfl, ha, hb, hb2, hc, hcm⟩ := hp
  have hu : 0 < u := by omega
  have d1 : CDivW a u := cdiv_small hu (by omega)
  rw [g__law_take]
  let E (p : PyData) (o2 o3 o4 : Option SV) : PEnv := [some ⟨p, .ow⟩, some ⟨.int u, .fr⟩, o2, o3, o4]
  have st : ∀ P, Rf.of [true, false] (b__law_take (env0 [true, false] [.list [.int a, .int b, .int c], .int u] 5)) = P ↔ Rf.of [true, false] (b__law_take (E (.list [.int a, .int b, .int c]) none none none)) = P := fun P => Iff.rfl
  simp only [st]
  rw [b__law_take]
  have t : (mB (mOp2 gGtA (mval (mOp2 gIxS (mslot 0) (mval (pure (frv (.int 0)))))) (mval (pure (frv (.int 0)))))) (E (.list [.int a, .int b, .int c]) none none none) = .ok (decide (0 < a)) (E (.list [.int a, .int b, .int c]) none none none) := by
    simp [E, at_head]
  by_cases q : 0 < a
  · rw [decide_eq_true q] at t
    have s1 : t__law_take_1 (E (.list [.int a, .int b, .int c]) none none none) = .ok .nx (E (.list [.int a, .int b, .int c]) (some ⟨.int (a % u), .fr⟩) none none) := by simp [t__law_take_1, E, at_head, hu]
    have s2 : t__law_take_2 (E (.list [.int a, .int b, .int c]) (some ⟨.int (a % u), .fr⟩) none none) = .ok .nx (E (.list [.int (a / u), .int b, .int c]) (some ⟨.int (a % u), .fr⟩) none none) := by
      simp [t__law_take_2, E, at_head, d1, ixN]
    have s3 : t__law_take_3 (E (.list [.int (a / u), .int b, .int c]) (some ⟨.int (a % u), .fr⟩) none none) = .ok (.rt ⟨.int (a % u), .fr⟩) (E (.list [.int (a / u), .int b, .int c]) (some ⟨.int (a % u), .fr⟩) none none) := by
      simp [t__law_take_3, E]
    have s4 : t__law_take_4 (E (.list [.int a, .int b, .int c]) none none none) = .ok (.rt ⟨.int (a % u), .fr⟩) (E (.list [.int (a / u), .int b, .int c]) (some ⟨.int (a % u), .fr⟩) none none) := by
      rw [t__law_take_4, mIfS_t t, mSeq_nx s1, mSeq_nx s2, s3]
    refine ⟨a % u, .list [.int (a / u), .int b, .int c], ?_, Int.emod_nonneg a (by omega), Int.emod_lt_of_pos a hu, a / u, b, c, rfl, Int.ediv_nonneg ha (by omega), hb, hb2, hc, by omega⟩
    rw [mSeq_rt s4]
    simp [E]
  · rw [decide_eq_false q] at t
    have s1 : t__law_take_4 (E (.list [.int a, .int b, .int c]) none none none) = .ok .nx (E (.list [.int a, .int b, .int c]) none none none) := by
      rw [t__law_take_4, mIfS_f t]; rfl
    have s2 : t__law_take_5 (E (.list [.int a, .int b, .int c]) none none none) = .ok .nx (E (.list [.int a, .int b, .int (c + 1)]) none none none) := by
      simp [t__law_take_5, E, at_two, ixN]
    have s3 : ∃ k, 2147483563 ≤ k ∧ k ≤ 2147483647 ∧ t__law_take_6 (E (.list [.int a, .int b, .int (c + 1)]) none none none) = .ok .nx (E (.list [.int a, .int b, .int (c + 1)]) none (some ⟨.int k, .fr⟩) none) := by
      have m0 : 0 ≤ (c + 1) % 5 := Int.emod_nonneg _ (by omega)
      have m1 : (c + 1) % 5 < 5 := Int.emod_lt_of_pos _ (by omega)
      have key : ∀ j : Nat, j < 5 → ∃ k : Int, 2147483563 ≤ k ∧ k ≤ 2147483647 ∧ L2.atI [PyData.int 2147483647, .int 2147483629, .int 2147483587, .int 2147483579, .int 2147483563] (j : Int) = some (.int k) := by
        intro j hj
        match j, hj with
        | 0, _ => exact ⟨2147483647, by omega, by omega, atI_nat rfl⟩
        | 1, _ => exact ⟨2147483629, by omega, by omega, atI_nat rfl⟩
        | 2, _ => exact ⟨2147483587, by omega, by omega, atI_nat rfl⟩
        | 3, _ => exact ⟨2147483579, by omega, by omega, atI_nat rfl⟩
        | 4, _ => exact ⟨2147483563, by omega, by omega, atI_nat rfl⟩
      obtain ⟨k, k1, k2, k3⟩ := key ((c + 1) % 5).toNat (by omega)
      rw [Int.toNat_of_nonneg m0] at k3
      refine ⟨k, k1, k2, ?_⟩
      simp [t__law_take_6, E, at_two, k3]
    obtain ⟨k, k1, k2, s3⟩ := s3
    have hk : 0 < k := by omega
    have cc : 0 ≤ (c + 1) * (c + 1) ∧ (c + 1) * (c + 1) ≤ 1000001 * 1000001 := by
      refine ⟨Int.mul_nonneg (by omega) (by omega), Int.mul_le_mul (by omega) (by omega) (by omega) (by omega)⟩
    have as : 89563 * (c + 1) * (c + 1) = 89563 * ((c + 1) * (c + 1)) := Int.mul_assoc _ _ _
    have c1 : CMulA 89563 (c + 1) := cmul_l (by omega) (by omega)
    have c2 : CMulA (89563 * (c + 1)) (c + 1) := cmul_r (by omega) (by omega)
    have c3 : CPowW (b + 89563 * (c + 1) * (c + 1) + 638) 3 := cpow3 (by rw [as]; omega)
    obtain ⟨z, hz⟩ : ∃ z, z = (b + 89563 * (c + 1) * (c + 1) + 638) ^ 3 % k := ⟨_, rfl⟩
    have z0 : 0 ≤ z := by rw [hz]; exact Int.emod_nonneg _ (by omega)
    have z1 : z < k := by rw [hz]; exact Int.emod_lt_of_pos _ hk
    have s4 : t__law_take_7 (E (.list [.int a, .int b, .int (c + 1)]) none (some ⟨.int k, .fr⟩) none) = .ok .nx (E (.list [.int a, .int b, .int (c + 1)]) none (some ⟨.int k, .fr⟩) (some ⟨.int z, .fr⟩)) := by
      rw [hz]
      simp [t__law_take_7, E, at_one, at_two, c1, c2, c3, hk]
    have c4 : CMulA 122 (c + 1) := cmul_l (by omega) (by omega)
    have c5 : CMulA z (z % 10259 + 122 * (c + 1)) := cmul_l (by omega) (by omega)
    obtain ⟨y, hy⟩ : ∃ y, y = (z * (z % 10259 + 122 * (c + 1))) % 2305843009213693907 := ⟨_, rfl⟩
    have s5 : t__law_take_8 (E (.list [.int a, .int b, .int (c + 1)]) none (some ⟨.int k, .fr⟩) (some ⟨.int z, .fr⟩)) = .ok .nx (E (.list [.int a, .int b, .int (c + 1)]) none (some ⟨.int k, .fr⟩) (some ⟨.int y, .fr⟩)) := by
      rw [hy]
      simp [t__law_take_8, E, at_two, c4, c5]
    have d2 : CDivW y 152 := cdiv_small (by omega) (by omega)
    have s6 : t__law_take_9 (E (.list [.int a, .int b, .int (c + 1)]) none (some ⟨.int k, .fr⟩) (some ⟨.int y, .fr⟩)) = .ok (.rt ⟨.int (y / 152 % u), .fr⟩) (E (.list [.int a, .int b, .int (c + 1)]) none (some ⟨.int k, .fr⟩) (some ⟨.int y, .fr⟩)) := by
      simp [t__law_take_9, E, d2, hu]
    refine ⟨y / 152 % u, .list [.int a, .int b, .int (c + 1)], ?_, Int.emod_nonneg _ (by omega), Int.emod_lt_of_pos _ hu, a, b, c + 1, rfl, ha, hb, hb2, by omega, by push_cast; omega⟩
    rw [mSeq_nx s1, mSeq_nx s2, mSeq_nx s3, mSeq_nx s4, mSeq_nx s5, s6]
    simp [E]
theorem e__law_of {m : Nat} {p : PyData} (hp : Pot m p) (hm : m ≤ 1000000) : ∃ s p', fd__law_of.g [p, .list [.int 0, .int 3, .int 12, .int 40]] = .ok ⟨.int s, .fr⟩ [p'] ∧ 0 ≤ s ∧ s ≤ 40 ∧ Pot (m + 1) p' := by
  obtain ⟨t, p', e, h0, h1, hp'⟩ := e__law_take hp 4 (by omega) (by omega) hm
  have key : ∃ k : Int, 0 ≤ k ∧ k ≤ 40 ∧ L2.atI [PyData.int 0, .int 3, .int 12, .int 40] t = some (.int k) := by
    have ht : t = (t.toNat : Int) := by omega
    rw [ht]
    have hj : t.toNat < 4 := by omega
    generalize t.toNat = j at hj
    match j, hj with
    | 0, _ => exact ⟨0, by omega, by omega, atI_nat rfl⟩
    | 1, _ => exact ⟨3, by omega, by omega, atI_nat rfl⟩
    | 2, _ => exact ⟨12, by omega, by omega, atI_nat rfl⟩
    | 3, _ => exact ⟨40, by omega, by omega, atI_nat rfl⟩
  obtain ⟨k, k0, k1, k2⟩ := key
  refine ⟨k, p', ?_, k0, k1, hp'⟩
  simp [g__law_of, b__law_of, e, k2]
theorem e__law_places (ns : List Int) : ∃ m : Nat, m ≤ 3 ∧ fd__law_places.g [.list (ns.map .int), .int 3] = .ok ⟨.list (rgD 0 m), .ow⟩ [] := by
  have key : ∃ m : Nat, m ≤ 3 ∧ (if 1 < (if (ns.length : Int) < 3 then (ns.length : Int) else 3) then (if (ns.length : Int) < 3 then (ns.length : Int) else 3) else 1) = (m : Int) := by
    by_cases q : ns.length < 3
    · by_cases r : 1 < ns.length
      · exact ⟨ns.length, by omega, by split <;> (try split) <;> omega⟩
      · exact ⟨1, by omega, by split <;> (try split) <;> omega⟩
    · exact ⟨3, by omega, by split <;> (try split) <;> omega⟩
  obtain ⟨m, hm, e⟩ := key
  refine ⟨m, hm, ?_⟩
  have g : gRgL 0 (m : Int) = some ⟨.list (rgD 0 m), .ow⟩ := by
    unfold gRgL
    have : rgOk 0 (m : Int) = true := by
      unfold rgOk
      simp only [Bool.and_eq_true, decide_eq_true_eq]
      refine ⟨⟨⟨⟨by omega, by omega⟩, by omega⟩, by omega⟩, by omega⟩
    rw [if_pos this]
    simp
  rw [g__law_places]
  simp [b__law_places, e, g]
theorem e__law_pot (ns : List Int) (k : Nat) (hk : k ≤ 3) : ∃ p, fd__law_pot.g [.list (ns.map .int), .int (k : Nat)] = .ok ⟨p, .ow⟩ [] ∧ Pot 0 p := by
  rw [g__law_pot]
  let E (o2 o3 o4 : Option SV) : PEnv := [some ⟨.list (ns.map .int), .fr⟩, some ⟨.int (k : Nat), .fr⟩, o2, o3, o4]
  have s1 : ∃ c : Int, t__law_pot_1 (E none none none) = .ok .nx (E (some ⟨.int c, .fr⟩) none none) := by
    by_cases q : k < ns.length
    · have e := at_nth q
      exact ⟨nth ns k, by simp [t__law_pot_1, E, q, e]⟩
    · have hc : cutD (ns.map PyData.int) none (some 1) = (cutD ns none (some 1)).map .int := cutD_map _ _ _ _
      have c1 : CMulA 4679 k := cmul_l (by omega) (by omega)
      exact ⟨(cutD ns none (some 1)).sum % 1000003 + 4679 * k + 431, by simp [t__law_pot_1, E, q, hc, c1]⟩
  obtain ⟨c, s1⟩ := s1
  obtain ⟨d, hd⟩ : ∃ d : Int, d = if c < 0 then -c else c := ⟨_, rfl⟩
  have s2 : ∃ w : Int, 0 ≤ w ∧ t__law_pot_2 (E (some ⟨.int c, .fr⟩) none none) = .ok .nx (E (some ⟨.int c, .fr⟩) (some ⟨.int w, .fr⟩) none) := by
    have p1 : gPow (.int 10) (.int 60) = some ⟨.int (10 ^ 60), .fr⟩ := by
      have c : CPowW 10 60 := by unfold CPowW; decide +kernel
      rw [gPow_int, if_pos c]; rfl
    have p2 : gPow (.int (10 ^ 60)) (.int 5) = some ⟨.int (10 ^ 300), .fr⟩ := by
      have c : CPowW (10 ^ 60) 5 := by unfold CPowW; decide +kernel
      rw [gPow_int, if_pos c]
      have : ((10 : Int) ^ 60) ^ (5 : Int).toNat = 10 ^ 300 := by decide +kernel
      rw [this]
    have p3 : gPow (.int 10) (.int 18) = some ⟨.int (10 ^ 18), .fr⟩ := by
      have c : CPowW 10 18 := by unfold CPowW; decide +kernel
      rw [gPow_int, if_pos c]; rfl
    have P0 : (0 : Int) < 10 ^ 300 := by decide +kernel
    have m0 : ∀ x : Int, 0 ≤ x % 10 ^ 300 := fun x => Int.emod_nonneg x (by omega)
    generalize (10 : Int) ^ 300 = P at *
    generalize (10 : Int) ^ 60 = Q at *
    generalize (10 : Int) ^ 18 = S at *
    refine ⟨d % P * (if decide (S ≤ d) = true then 1 else 0), ?_, ?_⟩
    · have := m0 d
      split <;> simp [this]
    · have cm : CMulA (d % P) (if decide (S ≤ d) = true then 1 else 0) := cmul_r (by split <;> omega) (by split <;> omega)
      have mm : gMod (.int d) (.int P) = some ⟨.int (d % P), .fr⟩ := by rw [gMod_int, if_pos P0]
      have ab : gAbs [.int c] = some ⟨.int d, .fr⟩ := by rw [gAbs_int, hd]
      have mu : gMul (.int (d % P)) (.int (if decide (S ≤ d) = true then 1 else 0)) = some ⟨.int (d % P * (if decide (S ≤ d) = true then 1 else 0)), .fr⟩ := by rw [gMul_int, if_pos cm]
      simp [t__law_pot_2, E, p1, p2, p3, mm, ab, mu, -gPow_int, -gMod_int, -gAbs_int, -gMul_int, -decide_eq_true_eq]
  obtain ⟨w, w0, s2⟩ := s2
  obtain ⟨v, hv⟩ : ∃ v : Int, v = c % 2305843009213693951 := ⟨_, rfl⟩
  have s3 : t__law_pot_3 (E (some ⟨.int c, .fr⟩) (some ⟨.int w, .fr⟩) none) = .ok .nx (E (some ⟨.int c, .fr⟩) (some ⟨.int w, .fr⟩) (some ⟨.int v, .fr⟩)) := by
    rw [hv]
    simp [t__law_pot_3, E]
  have c1 : CMulA v 92581 := cmul_r (by omega) (by omega)
  have c2 : CMulA 9091 k := cmul_l (by omega) (by omega)
  have c3 : CMulA (9091 * k) k := cmul_r (by omega) (by omega)
  have s4 : t__law_pot_4 (E (some ⟨.int c, .fr⟩) (some ⟨.int w, .fr⟩) (some ⟨.int v, .fr⟩)) = .ok (.rt ⟨.list [.int w, .int ((v * 92581 + 9091 * k * k + 838) % 2305843009213693921), .int 0], .ow⟩) (E (some ⟨.int c, .fr⟩) (some ⟨.int w, .fr⟩) (some ⟨.int v, .fr⟩)) := by
    simp [t__law_pot_4, E, c1, c2, c3]
  refine ⟨.list [.int w, .int ((v * 92581 + 9091 * k * k + 838) % 2305843009213693921), .int 0], ?_, w, _, 0, rfl, w0, Int.emod_nonneg _ (by omega), ?_, by omega, by omega⟩
  · show Rf.of _ (b__law_pot (E none none none)) = _
    rw [b__law_pot, mSeq_nx s1, mSeq_nx s2, mSeq_nx s3, s4]
    simp [E]
  · have := Int.emod_lt_of_pos (v * 92581 + 9091 * k * k + 838) (show (0 : Int) < 2305843009213693921 by omega)
    omega
/-- a row as the law draws it -/
structure RowOk (ls r : List Int) (n : Nat) : Prop where
  len : r.length = n + 1
  fst : nth r 0 ≤ 999
  nn : ∀ k, k ≤ n → 0 ≤ nth r k
  lo : ∀ k, k < n → nth r k + nth ls k - 40 ≤ nth r (k + 1)
  hi : ∀ k, k < n → nth r (k + 1) ≤ nth r k + nth ls k + 40
theorem nth_app_lt {r : List Int} {k : Nat} (h : k < r.length) (x : Int) : nth (r ++ [x]) k = nth r k := by
  apply nth_of
  rw [List.getElem?_append_left h, nth_some h]
theorem nth_app_eq (r : List Int) (x : Int) : nth (r ++ [x]) r.length = x := by
  apply nth_of
  rw [List.getElem?_append_right (Nat.le_refl _), Nat.sub_self]; rfl
theorem RowOk.push {ls r : List Int} {n : Nat} (h : RowOk ls r n) {x : Int} (h0 : 0 ≤ x) (h1 : nth r n + nth ls n - 40 ≤ x) (h2 : x ≤ nth r n + nth ls n + 40) : RowOk ls (r ++ [x]) (n + 1) := by
  have hl := h.len
  have e : ∀ k, k ≤ n → nth (r ++ [x]) k = nth r k := fun k hk => nth_app_lt (by omega) x
  have e1 : nth (r ++ [x]) (n + 1) = x := by rw [← hl]; exact nth_app_eq r x
  refine ⟨by rw [List.length_append, hl]; rfl, by rw [e 0 (Nat.zero_le _)]; exact h.fst, fun k hk => ?_, fun k hk => ?_, fun k hk => ?_⟩
  · by_cases q : k ≤ n
    · rw [e k q]; exact h.nn k q
    · rw [show k = n + 1 by omega, e1]; exact h0
  · by_cases q : k < n
    · rw [e k (by omega), e (k + 1) (by omega)]; exact h.lo k q
    · rw [show k = n by omega, e n (Nat.le_refl _), e1]; exact h1
  · by_cases q : k < n
    · rw [e k (by omega), e (k + 1) (by omega)]; exact h.hi k q
    · rw [show k = n by omega, e n (Nat.le_refl _), e1]; exact h2
def envR (p : PyData) (ls : List Int) (s : Int) (t : Int) (r : List Int) (o : Option SV) : PEnv := [some ⟨p, .ow⟩, some ⟨.tuple (ls.map .int), .fr⟩, some ⟨.int s, .fr⟩, some ⟨.int t, .fr⟩, some ⟨.list (r.map .int), .ow⟩, o]
theorem e__law_row {m : Nat} {p : PyData} (hp : Pot m p) (ls : List Int) (s : Int) (h0 : 0 ≤ s) (h1 : s ≤ 40) (hls : ∀ x ∈ ls, 0 ≤ x ∧ x ≤ 59) (h11 : ls.length ≤ 11) (hm : m ≤ 100000) :
    ∃ r p', fd__law_row.g [p, .tuple (ls.map .int), .int s] = .ok ⟨rwD r, .fr⟩ [p'] ∧ RowOk ls r ls.length ∧ Pot (m + 12) p' := by
  obtain ⟨t, p1, e, t0, t1, hp1⟩ := e__law_take hp 1000 (by omega) (by omega) (by omega)
  rw [g__law_row]
  let ρ0 : PEnv := [some ⟨p, .ow⟩, some ⟨.tuple (ls.map .int), .fr⟩, some ⟨.int s, .fr⟩, none, none, none]
  have s1 : t__law_row_1 ρ0 = .ok .nx (envR p1 ls s t [] none) := by simp [t__law_row_1, ρ0, e, envR]
  have s2 : t__law_row_2 (envR p1 ls s t [] none) = .ok .nx (envR p1 ls s t [t] none) := by
    have a : (mfz (mget 3)) (envR p1 ls s t [] none) = .ok (.int t) (envR p1 ls s t [] none) := by simp [envR]
    rw [t__law_row_2, mAppend_run (i := 4) rfl a rfl (by exact smallT (by simp))]
    rfl
  have L := forL_inv (ft := putS 5) (fb := u__law_row_1) (fun i ρ => ∃ q t r o, Pot (m + 1 + i) q ∧ ρ = envR q ls s t r o ∧ RowOk ls r i ∧ t = nth r i) (ls.map .int) 0 (envR p1 ls s t [t] none) ⟨p1, t, [t], none, hp1, rfl, ⟨rfl, by show t ≤ 999; omega, fun k hk => by rw [show k = 0 by omega]; exact t0, fun k hk => by omega, fun k hk => by omega⟩, rfl⟩ fun i d ρ hd hI => by
    obtain ⟨q, t, r, o, hq, rfl, hr, ht⟩ := hI
    rw [Nat.zero_add] at hq hr ht ⊢
    have hi : i < ls.length := by simpa using (List.getElem?_eq_some_iff.mp hd).1
    rw [mapint_get hi] at hd
    cases hd
    have hli := hls _ (List.mem_of_getElem? (nth_some hi))
    have htn := hr.nn i (Nat.le_refl _)
    obtain ⟨v, q', e, v0, v1, hq'⟩ := e__law_take hq (2 * s + 1) (by omega) (by omega) (by omega)
    obtain ⟨x, hx⟩ : ∃ x, x = (if t + nth ls i + v - s > 0 then t + nth ls i + v - s else 0) := ⟨_, rfl⟩
    have x0 : 0 ≤ x ∧ t + nth ls i - 40 ≤ x ∧ x ≤ t + nth ls i + 40 := by rw [hx]; split <;> omega
    have p0 : putS 5 (.int (nth ls i)) (envR q ls s t r o) = .ok () (envR q ls s t r (some ⟨.int (nth ls i), .fr⟩)) := by simp [envR]
    have s3 : t__law_row_3 (envR q ls s t r (some ⟨.int (nth ls i), .fr⟩)) = .ok .nx (envR q' ls s x r (some ⟨.int (nth ls i), .fr⟩)) := by
      rw [hx]
      simp [t__law_row_3, envR, e]
    have s4 : t__law_row_4 (envR q' ls s x r (some ⟨.int (nth ls i), .fr⟩)) = .ok .nx (envR q' ls s x (r ++ [x]) (some ⟨.int (nth ls i), .fr⟩)) := by
      have a : (mfz (mget 3)) (envR q' ls s x r (some ⟨.int (nth ls i), .fr⟩)) = .ok (.int x) (envR q' ls s x r (some ⟨.int (nth ls i), .fr⟩)) := by simp [envR]
      have hl := hr.len
      rw [t__law_row_4, mAppend_run (i := 4) rfl a rfl (by rw [List.length_map]; exact smallT (by omega))]
      simp [envR]
    refine ⟨.nx, envR q' ls s x (r ++ [x]) (some ⟨.int (nth ls i), .fr⟩), .inl rfl, ?_, q', x, r ++ [x], _, hq', rfl, hr.push x0.1 (by rw [← ht]; exact x0.2.1) (by rw [← ht]; exact x0.2.2), ?_⟩
    · rw [bind_run, p0, to_ok, u__law_row_1, mSeq_nx s3, s4]
    · rw [← hr.len]; exact (nth_app_eq r x).symm
  obtain ⟨ρ', e2, q, t2, r, o, hq, rfl, hr, _⟩ := L
  rw [List.length_map, Nat.zero_add] at hq hr
  have s5 : l__law_row_1 (envR p1 ls s t [t] none) = .ok .nx (envR q ls s t2 r o) := by
    have a : (mIt (mfz (mget 1))) (envR p1 ls s t [t] none) = .ok (ls.map .int) (envR p1 ls s t [t] none) := by simp [envR]
    unfold l__law_row_1
    rw [mFor_e, bind_run, a, to_ok, e2]
  have s6 : t__law_row_5 (envR q ls s t2 r o) = .ok (.rt ⟨rwD r, .fr⟩) (envR q ls s t2 r o) := by simp [t__law_row_5, envR, rwD]
  refine ⟨r, q, ?_, hr, hq.mono (by omega)⟩
  show Rf.of _ (b__law_row ρ0) = _
  rw [b__law_row, mSeq_nx s1, mSeq_nx s2, mSeq_nx s5, s6]
  simp [envR]
theorem RowOk.le {ls r : List Int} {n : Nat} (h : RowOk ls r n) (hls : ∀ x ∈ ls, 0 ≤ x ∧ x ≤ 59) (hn : n ≤ ls.length) : ∀ k, k ≤ n → nth r k ≤ 999 + 99 * k := by
  intro k
  induction k with
  | zero => intro _; have := h.fst; omega
  | succ k ih =>
    intro hk
    have a := ih (by omega)
    have b := h.hi k (by omega)
    have c := (hls _ (List.mem_of_getElem? (nth_some (ns := ls) (k := k) (by omega)))).2
    push_cast
    omega
end Lw

set_option maxRecDepth 100000
/-! k10: the law's own: is a time right? -/
namespace Lw
open PySem PySem.Spec L2 Pv
/-! ### the plain law -/
theorem lack_le {rs : List Int} {t : Int} (h0 : 0 ≤ t) : lack rs ≤ t ↔ ∀ k, k ≤ rs.length → nth (kad 0 rs) k ≤ t := by
  constructor
  · intro h k hk
    have := (foldl_max_ge (kad 0 rs) 0).2 _ (List.mem_of_getElem? (kad_getD hk))
    unfold lack at h
    omega
  · intro h
    rcases foldl_max_mem (kad 0 rs) 0 with q | q
    · unfold lack; omega
    · obtain ⟨j, hj, e⟩ := List.getElem_of_mem q
      have hl : j ≤ rs.length := by rw [kad_length] at hj; omega
      have e' : (kad 0 rs)[j]? = some (lack rs) := by rw [List.getElem?_eq_getElem hj, e]; rfl
      have := h j hl
      rw [nth_of e'] at this
      exact this
theorem hf_le (x o : Int) : hf x ≤ o ↔ x ≤ 2 * o := by unfold hf; omega
theorem hf_nn (rs : List Int) : 0 ≤ hf (lack rs) := by have := lack_nn rs; unfold hf; omega
theorem rooms1_nth {ls ss : List Int} (hl : ss.length = ls.length + 1) {k : Nat} (h : k < ls.length) : nth (rooms1 ls ss) k = nth ss (k + 1) - nth ss k - nth ls k := nth_of (rooms1_get ls ss k _ _ _ (nth_some h) (nth_some (by omega)) (nth_some (k := k + 1) (by omega)))
theorem ext_nth {xs ys : List Int} (hl : xs.length = ys.length) (h : ∀ k, k < xs.length → nth xs k = nth ys k) : xs = ys := by
  apply List.ext_getElem?
  intro k
  by_cases q : k < xs.length
  · rw [nth_some q, nth_some (by omega), h k q]
  · rw [List.getElem?_eq_none (by omega), List.getElem?_eq_none (by omega)]
theorem roomsR_one {ls ss : List Int} (hl : ss.length = ls.length + 1) : roomsR ls [ss] = rooms1 ls ss := by
  refine ext_nth (by rw [roomsR_length, rooms1_length _ _ hl]) fun k hk => ?_
  rw [roomsR_length] at hk
  rw [roomsR_nth hk, rooms1_nth hl hk]
  rfl
theorem kad_nn (rs : List Int) {k : Nat} (h : k ≤ rs.length) : 0 ≤ nth (kad 0 rs) k := kad_ge rs 0 k _ (Int.le_refl _) (kad_getD h)
/-- the earliest times -/
def tL (ls ss : List Int) (off : Int) : List Int := (List.range (ls.length + 1)).map (tK ls ss off)
theorem tL_len (ls ss : List Int) (off : Int) : (tL ls ss off).length = ls.length + 1 := by simp [tL]
theorem nth_range {f : Nat → Int} {n k : Nat} (h : k < n) : nth ((List.range n).map f) k = f k := nth_of (by rw [List.getElem?_map, List.getElem?_range h]; rfl)
theorem tL_nth (ls ss : List Int) (off : Int) {k : Nat} (h : k ≤ ls.length) : nth (tL ls ss off) k = tK ls ss off k := nth_range (by omega)
theorem lateK_nil {ls ss : List Int} (hl : ss.length = ls.length + 1) {off : Int} (h0 : 0 ≤ off) : lateK ls ss off = [] ↔ lack (rooms1 ls ss) ≤ 2 * off := by
  rw [lack_le (by omega), rooms1_length _ _ hl]
  unfold lateK
  rw [List.filter_eq_nil_iff]
  constructor
  · intro h k hk
    have := h k (List.mem_range.mpr (by omega))
    rw [decide_eq_true_eq] at this
    unfold tK at this
    omega
  · intro h k hk
    have hk := List.mem_range.mp hk
    have := h k (by omega)
    rw [decide_eq_true_eq]
    unfold tK
    omega
theorem e_tf (ls ss : List Int) (off : Int) (h : OkL ls) (hs : OkS ls.length ss) (h0 : 0 ≤ off) (h1 : off ≤ 1000) :
    (lack (rooms1 ls ss) ≤ 2 * off ∧ fd_too_fast.g [.tuple (ls.map .int), .tuple (ss.map .int), .int off] = .ok ⟨mayD (tL ls ss off), .fr⟩ []) ∨
    (¬lack (rooms1 ls ss) ≤ 2 * off ∧ ∃ i x : Nat, i < x ∧ x ≤ ls.length ∧ nth ss x - nth ss i + 2 * off < seg ls i x ∧ fd_too_fast.g [.tuple (ls.map .int), .tuple (ss.map .int), .int off] = .ok ⟨surD i x, .fr⟩ []) := by
  rcases e_too_fast ls ss off h hs h0 h1 with ⟨a, b⟩ | ⟨a, i, x, h1, h2, h3, b⟩
  · refine .inl ⟨(lateK_nil hs.len h0).mp a, ?_⟩
    rw [b, map_nat_int]
    rfl
  · exact .inr ⟨fun z => a ((lateK_nil hs.len h0).mpr z), i, x, h1, h2, h3, b⟩
theorem tL_ok {ls ss : List Int} (hl : ss.length = ls.length + 1) {off : Int} (h0 : 0 ≤ off) (h : lack (rooms1 ls ss) ≤ 2 * off) : (∀ k, k ≤ ls.length → okV ss off (tL ls ss off) k) ∧ ∀ k, k < ls.length → nth ls k ≤ nth (tL ls ss off) (k + 1) - nth (tL ls ss off) k := by
  rw [lack_le (by omega), rooms1_length _ _ hl] at h
  have hr := rooms1_length _ _ hl
  refine ⟨fun k hk => ?_, fun k hk => ?_⟩
  · have a := h k hk
    have b := kad_nn (rooms1 ls ss) (k := k) (by omega)
    unfold okV
    rw [tL_nth _ _ _ hk]
    unfold tK
    omega
  · rw [tL_nth _ _ _ (by omega), tL_nth _ _ _ (by omega), tK_step off hl hk]
    split <;> omega
/-! ### the law's checks of one car -/
section
variable (ls ss : List Int) (hL : OkL ls) (hS : OkS ls.length ss)
/-- the law's names while it checks -/
def envT (p : PyData) (o3 o4 o5 o6 o7 o8 o9 o10 o11 o12 : Option SV) : PEnv := [some ⟨p, .ow⟩, some ⟨.tuple (ls.map .int), .fr⟩, some ⟨.tuple (ss.map .int), .fr⟩, o3, o4, o5, o6, o7, o8, o9, o10, o11, o12, none, none]
def sI (i : Int) : Option SV := some ⟨.int i, .fr⟩
theorem r_it1 (hl : ss.length = ls.length + 1) (h11 : ls.length ≤ 11) (p : PyData) (off : Int) (o3 o4 o6 o8 o9 o10 o11 o12 : Option SV) :
    ∃ o8' o9', l__law_is_time_right_1 (envT ls ss p o3 o4 (sI off) o6 (some ⟨.list [.int (nth ss 0 - off)], .ow⟩) o8 o9 o10 o11 o12) = .ok .nx (envT ls ss p o3 o4 (sI off) o6 (some ⟨.list ((tL ls ss off).map .int), .ow⟩) o8' o9' o10 o11 o12) := by
  have e : (mEn (mIt (mfz (mget 1)))) (envT ls ss p o3 o4 (sI off) o6 (some ⟨.list [.int (nth ss 0 - off)], .ow⟩) o8 o9 o10 o11 o12) = .ok (enumD 0 (ls.map .int)) (envT ls ss p o3 o4 (sI off) o6 (some ⟨.list [.int (nth ss 0 - off)], .ow⟩) o8 o9 o10 o11 o12) := by simp [envT]
  have hn : (enumD 0 (ls.map PyData.int)).length = ls.length := by rw [enumD_length, List.length_map]
  obtain ⟨ρ', e2, o8', o9', e3⟩ := forL_inv (ft := tgTup 2 (tgCons (putS 8) (tgCons (putS 9) tgNil))) (fb := u__law_is_time_right_1) (fun j ρ => ∃ o8 o9, ρ = envT ls ss p o3 o4 (sI off) o6 (some ⟨.list ((List.range (j + 1)).map fun k => PyData.int (tK ls ss off k)), .ow⟩) o8 o9 o10 o11 o12) (enumD 0 (ls.map PyData.int)) 0 (envT ls ss p o3 o4 (sI off) o6 (some ⟨.list [.int (nth ss 0 - off)], .ow⟩) o8 o9 o10 o11 o12) ⟨o8, o9, by
      have : [PyData.int (nth ss 0 - off)] = (List.range (0 + 1)).map fun k => PyData.int (tK ls ss off k) := by simp [tK_zero]
      rw [this]⟩ fun j d ρ hd hI => by
    obtain ⟨o8, o9, rfl⟩ := hI
    rw [Nat.zero_add]
    have hj : j < ls.length := by have := (List.getElem?_eq_some_iff.mp hd).1; omega
    obtain ⟨x, hx, rfl⟩ := enumD_ext hd
    rw [mapint_get hj] at hx
    cases hx
    have p0 : tgTup 2 (tgCons (putS 8) (tgCons (putS 9) tgNil)) (.tuple [.int (j : Nat), .int (nth ls j)]) (envT ls ss p o3 o4 (sI off) o6 (some ⟨.list ((List.range (j + 1)).map fun k => PyData.int (tK ls ss off k)), .ow⟩) o8 o9 o10 o11 o12) = .ok () (envT ls ss p o3 o4 (sI off) o6 (some ⟨.list ((List.range (j + 1)).map fun k => PyData.int (tK ls ss off k)), .ow⟩) (sI (j : Nat)) (sI (nth ls j)) o10 o11 o12) := by simp [envT, sI]
    have e1 : L2.atI ((List.range (j + 1)).map fun k => PyData.int (tK ls ss off k)) (-1) = some (.int (tK ls ss off j)) := at_last_map (f := fun k => PyData.int (tK ls ss off k)) (by rw [List.getLast?_range]; simp)
    have e2 := at_nth (ns := ss) (k := j + 1) (by omega)
    push_cast at e2
    have st := tK_step off hl hj
    have a : (mfz (mCall (gI2 fun i j => if j > i then j else i) (mcons (mval (mOp2 gSub (mval (mOp2 gIxS (mslot 2) (mval (mOp2 gAdd (mslot 8) (mval (pure (frv (.int 1)))))))) (mslot 5))) (mcons (mval (mOp2 gAdd (mval (mOp2 gIxS (mslot 7) (mval (mOp1 gNeg (mval (pure (frv (.int 1)))))))) (mslot 9))) mnil)))) (envT ls ss p o3 o4 (sI off) o6 (some ⟨.list ((List.range (j + 1)).map fun k => PyData.int (tK ls ss off k)), .ow⟩) (sI (j : Nat)) (sI (nth ls j)) o10 o11 o12) = .ok (.int (tK ls ss off (j + 1))) (envT ls ss p o3 o4 (sI off) o6 (some ⟨.list ((List.range (j + 1)).map fun k => PyData.int (tK ls ss off k)), .ow⟩) (sI (j : Nat)) (sI (nth ls j)) o10 o11 o12) := by
      rw [st]
      simp [envT, sI, e1, e2]
    refine ⟨.nx, envT ls ss p o3 o4 (sI off) o6 (some ⟨.list ((List.range (j + 1 + 1)).map fun k => PyData.int (tK ls ss off k)), .ow⟩) (sI (j : Nat)) (sI (nth ls j)) o10 o11 o12, .inl rfl, ?_, _, _, rfl⟩
    rw [bind_run, p0, to_ok, u__law_is_time_right_1, mAppend_run (i := 7) rfl a rfl (by rw [List.length_map, List.length_range]; exact smallT (by omega)), rng_push (f := fun k => PyData.int (tK ls ss off k))]
    rfl
  refine ⟨o8', o9', ?_⟩
  unfold l__law_is_time_right_1
  rw [mFor_e, bind_run, e, to_ok, e2, e3, hn, Nat.zero_add, map_nat_int]
  rfl
def absI (x : Int) : Int := if x < 0 then -x else x
theorem r_it2 (h11 : ls.length ≤ 11) (p : PyData) (off : Int) (o3 o4 o6 o8 o9 o10 o11 o12 : Option SV) :
    c__law_is_time_right_1 (envT ls ss p o3 o4 (sI off) o6 (some ⟨.list ((tL ls ss off).map .int), .ow⟩) o8 o9 o10 o11 o12) = .ok ⟨.list (((tL ls ss off).map (· + 1)).map .int), .ow⟩ (envT ls ss p o3 o4 (sI off) o6 (some ⟨.list ((tL ls ss off).map .int), .fr⟩) o8 o9 o10 o11 o12) := by
  rw [List.map_map]
  exact mLc_all PyData.int _ (tL ls ss off) (by simp [envT]) (by simp [plainAt, envT]) (by rw [tL_len]; exact Pv.small (by omega)) fun x _ => by simp [envT]
theorem r_it3 (h11 : ls.length ≤ 11) (hl : ss.length = ls.length + 1) (vs : List Int) (hv : vs.length = ls.length + 1) (p : PyData) (off : Int) (o3 o4 o6 o7 o8 o9 o11 o12 : Option SV) :
    c__law_is_time_right_2 (envT ls ss p o3 o4 (sI off) o6 o7 o8 o9 (some ⟨.tuple (vs.map .int), .fr⟩) o11 o12) = .ok ⟨.list (((List.range (ls.length + 1)).map fun k => decide (absI (nth vs k - nth ss k) ≤ off)).map .bool), .ow⟩ (envT ls ss p o3 o4 (sI off) o6 o7 o8 o9 (some ⟨.tuple (vs.map .int), .fr⟩) o11 o12) := by
  have z := zipD_range (ds := vs.map .int) (es := ss.map .int) (m := ls.length + 1) (f := fun k => .int (nth vs k)) (g := fun k => .int (nth ss k)) (by rw [List.length_map, List.length_map]; omega) (fun i hi => mapint_get (by omega)) (fun i hi => mapint_get (by omega))
  have e : (mIt (mfz (mListZip (mIt (mfz (mget 10))) (mIt (mfz (mget 2)))))) (envT ls ss p o3 o4 (sI off) o6 o7 o8 o9 (some ⟨.tuple (vs.map .int), .fr⟩) o11 o12) = .ok ((List.range (ls.length + 1)).map fun k => PyData.tuple [.int (nth vs k), .int (nth ss k)]) (envT ls ss p o3 o4 (sI off) o6 o7 o8 o9 (some ⟨.tuple (vs.map .int), .fr⟩) o11 o12) := by
    rw [← z]
    have sm : min vs.length ss.length ≤ sizeLine := Pv.small (by omega)
    simp [envT, sm]
  rw [← range_mapb]
  exact mLc_all (fun k : Nat => PyData.tuple [.int (nth vs k), .int (nth ss k)]) _ (List.range (ls.length + 1)) e (by simp [plainAt, envT]) (by rw [List.length_range]; exact Pv.small (by omega)) fun k hk => by
    simp [envT, sI, absI]
    rfl
/-- whether two gates show a car too fast -/
def tooB (off : Int) (i x : Nat) : Bool := decide (i < x ∧ nth ss x - nth ss i + 2 * off < seg ls i x)
include hL hS in
theorem r_it4 (off : Int) (h0 : 0 ≤ off) (h1 : off ≤ 1000) (i x : Nat) (hi : i ≤ ls.length) (hx : x ≤ ls.length) (p : PyData) (o3 o4 o6 o7 o8 o10 o11 o12 : Option SV) :
    u__law_is_time_right_2 (envT ls ss p o3 o4 (sI off) o6 o7 o8 (sI (i : Nat)) o10 (sI (x : Nat)) o12) = .ok .nx (envT ls ss p o3 o4 (sI off) o6 o7 o8 (sI (i : Nat)) o10 (sI (x : Nat)) (some ⟨.bool (tooB ls ss off i x), .fr⟩)) := by
  have hl := hS.len
  have e1 := at_nth (ns := ss) (k := i) (by omega)
  have e2 := at_nth (ns := ss) (k := x) (by omega)
  have e3 : cutD (ls.map PyData.int) (some (i : Int)) (some (x : Int)) = (cutD ls (some (i : Int)) (some (x : Int))).map .int := cutD_map _ _ _ _
  have e4 := gSum_tuple (cutD ls (some (i : Int)) (some (x : Int)))
  rw [cut_seg hi hx] at e4
  have s1 : t__law_is_time_right_11 (envT ls ss p o3 o4 (sI off) o6 o7 o8 (sI (i : Nat)) o10 (sI (x : Nat)) o12) = .ok .nx (envT ls ss p o3 o4 (sI off) o6 o7 o8 (sI (i : Nat)) o10 (sI (x : Nat)) (some ⟨.bool (tooB ls ss off i x), .fr⟩)) := by
    by_cases q : i < x <;> simp [t__law_is_time_right_11, envT, sI, e1, e2, e3, e4, q, tooB, -gSum_tuple]
  have c := e_stf_sur ls ss off i x hL hS h0 h1 hi hx
  have s2 : t__law_is_time_right_12 (envT ls ss p o3 o4 (sI off) o6 o7 o8 (sI (i : Nat)) o10 (sI (x : Nat)) (some ⟨.bool (tooB ls ss off i x), .fr⟩)) = .ok .nx (envT ls ss p o3 o4 (sI off) o6 o7 o8 (sI (i : Nat)) o10 (sI (x : Nat)) (some ⟨.bool (tooB ls ss off i x), .fr⟩)) := by
    unfold surD at c
    change _ = Rf.ok ⟨.bool (tooB ls ss off i x), .fr⟩ [] at c
    simp [t__law_is_time_right_12, envT, sI, c]
  rw [u__law_is_time_right_2, mSeq_nx s1, s2]
include hL hS in
theorem r_it5 (off : Int) (h0 : 0 ≤ off) (h1 : off ≤ 1000) (i : Nat) (hi : i ≤ ls.length) (p : PyData) (o3 o4 o6 o7 o8 o10 o11 o12 : Option SV) :
    ∃ o11' o12', l__law_is_time_right_2 (envT ls ss p o3 o4 (sI off) o6 o7 o8 (sI (i : Nat)) o10 o11 o12) = .ok .nx (envT ls ss p o3 o4 (sI off) o6 o7 o8 (sI (i : Nat)) o10 o11' o12') := by
  have hl := hS.len
  have h11 := hL.l2
  have e : (mRg rg1 (mcons (mval (mCall gLen (mcons (mslot 2) mnil))) mnil)) (envT ls ss p o3 o4 (sI off) o6 o7 o8 (sI (i : Nat)) o10 o11 o12) = .ok (rgD 0 (ls.length + 1)) (envT ls ss p o3 o4 (sI off) o6 o7 o8 (sI (i : Nat)) o10 o11 o12) := by
    have := rg1_int (ls.length + 1) (by omega)
    push_cast at this
    simp [envT, hl, this]
  obtain ⟨ρ', e2, o11', o12', e3⟩ := forL_inv (ft := putS 11) (fb := u__law_is_time_right_2) (fun j ρ => ∃ o11 o12, ρ = envT ls ss p o3 o4 (sI off) o6 o7 o8 (sI (i : Nat)) o10 o11 o12) (rgD 0 (ls.length + 1)) 0 (envT ls ss p o3 o4 (sI off) o6 o7 o8 (sI (i : Nat)) o10 o11 o12) ⟨_, _, rfl⟩ fun j d ρ hd hI => by
    obtain ⟨o11, o12, rfl⟩ := hI
    obtain ⟨hj, rfl⟩ := rgD_get hd
    rw [Int.zero_add]
    have p0 : putS 11 (.int (j : Nat)) (envT ls ss p o3 o4 (sI off) o6 o7 o8 (sI (i : Nat)) o10 o11 o12) = .ok () (envT ls ss p o3 o4 (sI off) o6 o7 o8 (sI (i : Nat)) o10 (sI (j : Nat)) o12) := by simp [envT, sI]
    exact ⟨.nx, _, .inl rfl, by rw [bind_run, p0, to_ok, r_it4 ls ss hL hS off h0 h1 i j hi (by omega) p o3 o4 o6 o7 o8 o10 o11 o12], _, _, rfl⟩
  refine ⟨o11', o12', ?_⟩
  unfold l__law_is_time_right_2
  rw [mFor_e, bind_run, e, to_ok, e2, e3]
include hL hS in
theorem r_it6 (off : Int) (h0 : 0 ≤ off) (h1 : off ≤ 1000) (p : PyData) (o3 o4 o6 o7 o8 o9 o10 o11 o12 : Option SV) :
    ∃ o9' o11' o12', l__law_is_time_right_3 (envT ls ss p o3 o4 (sI off) o6 o7 o8 o9 o10 o11 o12) = .ok .nx (envT ls ss p o3 o4 (sI off) o6 o7 o8 o9' o10 o11' o12') := by
  have hl := hS.len
  have h11 := hL.l2
  have e : (mRg rg1 (mcons (mval (mCall gLen (mcons (mslot 2) mnil))) mnil)) (envT ls ss p o3 o4 (sI off) o6 o7 o8 o9 o10 o11 o12) = .ok (rgD 0 (ls.length + 1)) (envT ls ss p o3 o4 (sI off) o6 o7 o8 o9 o10 o11 o12) := by
    have := rg1_int (ls.length + 1) (by omega)
    push_cast at this
    simp [envT, hl, this]
  obtain ⟨ρ', e2, o9', o11', o12', e3⟩ := forL_inv (ft := putS 9) (fb := u__law_is_time_right_3) (fun j ρ => ∃ o9 o11 o12, ρ = envT ls ss p o3 o4 (sI off) o6 o7 o8 o9 o10 o11 o12) (rgD 0 (ls.length + 1)) 0 (envT ls ss p o3 o4 (sI off) o6 o7 o8 o9 o10 o11 o12) ⟨_, _, _, rfl⟩ fun j d ρ hd hI => by
    obtain ⟨o9, o11, o12, rfl⟩ := hI
    obtain ⟨hj, rfl⟩ := rgD_get hd
    rw [Int.zero_add]
    obtain ⟨o11', o12', z⟩ := r_it5 ls ss hL hS off h0 h1 j (by omega) p o3 o4 o6 o7 o8 o10 o11 o12
    have p0 : putS 9 (.int (j : Nat)) (envT ls ss p o3 o4 (sI off) o6 o7 o8 o9 o10 o11 o12) = .ok () (envT ls ss p o3 o4 (sI off) o6 o7 o8 (sI (j : Nat)) o10 o11 o12) := by simp [envT, sI]
    exact ⟨.nx, _, .inl rfl, by rw [bind_run, p0, to_ok, u__law_is_time_right_3, z], _, _, _, rfl⟩
  refine ⟨o9', o11', o12', ?_⟩
  unfold l__law_is_time_right_3
  rw [mFor_e, bind_run, e, to_ok, e2, e3]
include hL hS in
theorem r_it7 (off : Int) (h0 : 0 ≤ off) (h1 : off ≤ 1000) (p : PyData) (o3 o6 o7 o8 o9 o10 o11 o12 : Option SV) :
    ∃ o6' o7' o8' o9' o10' o11' o12', u__law_is_time_right_4 (envT ls ss p o3 (sI (hf (lack (rooms1 ls ss)))) (sI off) o6 o7 o8 o9 o10 o11 o12) = .ok .nx (envT ls ss p o3 (sI (hf (lack (rooms1 ls ss)))) (sI off) o6' o7' o8' o9' o10' o11' o12') := by
  have hl := hS.len
  have h11 := hL.l2
  have e0 := at_nth (ns := ss) (k := 0) (by omega)
  have e0 : L2.atI (ss.map PyData.int) 0 = some (.int (nth ss 0)) := e0
  generalize hN : sI (hf (lack (rooms1 ls ss))) = N
  rcases e_tf ls ss off hL hS h0 h1 with ⟨q, e⟩ | ⟨q, i, x, hi, hx, hf', e⟩
  · have ok := tL_ok hl h0 q
    have hn := tL_len ls ss off
    have c1 := e_stf_may ls ss off (tL ls ss off) hL hS h0 h1 hn
    rw [decide_eq_true ok] at c1
    have hge : hf (lack (rooms1 ls ss)) ≤ off := (hf_le _ _).mpr q
    have s4 : t__law_is_time_right_4 (envT ls ss p o3 N (sI off) o6 o7 o8 o9 o10 o11 o12) = .ok .nx (envT ls ss p o3 N (sI off) (some ⟨mayD (tL ls ss off), .fr⟩) o7 o8 o9 o10 o11 o12) := by
      simp [t__law_is_time_right_4, envT, sI, e]
    have s5 : t__law_is_time_right_5 (envT ls ss p o3 N (sI off) (some ⟨mayD (tL ls ss off), .fr⟩) o7 o8 o9 o10 o11 o12) = .ok .nx (envT ls ss p o3 N (sI off) (some ⟨mayD (tL ls ss off), .fr⟩) o7 o8 o9 o10 o11 o12) := by
      subst hN
      unfold mayD at c1 ⊢
      simp [t__law_is_time_right_5, envT, sI, at_head, hge, c1]
    have t : (mB (mOp2 (gEq false) (mval (mOp2 gIxS (mslot 6) (mval (pure (frv (.int 0)))))) (mval (pure (frv (.str "may")))))) (envT ls ss p o3 N (sI off) (some ⟨mayD (tL ls ss off), .fr⟩) o7 o8 o9 o10 o11 o12) = .ok true (envT ls ss p o3 N (sI off) (some ⟨mayD (tL ls ss off), .fr⟩) o7 o8 o9 o10 o11 o12) := by
      simp [envT, mayD, at_head]
    have s6 : t__law_is_time_right_6 (envT ls ss p o3 N (sI off) (some ⟨mayD (tL ls ss off), .fr⟩) o7 o8 o9 o10 o11 o12) = .ok .nx (envT ls ss p o3 N (sI off) (some ⟨mayD (tL ls ss off), .fr⟩) (some ⟨.list [.int (nth ss 0 - off)], .ow⟩) o8 o9 o10 o11 o12) := by
      simp [t__law_is_time_right_6, envT, sI, e0]
    obtain ⟨o8', o9', s7⟩ := r_it1 ls ss hl h11 p off o3 N (some ⟨mayD (tL ls ss off), .fr⟩) o8 o9 o10 o11 o12
    have s8 : t__law_is_time_right_7 (envT ls ss p o3 N (sI off) (some ⟨mayD (tL ls ss off), .fr⟩) (some ⟨.list ((tL ls ss off).map .int), .ow⟩) o8' o9' o10 o11 o12) = .ok .nx (envT ls ss p o3 N (sI off) (some ⟨mayD (tL ls ss off), .fr⟩) (some ⟨.list ((tL ls ss off).map .int), .ow⟩) o8' o9' o10 o11 o12) := by
      simp [t__law_is_time_right_7, envT, mayD, at_one]
    have c2 := r_it2 ls ss h11 p off o3 N (some ⟨mayD (tL ls ss off), .fr⟩) o8' o9' o10 o11 o12
    generalize hvs : (tL ls ss off).map (· + 1) = vs at c2
    have hv : vs.length = ls.length + 1 := by rw [← hvs, List.length_map, hn]
    have hvn : ∀ k, k ≤ ls.length → nth vs k = nth (tL ls ss off) k + 1 := fun k hk => nth_of (by rw [← hvs, List.getElem?_map, nth_some (by omega)]; rfl)
    have s9 : t__law_is_time_right_8 (envT ls ss p o3 N (sI off) (some ⟨mayD (tL ls ss off), .fr⟩) (some ⟨.list ((tL ls ss off).map .int), .ow⟩) o8' o9' o10 o11 o12) = .ok .nx (envT ls ss p o3 N (sI off) (some ⟨mayD (tL ls ss off), .fr⟩) (some ⟨.list ((tL ls ss off).map .int), .fr⟩) o8' o9' (some ⟨.tuple (vs.map .int), .fr⟩) o11 o12) := by
      simp [t__law_is_time_right_8, c2]
      simp [envT]
    have c3 := r_it3 ls ss h11 hl vs hv p off o3 N (some ⟨mayD (tL ls ss off), .fr⟩) (some ⟨.list ((tL ls ss off).map .int), .fr⟩) o8' o9' o11 o12
    have c4 := e_stf_may ls ss off vs hL hS h0 h1 hv
    have eb : (((List.range (ls.length + 1)).map fun k => decide (absI (nth vs k - nth ss k) ≤ off)).all id) = decide ((∀ k, k ≤ ls.length → okV ss off vs k) ∧ ∀ k, k < ls.length → nth ls k ≤ nth vs (k + 1) - nth vs k) := by
      rw [allR, decide_eq_decide]
      simp only [decide_eq_true_eq]
      constructor
      · intro z
        refine ⟨fun k hk => ?_, fun k hk => ?_⟩
        · have a := z k (by omega)
          unfold absI at a
          unfold okV
          split at a <;> omega
        · have a := ok.2 k hk
          rw [hvn k (by omega), hvn (k + 1) (by omega)]
          omega
      · intro z k hk
        have a := z.1 k (by omega)
        unfold okV at a
        unfold absI
        split <;> omega
    have gb := gAllAny_list (·.all id) ((List.range (ls.length + 1)).map fun k => decide (absI (nth vs k - nth ss k) ≤ off))
    rw [eb] at gb
    generalize decide ((∀ k, k ≤ ls.length → okV ss off vs k) ∧ ∀ k, k < ls.length → nth ls k ≤ nth vs (k + 1) - nth vs k) = b at c4 gb
    have s10 : t__law_is_time_right_9 (envT ls ss p o3 N (sI off) (some ⟨mayD (tL ls ss off), .fr⟩) (some ⟨.list ((tL ls ss off).map .int), .fr⟩) o8' o9' (some ⟨.tuple (vs.map .int), .fr⟩) o11 o12) = .ok .nx (envT ls ss p o3 N (sI off) (some ⟨mayD (tL ls ss off), .fr⟩) (some ⟨.list ((tL ls ss off).map .int), .fr⟩) o8' o9' (some ⟨.tuple (vs.map .int), .fr⟩) o11 o12) := by
      have c4' : fd_shows_too_fast.g [.tuple (ls.map .int), .tuple (ss.map .int), .int off, .tuple [.str "may", .tuple (vs.map .int)]] = .ok ⟨.bool b, .fr⟩ [] := c4
      simp only [envT, sI] at c3
      simp [t__law_is_time_right_9, envT, sI, c4', c3, gb, -List.map_map, -gAllAny_list]
    have s11 : t__law_is_time_right_10 (envT ls ss p o3 N (sI off) (some ⟨mayD (tL ls ss off), .fr⟩) o7 o8 o9 o10 o11 o12) = .ok .nx (envT ls ss p o3 N (sI off) (some ⟨mayD (tL ls ss off), .fr⟩) (some ⟨.list ((tL ls ss off).map .int), .fr⟩) o8' o9' (some ⟨.tuple (vs.map .int), .fr⟩) o11 o12) := by
      rw [t__law_is_time_right_10, mIfS_t t, mSeq_nx s6, mSeq_nx s7, mSeq_nx s8, mSeq_nx s9, s10]
    obtain ⟨o9'', o11', o12', s12⟩ := r_it6 ls ss hL hS off h0 h1 p o3 N (some ⟨mayD (tL ls ss off), .fr⟩) (some ⟨.list ((tL ls ss off).map .int), .fr⟩) o8' o9' (some ⟨.tuple (vs.map .int), .fr⟩) o11 o12
    exact ⟨_, _, _, _, _, _, _, by rw [u__law_is_time_right_4, mSeq_nx s4, mSeq_nx s5, mSeq_nx s11, s12]⟩
  · have c1 := e_stf_sur ls ss off i x hL hS h0 h1 (by omega) hx
    rw [decide_eq_true ⟨hi, hf'⟩] at c1
    have hge : ¬hf (lack (rooms1 ls ss)) ≤ off := fun z => q ((hf_le _ _).mp z)
    have s4 : t__law_is_time_right_4 (envT ls ss p o3 N (sI off) o6 o7 o8 o9 o10 o11 o12) = .ok .nx (envT ls ss p o3 N (sI off) (some ⟨surD i x, .fr⟩) o7 o8 o9 o10 o11 o12) := by
      simp [t__law_is_time_right_4, envT, sI, e]
    have s5 : t__law_is_time_right_5 (envT ls ss p o3 N (sI off) (some ⟨surD i x, .fr⟩) o7 o8 o9 o10 o11 o12) = .ok .nx (envT ls ss p o3 N (sI off) (some ⟨surD i x, .fr⟩) o7 o8 o9 o10 o11 o12) := by
      subst hN
      unfold surD at c1 ⊢
      simp [t__law_is_time_right_5, envT, sI, at_head, hge, c1]
    have s6 : t__law_is_time_right_10 (envT ls ss p o3 N (sI off) (some ⟨surD i x, .fr⟩) o7 o8 o9 o10 o11 o12) = .ok .nx (envT ls ss p o3 N (sI off) (some ⟨surD i x, .fr⟩) o7 o8 o9 o10 o11 o12) := by
      simp [t__law_is_time_right_10, envT, surD, at_head]
    obtain ⟨o9', o11', o12', s7⟩ := r_it6 ls ss hL hS off h0 h1 p o3 N (some ⟨surD i x, .fr⟩) o7 o8 o9 o10 o11 o12
    exact ⟨_, _, _, _, _, _, _, by rw [u__law_is_time_right_4, mSeq_nx s4, mSeq_nx s5, mSeq_nx s6, s7]⟩
end
end Lw

set_option maxRecDepth 100000
/-! k10: roads turned round, stretched, cut. -/
namespace Lw
open PySem PySem.Spec L2 Pv
theorem kadF_mono : ∀ (rs : List Int) (h h' m m' : Int), h ≤ h' → m ≤ m' → (kad h rs).foldl max m ≤ (kad h' rs).foldl max m'
  | [], h, h', m, m', a, b => by show max m h ≤ max m' h'; omega
  | r :: rs, h, h', m, m', a, b => by
    show (kad (max 0 (h - r)) rs).foldl max (max m h) ≤ (kad (max 0 (h' - r)) rs).foldl max (max m' h')
    exact kadF_mono rs _ _ _ _ (by omega) (by omega)
theorem kadF_split (x y : Int) (rs : List Int) (h m : Int) : (kad h ((x + y) :: rs)).foldl max m ≤ (kad h (x :: y :: rs)).foldl max m := by
  show (kad (max 0 (h - (x + y))) rs).foldl max (max m h) ≤ (kad (max 0 (max 0 (h - x) - y)) rs).foldl max (max (max m h) (max 0 (h - x)))
  exact kadF_mono rs _ _ _ _ (by omega) (by omega)
def cutL (ls : List Int) (a : Nat) (f : Int) : List Int := ls.take a ++ [f, nth ls a - f] ++ ls.drop (a + 1)
def cutS (ss : List Int) (a : Nat) (v : Int) : List Int := ss.take (a + 1) ++ [v] ++ ss.drop (a + 1)
theorem nth_cons (x : Int) (xs : List Int) (k : Nat) : nth (x :: xs) (k + 1) = nth xs k := by
  unfold nth
  simp
theorem lack_cutG (f v : Int) : ∀ (a : Nat) (ls ss : List Int) (h m : Int), a < ls.length → ss.length = ls.length + 1 → (kad h (rooms1 ls ss)).foldl max m ≤ (kad h (rooms1 (cutL ls a f) (cutS ss a v))).foldl max m
  | _, [], _, _, _, ha, _ => by simp at ha
  | _, _ :: _, [], _, _, _, hl => by simp at hl
  | _, _ :: _, [_], _, _, _, hl => by simp at hl
  | 0, l :: ls, s0 :: s1 :: ss, h, m, _, _ => by
    have e1 : cutL (l :: ls) 0 f = f :: (l - f) :: ls := by simp [cutL, nth]
    have e2 : cutS (s0 :: s1 :: ss) 0 v = s0 :: v :: s1 :: ss := by simp [cutS]
    rw [e1, e2]
    show (kad h ((s1 - s0 - l) :: rooms1 ls (s1 :: ss))).foldl max m ≤ (kad h ((v - s0 - f) :: (s1 - v - (l - f)) :: rooms1 ls (s1 :: ss))).foldl max m
    rw [show s1 - s0 - l = (v - s0 - f) + (s1 - v - (l - f)) by omega]
    exact kadF_split _ _ _ _ _
  | a + 1, l :: ls, s0 :: s1 :: ss, h, m, ha, hl => by
    have e1 : cutL (l :: ls) (a + 1) f = l :: cutL ls a f := by simp [cutL, nth_cons]
    have e2 : cutS (s0 :: s1 :: ss) (a + 1) v = s0 :: cutS (s1 :: ss) a v := by simp [cutS]
    have e3 : ∃ T, cutS (s1 :: ss) a v = s1 :: T := ⟨_, by simp [cutS]; rfl⟩
    obtain ⟨T, e3⟩ := e3
    have ih := lack_cutG f v a ls (s1 :: ss) (max 0 (h - (s1 - s0 - l))) (max m h) (by simpa using ha) (by simpa using hl)
    rw [e1, e2, e3]
    rw [e3] at ih
    exact ih
theorem lack_cut (f v : Int) {a : Nat} {ls ss : List Int} (ha : a < ls.length) (hl : ss.length = ls.length + 1) : lack (rooms1 ls ss) ≤ lack (rooms1 (cutL ls a f) (cutS ss a v)) := lack_cutG f v a ls ss 0 0 ha hl
theorem kad_scale (t : Int) (ht : 0 ≤ t) : ∀ (rs : List Int) (h m : Int), (kad (t * h) (rs.map (t * ·))).foldl max (t * m) = t * (kad h rs).foldl max m
  | [], h, m => by
    show max (t * m) (t * h) = t * max m h
    rcases Int.le_total m h with q | q
    · have := Int.mul_le_mul_of_nonneg_left q ht
      rw [show max m h = h by omega]; omega
    · have := Int.mul_le_mul_of_nonneg_left q ht
      rw [show max m h = m by omega]; omega
  | r :: rs, h, m => by
    show (kad (max 0 (t * h - t * r)) (rs.map (t * ·))).foldl max (max (t * m) (t * h)) = t * (kad (max 0 (h - r)) rs).foldl max (max m h)
    have e1 : max 0 (t * h - t * r) = t * max 0 (h - r) := by
      rw [← Int.mul_sub]
      rcases Int.le_total 0 (h - r) with q | q
      · have := Int.mul_nonneg ht q
        rw [show max 0 (h - r) = h - r by omega]; omega
      · have := Int.mul_le_mul_of_nonneg_left q ht
        rw [Int.mul_zero] at this
        rw [show max 0 (h - r) = 0 by omega]; omega
    have e2 : max (t * m) (t * h) = t * max m h := by
      rcases Int.le_total m h with q | q
      · have := Int.mul_le_mul_of_nonneg_left q ht
        rw [show max m h = h by omega]; omega
      · have := Int.mul_le_mul_of_nonneg_left q ht
        rw [show max m h = m by omega]; omega
    rw [e1, e2]
    exact kad_scale t ht rs _ _
theorem lack_scale {t : Int} (ht : 0 ≤ t) (rs : List Int) : lack (rs.map (t * ·)) = t * lack rs := by
  have := kad_scale t ht rs 0 0
  rw [Int.mul_zero] at this
  exact this
/-- monotone -/
theorem lack_mono {rs rs' : List Int} (hl : rs.length = rs'.length) (h : ∀ k, k < rs.length → nth rs' k ≤ nth rs k) : lack rs ≤ lack rs' := by
  rw [lack_le (lack_nn _)]
  have key : ∀ k, k ≤ rs.length → nth (kad 0 rs) k ≤ nth (kad 0 rs') k := by
    intro k
    induction k with
    | zero =>
      intro _
      rw [nth_of (kad_zero _ _), nth_of (kad_zero _ _)]
      exact Int.le_refl _
    | succ k ih =>
      intro hk
      have a := ih (by omega)
      have b := h k (by omega)
      rw [kadR_next rs (by omega), kadR_next rs' (by omega)]
      omega
  intro k hk
  have a := key k hk
  have b := (lack_le (lack_nn rs')).mp (Int.le_refl _) k (by omega)
  omega
theorem nth_rev {xs : List Int} {k : Nat} (h : k < xs.length) : nth xs.reverse k = nth xs (xs.length - 1 - k) := nth_of (by rw [List.getElem?_reverse h]; exact nth_some (by omega))
theorem nth_map {f : Int → Int} {xs : List Int} {k : Nat} (h : k < xs.length) : nth (xs.map f) k = f (nth xs k) := nth_of (by rw [List.getElem?_map, nth_some h]; rfl)
theorem nth_cut {rs : List Int} {i j k : Nat} (h : k < j - i) (hj : j ≤ rs.length) : nth ((rs.drop i).take (j - i)) k = nth rs (i + k) := nth_of (by rw [List.getElem?_take, if_pos h, List.getElem?_drop, nth_some (by omega)])
theorem sum_rev : ∀ xs : List Int, xs.reverse.sum = xs.sum
  | [] => rfl
  | x :: xs => by
    rw [List.reverse_cons, List.sum_append, sum_rev xs, List.sum_cons, List.sum_cons, List.sum_nil]
    omega
theorem seg_rev {rs : List Int} {i j : Nat} (h : i ≤ j) (hj : j ≤ rs.length) : seg rs.reverse i j = seg rs (rs.length - j) (rs.length - i) := by
  unfold seg
  rw [← sum_rev]
  congr 1
  have l1 : ((rs.reverse.drop i).take (j - i)).length = j - i := by rw [List.length_take, List.length_drop, List.length_reverse]; omega
  have l2 : ((rs.drop (rs.length - j)).take (rs.length - i - (rs.length - j))).length = j - i := by rw [List.length_take, List.length_drop]; omega
  refine ext_nth (by rw [List.length_reverse, l1, l2]) fun k hk => ?_
  rw [List.length_reverse, l1] at hk
  rw [nth_rev (by omega), l1, nth_cut (by omega) (by rw [List.length_reverse]; exact hj), nth_cut (by omega) (by omega), nth_rev (by omega)]
  congr 1
  omega
theorem lack_rev_le (rs : List Int) : lack rs.reverse ≤ lack rs := by
  rcases lack_att rs.reverse with e | ⟨i, j, h1, h2, e⟩
  · rw [e]; exact lack_nn rs
  · rw [List.length_reverse] at h2
    rw [e, seg_rev (by omega) h2]
    exact lack_ge rs (by omega) (by omega)
theorem lack_rev (rs : List Int) : lack rs.reverse = lack rs := by
  have a := lack_rev_le rs
  have b := lack_rev_le rs.reverse
  rw [List.reverse_reverse] at b
  omega
theorem rooms1_shift {ls ss : List Int} (hl : ss.length = ls.length + 1) (c : Int) : rooms1 ls (ss.map (· + c)) = rooms1 ls ss := by
  have hl' : (ss.map (· + c)).length = ls.length + 1 := by rw [List.length_map, hl]
  refine ext_nth (by rw [rooms1_length _ _ hl', rooms1_length _ _ hl]) fun k hk => ?_
  rw [rooms1_length _ _ hl'] at hk
  rw [rooms1_nth hl' hk, rooms1_nth hl hk, nth_map (by omega), nth_map (by omega)]
  omega
theorem rooms1_scale {ls ss : List Int} (hl : ss.length = ls.length + 1) (t : Int) : rooms1 (ls.map (t * ·)) (ss.map (t * ·)) = (rooms1 ls ss).map (t * ·) := by
  have hl' : (ss.map (t * ·)).length = (ls.map (t * ·)).length + 1 := by rw [List.length_map, List.length_map, hl]
  refine ext_nth (by rw [rooms1_length _ _ hl', List.length_map, List.length_map, rooms1_length _ _ hl]) fun k hk => ?_
  rw [rooms1_length _ _ hl', List.length_map] at hk
  rw [rooms1_nth hl' (by rw [List.length_map]; exact hk), nth_map (xs := rooms1 ls ss) (by rw [rooms1_length _ _ hl]; exact hk), rooms1_nth hl hk, nth_map (xs := ss) (k := k + 1) (by omega), nth_map (xs := ss) (k := k) (by omega), nth_map (xs := ls) (by omega), Int.mul_sub, Int.mul_sub]
theorem rooms1_rev {ls ss : List Int} (hl : ss.length = ls.length + 1) (M : Int) : rooms1 ls.reverse (ss.reverse.map (M - ·)) = (rooms1 ls ss).reverse := by
  have hl' : (ss.reverse.map (M - ·)).length = ls.reverse.length + 1 := by rw [List.length_map, List.length_reverse, List.length_reverse, hl]
  have hr := rooms1_length _ _ hl
  refine ext_nth (by rw [rooms1_length _ _ hl', List.length_reverse, List.length_reverse, hr]) fun k hk => ?_
  rw [rooms1_length _ _ hl', List.length_reverse] at hk
  rw [rooms1_nth hl' (by rw [List.length_reverse]; exact hk), nth_rev (xs := rooms1 ls ss) (by rw [hr]; exact hk), hr, rooms1_nth hl (by omega), nth_map (xs := ss.reverse) (k := k + 1) (by rw [List.length_reverse]; omega), nth_map (xs := ss.reverse) (k := k) (by rw [List.length_reverse]; omega), nth_rev (xs := ss) (k := k + 1) (by omega), nth_rev (xs := ss) (k := k) (by omega), nth_rev (xs := ls) hk, hl]
  rw [show ls.length + 1 - 1 - (k + 1) = ls.length - 1 - k by omega, show ls.length + 1 - 1 - k = ls.length - 1 - k + 1 by omega]
  omega
end Lw

set_option maxRecDepth 100000
/-! k10: the law's own: are the others right? -/
namespace Lw
open PySem PySem.Spec L2 Pv
theorem gRev_ints (ns : List Int) : gRev (.tuple (ns.map .int)) = some ⟨.tuple (ns.reverse.map .int), .fr⟩ := by
  rw [List.map_reverse]; rfl
@[simp] theorem gAdd_ints (xs ys : List Int) (h : xs.length + ys.length ≤ 1000) : gAdd (.tuple (xs.map .int)) (.tuple (ys.map .int)) = some ⟨.tuple ((xs ++ ys).map .int), .fr⟩ := by
  have e : gTupAdd (.tuple (xs.map .int)) (.tuple (ys.map .int)) = some (frv (.tuple (xs.map .int ++ ys.map .int))) := by
    unfold gTupAdd
    dsimp only
    rw [if_pos (by rw [List.length_map, List.length_map]; exact Pv.small h)]
  rw [List.map_append]
  unfold gAdd
  rw [e]
  rfl
theorem may_e {ls ss : List Int} {off : Int} (h : OkL ls) (hs : OkS ls.length ss) (h0 : 0 ≤ off) (h1 : off ≤ 1000) : ∃ d ds, fd_too_fast.g [.tuple (ls.map .int), .tuple (ss.map .int), .int off] = .ok ⟨.tuple (.str (if lack (rooms1 ls ss) ≤ 2 * off then "may" else "surely") :: d :: ds), .fr⟩ [] := by
  rcases e_tf ls ss off h hs h0 h1 with ⟨q, e⟩ | ⟨q, i, x, _, _, _, e⟩
  · rw [if_pos q]; exact ⟨_, _, e⟩
  · rw [if_neg q]; exact ⟨_, _, e⟩
/-- the clocks' answer -/
def aL (ls : List Int) (rows : List (List Int)) (off : Int) : List Int := (List.range (ls.length + 1)).map (ahK ls rows off)
theorem ah_ok {ls : List Int} {rows : List (List Int)} {off : Int} (h0 : 0 ≤ off) : (∀ k, k < ls.length → ¬ahK ls rows off (k + 1) < -off) ↔ lack (roomsR ls rows) ≤ 2 * off := by
  rw [lack_le (by omega), roomsR_length]
  unfold ahK
  constructor
  · intro h k hk
    cases k with
    | zero => rw [nth_of (kad_zero _ _)]; omega
    | succ k => have := h k (by omega); omega
  · intro h k hk
    have := h (k + 1) (by omega)
    omega
theorem e_cl (ls : List Int) (rows : List (List Int)) (off : Int) (h : OkL ls) (hs : OkR ls.length rows) (h0 : 0 ≤ off) (h1 : off ≤ 1000) :
    (lack (roomsR ls rows) ≤ 2 * off ∧ fd_clocks.g [.tuple (ls.map .int), rwsD rows, .int off] = .ok ⟨mayD (aL ls rows off), .fr⟩ []) ∨
    (¬lack (roomsR ls rows) ≤ 2 * off ∧ ∃ a x : Nat, a < x ∧ x ≤ ls.length ∧ seg (roomsR ls rows) a x < -2 * off ∧ fd_clocks.g [.tuple (ls.map .int), rwsD rows, .int off] = .ok ⟨surC a x (carsK ls rows a x), .fr⟩ []) := by
  rcases e_clocks ls rows off h hs h0 h1 with ⟨a, b⟩ | ⟨a, b⟩
  · refine .inl ⟨(ah_ok h0).mp a, ?_⟩
    rw [b, map_nat_int]
    rfl
  · exact .inr ⟨fun z => a ((ah_ok h0).mpr z), b⟩
theorem mayC_e {ls : List Int} {rows : List (List Int)} {off : Int} (h : OkL ls) (hs : OkR ls.length rows) (h0 : 0 ≤ off) (h1 : off ≤ 1000) : ∃ d ds, fd_clocks.g [.tuple (ls.map .int), rwsD rows, .int off] = .ok ⟨.tuple (.str (if lack (roomsR ls rows) ≤ 2 * off then "may" else "surely") :: d :: ds), .fr⟩ [] := by
  rcases e_cl ls rows off h hs h0 h1 with ⟨q, e⟩ | ⟨q, i, x, _, _, _, e⟩
  · rw [if_pos q]; exact ⟨_, _, e⟩
  · rw [if_neg q]; exact ⟨_, _, e⟩
theorem q_same (n : Bool) (c : Prop) [Decidable c] : gEq n (.str (if c then "may" else "surely")) (.str (if c then "may" else "surely")) = some ⟨.bool (if n then false else true), .fr⟩ := by
  split
  · exact q_mm n
  · exact q_ss n
section
variable (ls ss : List Int) (hL : OkL ls) (hS : OkS ls.length ss) (hb : ∀ x ∈ ss, x ≤ 5000) (hlb : ∀ x ∈ ls, x ≤ 59)
def envQ (p : PyData) (need : Int) (o4 o5 o6 o7 o8 o9 o10 o11 o12 : Option SV) : PEnv := [some ⟨p, .ow⟩, some ⟨.tuple (ls.map .int), .fr⟩, some ⟨.tuple (ss.map .int), .fr⟩, sI need, o4, o5, o6, o7, o8, o9, o10, o11, o12, none, none]
def backL : List Int := ss.reverse.map (mxI ss - ·)
theorem backL_len : (backL ss).length = ss.length := by simp [backL]
include hS hb in
theorem back_ok : OkS ls.reverse.length (backL ss) := by
  refine ⟨by rw [backL_len, hS.len, List.length_reverse], fun x hx => ?_⟩
  unfold backL at hx
  obtain ⟨y, hy, rfl⟩ := List.mem_map.mp hx
  have hy := List.mem_reverse.mp hy
  have a := mxI_ge hy
  have b := hb _ (mxI_mem (List.ne_nil_of_mem hy))
  have c := (hS.lo y hy).1
  omega
include hL in
theorem rev_ok : OkL ls.reverse := ⟨by rw [List.length_reverse]; exact hL.l1, by rw [List.length_reverse]; exact hL.l2, fun x hx => hL.lo x (List.mem_reverse.mp hx)⟩
include hS hb in
theorem later_ok : OkS ls.length (ss.map (· + 777)) := by
  refine ⟨by rw [List.length_map, hS.len], fun x hx => ?_⟩
  obtain ⟨y, hy, rfl⟩ := List.mem_map.mp hx
  have a := hb y hy
  have c := (hS.lo y hy).1
  omega
theorem r_oq1 (h11 : ls.length ≤ 11) (hl : ss.length = ls.length + 1) (p : PyData) (need : Int) : t__law_are_others_right_1 (envQ ls ss p need none none none none none none none none none) = .ok .nx (envQ ls ss p need (some ⟨.tuple ((ss.map (· + 777)).map .int), .fr⟩) none none none none none none none none) := by
  have c : c__law_are_others_right_1 (envQ ls ss p need none none none none none none none none none) = .ok ⟨.list ((ss.map (· + 777)).map .int), .ow⟩ (envQ ls ss p need none none none none none none none none none) := by
    rw [List.map_map]
    exact mLc_all PyData.int _ ss (by simp [envQ]) (by simp [plainAt, envQ]) (Pv.small (by omega)) fun x _ => by simp [envQ]
  simp [t__law_are_others_right_1, c, -List.map_map]
  simp [envQ]
theorem r_oq2 (h11 : ls.length ≤ 11) (hl : ss.length = ls.length + 1) (p : PyData) (need : Int) (o4 : Option SV) : t__law_are_others_right_2 (envQ ls ss p need o4 none none none none none none none none) = .ok .nx (envQ ls ss p need o4 (some ⟨.tuple ((backL ss).map .int), .fr⟩) none none none none none none none) := by
  have hne : ss ≠ [] := fun z => by rw [z] at hl; simp at hl
  have b := best_mxT hne
  have c : c__law_are_others_right_2 (envQ ls ss p need o4 none none none none none none none none) = .ok ⟨.list ((backL ss).map .int), .ow⟩ (envQ ls ss p need o4 none none none none none none none none) := by
    unfold backL
    rw [List.map_map]
    exact mLc_all PyData.int _ ss.reverse (by simp [envQ, gRev_ints, -List.map_reverse]) (by simp [plainAt, envQ]) (Pv.small (by rw [List.length_reverse]; omega)) fun x _ => by simp [envQ, b]
  simp [t__law_are_others_right_2, c, -List.map_map]
  simp [envQ]
include hL hS hb in
theorem r_oq3 (p : PyData) (need : Int) (hn : need = hf (lack (rooms1 ls ss))) (o6 o7 o8 o9 o10 o11 o12 : Option SV) : t__law_are_others_right_4 (envQ ls ss p need (some ⟨.tuple ((ss.map (· + 777)).map .int), .fr⟩) (some ⟨.tuple ((backL ss).map .int), .fr⟩) o6 o7 o8 o9 o10 o11 o12) = .ok .nx (envQ ls ss p need (some ⟨.tuple ((ss.map (· + 777)).map .int), .fr⟩) (some ⟨.tuple ((backL ss).map .int), .fr⟩) o6 o7 o8 o9 o10 o11 o12) := by
  have hl := hS.len
  have c1 := e_least_off ls (ss.map (· + 777)) hL (later_ok ls ss hS hb)
  rw [rooms1_shift hl, ← hn] at c1
  have c2 := e_least_off ls.reverse (backL ss) (rev_ok ls hL) (back_ok ls ss hS hb)
  have e2 : rooms1 ls.reverse (backL ss) = (rooms1 ls ss).reverse := rooms1_rev hl _
  rw [e2, lack_rev, ← hn] at c2
  generalize ss.map (· + 777) = A at c1 ⊢
  generalize backL ss = B at c2 ⊢
  have g := gRev_ints ls
  generalize ls.reverse = C at c2 g
  simp [t__law_are_others_right_4, envQ, sI, c1, c2, g]
theorem one_ok {n : Nat} {ss : List Int} (h : OkS n ss) : OkR n [ss] := ⟨by simp, by simp, fun r hr => by
  rw [List.mem_singleton] at hr
  subst hr; exact h⟩
include hL hS hb hlb in
theorem r_oq4 (p : PyData) (need t : Int) (ht : t = 2 ∨ t = 3 ∨ t = 4) (o4 o5 o9 o10 o11 o12 : Option SV) : ∃ o7 o8, (mSeq t__law_are_others_right_5 (mSeq t__law_are_others_right_6 t__law_are_others_right_7)) (envQ ls ss p need o4 o5 (sI t) none none o9 o10 o11 o12) = .ok .nx (envQ ls ss p need o4 o5 (sI t) o7 o8 o9 o10 o11 o12) := by
  have hl := hS.len
  have h11 := hL.l2
  have r := e__law_roomsG ls [ss] h11 (one_ok hS) PyData.list rfl
  rw [roomsR_one hl] at r
  have r' : fd__law_rooms.g [.tuple (ls.map .int), .list [.tuple (ss.map .int)]] = .ok ⟨.list ((rooms1 ls ss).map .int), .ow⟩ [] := r
  have s5 : t__law_are_others_right_5 (envQ ls ss p need o4 o5 (sI t) none none o9 o10 o11 o12) = .ok .nx (envQ ls ss p need o4 o5 (sI t) (some ⟨.list ((rooms1 ls ss).map .int), .ow⟩) none o9 o10 o11 o12) := by
    simp [t__law_are_others_right_5, envQ, r']
  have cm : ∀ x, CMulA t x := fun x => cmul_l (by omega) (by omega)
  have cm' : ∀ x, CMulA t x = True := fun x => eq_true (cm x)
  have c3 : c__law_are_others_right_3 (envQ ls ss p need o4 o5 (sI t) (some ⟨.list ((rooms1 ls ss).map .int), .ow⟩) none o9 o10 o11 o12) = .ok ⟨.list ((ss.map (t * ·)).map .int), .ow⟩ (envQ ls ss p need o4 o5 (sI t) (some ⟨.list ((rooms1 ls ss).map .int), .ow⟩) none o9 o10 o11 o12) := by
    rw [List.map_map]
    exact mLc_all PyData.int _ ss (by simp [envQ]) (by simp [plainAt, envQ]) (Pv.small (by omega)) fun x _ => by simp [envQ, sI, cm']
  have c4 : c__law_are_others_right_4 (envQ ls ss p need o4 o5 (sI t) (some ⟨.list ((rooms1 ls ss).map .int), .ow⟩) none o9 o10 o11 o12) = .ok ⟨.list ((ls.map (t * ·)).map .int), .ow⟩ (envQ ls ss p need o4 o5 (sI t) (some ⟨.list ((rooms1 ls ss).map .int), .ow⟩) none o9 o10 o11 o12) := by
    rw [List.map_map]
    exact mLc_all PyData.int _ ls (by simp [envQ]) (by simp [plainAt, envQ]) (Pv.small (by omega)) fun x _ => by simp [envQ, sI, cm']
  have oL : OkL (ls.map (t * ·)) := ⟨by rw [List.length_map]; exact hL.l1, by rw [List.length_map]; exact hL.l2, fun x hx => by
    obtain ⟨y, hy, rfl⟩ := List.mem_map.mp hx
    have a := hL.lo y hy
    have b := hlb y hy
    rcases ht with rfl | rfl | rfl <;> omega⟩
  have oS : OkS (ls.map (t * ·)).length (ss.map (t * ·)) := ⟨by rw [List.length_map, List.length_map, hl], fun x hx => by
    obtain ⟨y, hy, rfl⟩ := List.mem_map.mp hx
    have a := hS.lo y hy
    have b := hb y hy
    rcases ht with rfl | rfl | rfl <;> omega⟩
  have lo := e_least_off _ _ oL oS
  rw [rooms1_scale hl, lack_scale (by omega)] at lo
  have s6 : t__law_are_others_right_6 (envQ ls ss p need o4 o5 (sI t) (some ⟨.list ((rooms1 ls ss).map .int), .ow⟩) none o9 o10 o11 o12) = .ok .nx (envQ ls ss p need o4 o5 (sI t) (some ⟨.list ((rooms1 ls ss).map .int), .ow⟩) (sI (hf (t * lack (rooms1 ls ss)))) o9 o10 o11 o12) := by
    generalize ss.map (t * ·) = A at c3 lo
    generalize ls.map (t * ·) = B at c4 lo
    simp [t__law_are_others_right_6, c3, c4, lo]
    simp [envQ, sI]
  have s7 : t__law_are_others_right_7 (envQ ls ss p need o4 o5 (sI t) (some ⟨.list ((rooms1 ls ss).map .int), .ow⟩) (sI (hf (t * lack (rooms1 ls ss)))) o9 o10 o11 o12) = .ok .nx (envQ ls ss p need o4 o5 (sI t) (some ⟨.list ((rooms1 ls ss).map .int), .fr⟩) (sI (hf (t * lack (rooms1 ls ss)))) o9 o10 o11 o12) := by
    simp [t__law_are_others_right_7, envQ, sI, cm']
  exact ⟨_, _, by rw [mSeq_nx s5, mSeq_nx s6, s7]⟩
include hL hS hb in
theorem r_oq5 (p : PyData) (need off : Int) (h0 : 0 ≤ off) (h1 : off ≤ 1000) (o4 o6 o7 o8 o10 o11 o12 : Option SV) : u__law_are_others_right_1 (envQ ls ss p need o4 (some ⟨.tuple ((backL ss).map .int), .fr⟩) o6 o7 o8 (sI off) o10 o11 o12) = .ok .nx (envQ ls ss p need o4 (some ⟨.tuple ((backL ss).map .int), .fr⟩) o6 o7 o8 (sI off) o10 o11 o12) := by
  have hl := hS.len
  obtain ⟨d1, ds1, e1⟩ := may_e (rev_ok ls hL) (back_ok ls ss hS hb) h0 h1
  have e2 : rooms1 ls.reverse (backL ss) = (rooms1 ls ss).reverse := rooms1_rev hl _
  rw [e2, lack_rev] at e1
  obtain ⟨d2, ds2, e2⟩ := may_e hL hS h0 h1
  obtain ⟨d3, ds3, e3⟩ := mayC_e hL (one_ok hS) h0 h1
  rw [roomsR_one hl] at e3
  have q := fun n => q_same n (lack (rooms1 ls ss) ≤ 2 * off)
  generalize (if lack (rooms1 ls ss) ≤ 2 * off then ("may" : Str) else "surely") = w at e1 e2 e3 q
  have e3' : fd_clocks.g [.tuple (ls.map .int), .tuple [.tuple (ss.map .int)], .int off] = .ok ⟨.tuple (.str w :: d3 :: ds3), .fr⟩ [] := e3
  have g := gRev_ints ls
  generalize ls.reverse = C at e1 g
  generalize backL ss = B at e1 ⊢
  have s8 : t__law_are_others_right_8 (envQ ls ss p need o4 (some ⟨.tuple (B.map .int), .fr⟩) o6 o7 o8 (sI off) o10 o11 o12) = .ok .nx (envQ ls ss p need o4 (some ⟨.tuple (B.map .int), .fr⟩) o6 o7 o8 (sI off) o10 o11 o12) := by
    simp [t__law_are_others_right_8, envQ, sI, e1, e2, g, at_head, q]
  have s9 : t__law_are_others_right_9 (envQ ls ss p need o4 (some ⟨.tuple (B.map .int), .fr⟩) o6 o7 o8 (sI off) o10 o11 o12) = .ok .nx (envQ ls ss p need o4 (some ⟨.tuple (B.map .int), .fr⟩) o6 o7 o8 (sI off) o10 o11 o12) := by
    simp [t__law_are_others_right_9, envQ, sI, e2, e3', at_head, q]
  rw [u__law_are_others_right_1, mSeq_nx s8, s9]
include hL hS hb in
theorem r_oq6 (p : PyData) (need : Int) (h0 : 0 ≤ need) (h1 : need ≤ 1000) (o4 o6 o7 o8 o9 o10 o11 o12 : Option SV) : ∃ o9', l__law_are_others_right_1 (envQ ls ss p need o4 (some ⟨.tuple ((backL ss).map .int), .fr⟩) o6 o7 o8 o9 o10 o11 o12) = .ok .nx (envQ ls ss p need o4 (some ⟨.tuple ((backL ss).map .int), .fr⟩) o6 o7 o8 o9' o10 o11 o12) := by
  have a1 := r_oq5 ls ss hL hS hb p need 0 (by omega) (by omega) o4 o6 o7 o8 o10 o11 o12
  have a2 := r_oq5 ls ss hL hS hb p need need h0 h1 o4 o6 o7 o8 o10 o11 o12
  refine ⟨sI need, ?_⟩
  have e : (mIt (mfz (mTup (mcons (mfz (pure (frv (.int 0)))) (mcons (mfz (mget 3)) mnil))))) (envQ ls ss p need o4 (some ⟨.tuple ((backL ss).map .int), .fr⟩) o6 o7 o8 o9 o10 o11 o12) = .ok [.int 0, .int need] (envQ ls ss p need o4 (some ⟨.tuple ((backL ss).map .int), .fr⟩) o6 o7 o8 o9 o10 o11 o12) := by
    simp [envQ, sI]
  have p1 : putS 9 (.int 0) (envQ ls ss p need o4 (some ⟨.tuple ((backL ss).map .int), .fr⟩) o6 o7 o8 o9 o10 o11 o12) = .ok () (envQ ls ss p need o4 (some ⟨.tuple ((backL ss).map .int), .fr⟩) o6 o7 o8 (sI 0) o10 o11 o12) := by simp [envQ, sI]
  have p2 : putS 9 (.int need) (envQ ls ss p need o4 (some ⟨.tuple ((backL ss).map .int), .fr⟩) o6 o7 o8 (sI 0) o10 o11 o12) = .ok () (envQ ls ss p need o4 (some ⟨.tuple ((backL ss).map .int), .fr⟩) o6 o7 o8 (sI need) o10 o11 o12) := by simp [envQ, sI]
  unfold l__law_are_others_right_1
  rw [mFor_e, bind_run, e, to_ok, forL_cons, bind_run, p1, to_ok, bind_run, a1, to_ok]
  dsimp only
  rw [forL_cons, bind_run, p2, to_ok, bind_run, a2, to_ok]
  rfl
include hL hS in
theorem r_oq7 (p : PyData) (need : Int) (hn : need = hf (lack (rooms1 ls ss))) (o4 o5 o6 o7 o8 o9 o10 o11 o12 : Option SV) : t__law_are_others_right_10 (envQ ls ss p need o4 o5 o6 o7 o8 o9 o10 o11 o12) = .ok .nx (envQ ls ss p need o4 o5 o6 o7 o8 o9 o10 o11 o12) := by
  have c := e_least_clocks ls [ss] hL (one_ok hS)
  rw [roomsR_one hS.len, ← hn] at c
  have c' : fd_least_clocks.g [.tuple (ls.map .int), .tuple [.tuple (ss.map .int)]] = .ok ⟨.int need, .fr⟩ [] := c
  simp [t__law_are_others_right_10, envQ, sI, c']
theorem mem_cutL {a : Nat} {f x : Int} (ha : a < ls.length) (h : x ∈ cutL ls a f) : x ∈ ls ∨ x = f ∨ x = nth ls a - f := by
  unfold cutL at h
  rw [List.mem_append, List.mem_append] at h
  rcases h with (h | h) | h
  · exact .inl (List.mem_of_mem_take h)
  · simp only [List.mem_cons, List.not_mem_nil, or_false] at h
    exact .inr h
  · exact .inl (List.mem_of_mem_drop h)
theorem mem_cutS {a : Nat} {v x : Int} (h : x ∈ cutS ss a v) : x ∈ ss ∨ x = v := by
  unfold cutS at h
  rw [List.mem_append, List.mem_append] at h
  rcases h with (h | h) | h
  · exact .inl (List.mem_of_mem_take h)
  · exact .inr (List.mem_singleton.mp h)
  · exact .inl (List.mem_of_mem_drop h)
include hL hS hb hlb in
theorem r_oq8 {m : Nat} {p : PyData} (hp : Pot m p) (hm : m ≤ 100000) (need : Int) (hn : need = hf (lack (rooms1 ls ss))) (a : Nat) (ha : a < ls.length) (o4 o5 o6 o7 o8 o9 : Option SV) :
    ∃ p' o11 o12, t__law_are_others_right_15 (envQ ls ss p need o4 o5 o6 o7 o8 o9 (sI (a : Nat)) none none) = .ok .nx (envQ ls ss p' need o4 o5 o6 o7 o8 o9 (sI (a : Nat)) o11 o12) ∧ Pot (m + 1) p' := by
  have hl := hS.len
  have h11 := hL.l2
  have ea := at_nth (ns := ls) (k := a) ha
  have t : (mAnd (mB (mOp2 gLt (mval (mCall gLen (mcons (mslot 1) mnil))) (mval (pure (frv (.int 11)))))) (mB (mOp2 gGtA (mval (mOp2 gIxS (mslot 1) (mslot 10))) (mval (pure (frv (.int 0))))))) (envQ ls ss p need o4 o5 o6 o7 o8 o9 (sI (a : Nat)) none none) = .ok (decide (ls.length < 11 ∧ 0 < nth ls a)) (envQ ls ss p need o4 o5 o6 o7 o8 o9 (sI (a : Nat)) none none) := by
    have hc : ((ls.length : Int) < 11) = (ls.length < 11) := propext ⟨fun z => by omega, fun z => by omega⟩
    by_cases q : ls.length < 11 <;> simp [envQ, sI, ea, q, hc]
  by_cases q : ls.length < 11 ∧ 0 < nth ls a
  · rw [decide_eq_true q] at t
    have la := hL.lo _ (List.mem_of_getElem? (nth_some ha))
    have lb := hlb _ (List.mem_of_getElem? (nth_some ha))
    obtain ⟨f, p', e, f0, f1, hp'⟩ := e__law_take hp (nth ls a + 1) (by omega) (by omega) (by omega)
    have s12 : t__law_are_others_right_12 (envQ ls ss p need o4 o5 o6 o7 o8 o9 (sI (a : Nat)) none none) = .ok .nx (envQ ls ss p' need o4 o5 o6 o7 o8 o9 (sI (a : Nat)) (sI f) none) := by
      simp [t__law_are_others_right_12, envQ, sI, ea, e]
    obtain ⟨A, hA⟩ : ∃ A, A = ls.take a := ⟨_, rfl⟩
    obtain ⟨B, hB⟩ : ∃ B, B = ls.drop (a + 1) := ⟨_, rfl⟩
    obtain ⟨C, hC⟩ : ∃ C, C = A ++ [f, nth ls a - f] := ⟨_, rfl⟩
    obtain ⟨D, hD⟩ : ∃ D, D = cutL ls a f := ⟨_, rfl⟩
    have hA' : A.length ≤ 11 := by rw [hA, List.length_take]; omega
    have hB' : B.length ≤ 11 := by rw [hB, List.length_drop]; omega
    have hC' : C.length ≤ 13 := by rw [hC, List.length_append]; simp; omega
    have k1 : cutD (ls.map PyData.int) none (some (a : Int)) = A.map .int := by rw [cutD_map, cut_to (by omega), hA]
    have k2 : cutD (ls.map PyData.int) (some ((a : Int) + 1)) none = B.map .int := by
      have := cut_from (ns := ls) (a := a + 1) (by omega)
      push_cast at this
      rw [cutD_map, this, hB]
    have g1 : gAdd (.tuple (A.map .int)) (.tuple [.int f, .int (nth ls a - f)]) = some ⟨.tuple (C.map .int), .fr⟩ := by
      have := gAdd_ints A [f, nth ls a - f] (by simp; omega)
      rw [← hC] at this
      exact this
    have g2 : gAdd (.tuple (C.map .int)) (.tuple (B.map .int)) = some ⟨.tuple (D.map .int), .fr⟩ := by
      rw [gAdd_ints C B (by omega), hC, hA, hB, hD]
      rfl
    have s13 : t__law_are_others_right_13 (envQ ls ss p' need o4 o5 o6 o7 o8 o9 (sI (a : Nat)) (sI f) none) = .ok .nx (envQ ls ss p' need o4 o5 o6 o7 o8 o9 (sI (a : Nat)) (sI f) (some ⟨.tuple (D.map .int), .fr⟩)) := by
      simp [t__law_are_others_right_13, envQ, sI, ea, k1, k2, g1, g2]
    obtain ⟨w, hw⟩ : ∃ w, w = (if nth ss a < nth ss (a + 1) then nth ss (a + 1) - nth ss a else 0) := ⟨_, rfl⟩
    obtain ⟨v, hv⟩ : ∃ v, v = nth ss a + (if w < f then w else f) := ⟨_, rfl⟩
    have b1 := hS.lo _ (List.mem_of_getElem? (nth_some (ns := ss) (k := a) (by omega)))
    have b2 := hb _ (List.mem_of_getElem? (nth_some (ns := ss) (k := a) (by omega)))
    have w0 : 0 ≤ w := by rw [hw]; split <;> omega
    have v0 : 0 ≤ v ∧ v ≤ 6000 := by rw [hv]; split <;> omega
    obtain ⟨X, hX⟩ : ∃ X, X = ss.take (a + 1) := ⟨_, rfl⟩
    obtain ⟨Y, hY⟩ : ∃ Y, Y = ss.drop (a + 1) := ⟨_, rfl⟩
    obtain ⟨Z, hZ⟩ : ∃ Z, Z = X ++ [v] := ⟨_, rfl⟩
    obtain ⟨U, hU⟩ : ∃ U, U = cutS ss a v := ⟨_, rfl⟩
    have hX' : X.length ≤ 12 := by rw [hX, List.length_take]; omega
    have hY' : Y.length ≤ 12 := by rw [hY, List.length_drop]; omega
    have hZ' : Z.length ≤ 13 := by rw [hZ, List.length_append]; simp; omega
    have k3 : cutD (ss.map PyData.int) none (some ((a : Int) + 1)) = X.map .int := by
      have := cut_to (ns := ss) (b := a + 1) (by omega)
      push_cast at this
      rw [cutD_map, this, hX]
    have k4 : cutD (ss.map PyData.int) (some ((a : Int) + 1)) none = Y.map .int := by
      have := cut_from (ns := ss) (a := a + 1) (by omega)
      push_cast at this
      rw [cutD_map, this, hY]
    have g3 : gAdd (.tuple (X.map .int)) (.tuple [.int v]) = some ⟨.tuple (Z.map .int), .fr⟩ := by
      have := gAdd_ints X [v] (by simp; omega)
      rw [← hZ] at this
      exact this
    have g4 : gAdd (.tuple (Z.map .int)) (.tuple (Y.map .int)) = some ⟨.tuple (U.map .int), .fr⟩ := by
      rw [gAdd_ints Z Y (by omega), hZ, hX, hY, hU]
      rfl
    have oD : OkL D := by
      have hlen : D.length = ls.length + 1 := by
        rw [hD]; unfold cutL
        rw [List.length_append, List.length_append, List.length_take, List.length_drop]
        simp only [List.length_cons, List.length_nil]
        omega
      refine ⟨by omega, by omega, fun x hx => ?_⟩
      rw [hD] at hx
      rcases mem_cutL ls ha hx with h | h | h
      · exact hL.lo x h
      · omega
      · omega
    have oU : OkS D.length U := by
      refine ⟨?_, fun x hx => ?_⟩
      · rw [hD, hU]; unfold cutL cutS
        rw [List.length_append, List.length_append, List.length_take, List.length_drop, List.length_append, List.length_append, List.length_take, List.length_drop]
        simp only [List.length_cons, List.length_nil]
        omega
      · rw [hU] at hx
        rcases mem_cutS ss hx with h | h
        · exact hS.lo x h
        · omega
    have c := e_least_off D U oD oU
    have mono : need ≤ hf (lack (rooms1 D U)) := by
      have := lack_cut f v ha hl
      rw [hn, hD, hU]
      unfold hf
      omega
    have e1 := at_nth (ns := ss) (k := a) (by omega)
    have e2 := at_nth (ns := ss) (k := a + 1) (by omega)
    push_cast at e2
    have nlt : ¬hf (lack (rooms1 D U)) < need := by omega
    have s14 : t__law_are_others_right_14 (envQ ls ss p' need o4 o5 o6 o7 o8 o9 (sI (a : Nat)) (sI f) (some ⟨.tuple (D.map .int), .fr⟩)) = .ok .nx (envQ ls ss p' need o4 o5 o6 o7 o8 o9 (sI (a : Nat)) (sI f) (some ⟨.tuple (D.map .int), .fr⟩)) := by
      simp [t__law_are_others_right_14, envQ, sI, e1, e2, k3, k4, ← hw, ← hv, g3, g4, c, nlt]
    exact ⟨p', _, _, by rw [t__law_are_others_right_15, mIfS_t t, mSeq_nx s12, mSeq_nx s13, s14], hp'⟩
  · rw [decide_eq_false q] at t
    exact ⟨p, none, none, by rw [t__law_are_others_right_15, mIfS_f t]; rfl, hp.mono (by omega)⟩
include hL hS hb hlb in
theorem e__law_are_others_right {m : Nat} {p : PyData} (hp : Pot m p) (hm : m ≤ 10000) (need : Int) (hn : need = hf (lack (rooms1 ls ss))) (h1 : need ≤ 1000) :
    ∃ p', fd__law_are_others_right.g [p, .tuple (ls.map .int), .tuple (ss.map .int), .int need] = .ok ⟨.bool true, .fr⟩ [p'] ∧ Pot (m + 3) p' := by
  have hl := hS.len
  have h11 := hL.l2
  have h0 : 0 ≤ need := by rw [hn]; exact hf_nn _
  rw [g__law_are_others_right]
  have s1 := r_oq1 ls ss h11 hl p need
  have s2 := r_oq2 ls ss h11 hl p need (some ⟨.tuple ((ss.map (· + 777)).map .int), .fr⟩)
  obtain ⟨t, p1, e, t0, t1, hp1⟩ := e__law_take hp 3 (by omega) (by omega) (by omega)
  have s3 : t__law_are_others_right_3 (envQ ls ss p need (some ⟨.tuple ((ss.map (· + 777)).map .int), .fr⟩) (some ⟨.tuple ((backL ss).map .int), .fr⟩) none none none none none none none) = .ok .nx (envQ ls ss p1 need (some ⟨.tuple ((ss.map (· + 777)).map .int), .fr⟩) (some ⟨.tuple ((backL ss).map .int), .fr⟩) (sI (2 + t)) none none none none none none) := by
    generalize ss.map (· + 777) = A
    generalize backL ss = B
    simp [t__law_are_others_right_3, envQ, sI, e]
  have s4 := r_oq3 ls ss hL hS hb p1 need hn (sI (2 + t)) none none none none none none
  obtain ⟨o7, o8, s5⟩ := r_oq4 ls ss hL hS hb hlb p1 need (2 + t) (by omega) (some ⟨.tuple ((ss.map (· + 777)).map .int), .fr⟩) (some ⟨.tuple ((backL ss).map .int), .fr⟩) none none none none
  obtain ⟨o9, s6⟩ := r_oq6 ls ss hL hS hb p1 need h0 h1 (some ⟨.tuple ((ss.map (· + 777)).map .int), .fr⟩) (sI (2 + t)) o7 o8 none none none none
  have s7 := r_oq7 ls ss hL hS p1 need hn (some ⟨.tuple ((ss.map (· + 777)).map .int), .fr⟩) (some ⟨.tuple ((backL ss).map .int), .fr⟩) (sI (2 + t)) o7 o8 o9 none none none
  have hl1 := hL.l1
  obtain ⟨a, p2, e2, a0, a1, hp2⟩ := e__law_take hp1 ls.length (by omega) (by omega) (by omega)
  have ha : a = (a.toNat : Int) := by omega
  rw [ha] at e2
  have s8 : t__law_are_others_right_11 (envQ ls ss p1 need (some ⟨.tuple ((ss.map (· + 777)).map .int), .fr⟩) (some ⟨.tuple ((backL ss).map .int), .fr⟩) (sI (2 + t)) o7 o8 o9 none none none) = .ok .nx (envQ ls ss p2 need (some ⟨.tuple ((ss.map (· + 777)).map .int), .fr⟩) (some ⟨.tuple ((backL ss).map .int), .fr⟩) (sI (2 + t)) o7 o8 o9 (sI (a.toNat : Nat)) none none) := by
    generalize ss.map (· + 777) = A
    generalize backL ss = B
    generalize a.toNat = k at e2
    simp [t__law_are_others_right_11, envQ, sI, e2]
  obtain ⟨p3, o11, o12, s9, hp3⟩ := r_oq8 ls ss hL hS hb hlb hp2 (by omega) need hn a.toNat (by omega) (some ⟨.tuple ((ss.map (· + 777)).map .int), .fr⟩) (some ⟨.tuple ((backL ss).map .int), .fr⟩) (sI (2 + t)) o7 o8 o9
  refine ⟨p3, ?_, hp3⟩
  have s5' : ∀ k : M Fl, (mSeq t__law_are_others_right_5 (mSeq t__law_are_others_right_6 (mSeq t__law_are_others_right_7 k))) (envQ ls ss p1 need (some ⟨.tuple ((ss.map (· + 777)).map .int), .fr⟩) (some ⟨.tuple ((backL ss).map .int), .fr⟩) (sI (2 + t)) none none none none none none) = k (envQ ls ss p1 need (some ⟨.tuple ((ss.map (· + 777)).map .int), .fr⟩) (some ⟨.tuple ((backL ss).map .int), .fr⟩) (sI (2 + t)) o7 o8 none none none none) := fun k => by
    rw [← mSeq_assoc, ← mSeq_assoc, mSeq_nx (by rw [mSeq_assoc]; exact s5)]
  show Rf.of _ (b__law_are_others_right (envQ ls ss p need none none none none none none none none none)) = _
  rw [b__law_are_others_right, mSeq_nx s1, mSeq_nx s2, mSeq_nx s3, mSeq_nx s4, s5', mSeq_nx s6, mSeq_nx s7, mSeq_nx s8, mSeq_nx s9]
  simp [t__law_are_others_right_16, envQ]
end
end Lw

set_option maxRecDepth 100000
/-! k10: the law's own: is the time right? -/
namespace Lw
open PySem PySem.Spec L2 Pv
section
variable (ls ss : List Int) (hL : OkL ls) (hS : OkS ls.length ss) (hb : ∀ x ∈ ss, x ≤ 5000) (hlb : ∀ x ∈ ls, x ≤ 59)
include hL hS in
theorem r_it8 (p : PyData) (o3 : Option SV) (os : List Int) (hos : ∀ o ∈ os, 0 ≤ o ∧ o ≤ 1000) (o5 o6 o7 o8 o9 o10 o11 o12 : Option SV) :
    ∃ o5' o6' o7' o8' o9' o10' o11' o12', forL (putS 5) u__law_is_time_right_4 (os.map .int) (envT ls ss p o3 (sI (hf (lack (rooms1 ls ss)))) o5 o6 o7 o8 o9 o10 o11 o12) = .ok .nx (envT ls ss p o3 (sI (hf (lack (rooms1 ls ss)))) o5' o6' o7' o8' o9' o10' o11' o12') := by
  obtain ⟨ρ', e2, o5', o6', o7', o8', o9', o10', o11', o12', e3⟩ := forL_inv (ft := putS 5) (fb := u__law_is_time_right_4) (fun j ρ => ∃ o5 o6 o7 o8 o9 o10 o11 o12, ρ = envT ls ss p o3 (sI (hf (lack (rooms1 ls ss)))) o5 o6 o7 o8 o9 o10 o11 o12) (os.map .int) 0 (envT ls ss p o3 (sI (hf (lack (rooms1 ls ss)))) o5 o6 o7 o8 o9 o10 o11 o12) ⟨_, _, _, _, _, _, _, _, rfl⟩ fun j d ρ hd hI => by
    obtain ⟨o5, o6, o7, o8, o9, o10, o11, o12, rfl⟩ := hI
    obtain ⟨off, ho, rfl⟩ := List.mem_map.mp (List.mem_of_getElem? hd)
    have h := hos off ho
    obtain ⟨o6', o7', o8', o9', o10', o11', o12', z⟩ := r_it7 ls ss hL hS off h.1 h.2 p o3 o6 o7 o8 o9 o10 o11 o12
    have p0 : putS 5 (.int off) (envT ls ss p o3 (sI (hf (lack (rooms1 ls ss)))) o5 o6 o7 o8 o9 o10 o11 o12) = .ok () (envT ls ss p o3 (sI (hf (lack (rooms1 ls ss)))) (sI off) o6 o7 o8 o9 o10 o11 o12) := by simp [envT, sI]
    exact ⟨.nx, _, .inl rfl, by rw [bind_run, p0, to_ok, z], _, _, _, _, _, _, _, _, rfl⟩
  exact ⟨o5', o6', o7', o8', o9', o10', o11', o12', by rw [e2, e3]⟩
include hL hS hb hlb in
theorem e__law_is_time_right {m : Nat} {p : PyData} (hp : Pot m p) (hm : m ≤ 5000) (h1 : hf (lack (rooms1 ls ss)) ≤ 1000) :
    ∃ p', fd__law_is_time_right.g [p, .tuple (ls.map .int), .tuple (ss.map .int)] = .ok ⟨.bool true, .fr⟩ [p'] ∧ Pot (m + 4) p' := by
  have hl := hS.len
  have h11 := hL.l2
  have h0 := hf_nn (rooms1 ls ss)
  rw [g__law_is_time_right]
  have r := e__law_roomsG ls [ss] h11 (one_ok hS) PyData.list rfl
  rw [roomsR_one hl] at r
  have r' : fd__law_rooms.g [.tuple (ls.map .int), .list [.tuple (ss.map .int)]] = .ok ⟨.list ((rooms1 ls ss).map .int), .ow⟩ [] := r
  have lo := e_least_off ls ss hL hS
  obtain ⟨t, p1, e, t0, t1, hp1⟩ := e__law_take hp 5 (by omega) (by omega) (by omega)
  obtain ⟨p2, eo, hp2⟩ := e__law_are_others_right ls ss hL hS hb hlb hp1 (by omega) (hf (lack (rooms1 ls ss))) rfl h1
  have hh := e__law_half (lack (rooms1 ls ss))
  have it8 := fun o3 => r_it8 ls ss hL hS p1 o3
  generalize hf (lack (rooms1 ls ss)) = N at *
  have s1 : t__law_is_time_right_1 (envT ls ss p none none none none none none none none none none) = .ok .nx (envT ls ss p (some ⟨.list ((rooms1 ls ss).map .int), .ow⟩) none none none none none none none none none) := by
    simp [t__law_is_time_right_1, envT, r']
  have s2 : t__law_is_time_right_2 (envT ls ss p (some ⟨.list ((rooms1 ls ss).map .int), .ow⟩) none none none none none none none none none) = .ok .nx (envT ls ss p (some ⟨.list ((rooms1 ls ss).map .int), .fr⟩) (sI N) none none none none none none none none) := by
    simp [t__law_is_time_right_2, envT, hh, sI, -e__law_half]
  have s3 : t__law_is_time_right_3 (envT ls ss p (some ⟨.list ((rooms1 ls ss).map .int), .fr⟩) (sI N) none none none none none none none none) = .ok .nx (envT ls ss p (some ⟨.list ((rooms1 ls ss).map .int), .fr⟩) (sI N) none none none none none none none none) := by
    simp [t__law_is_time_right_3, envT, sI, lo]
  obtain ⟨x1, hx1⟩ : ∃ x, x = (if 0 < N - 1 then N - 1 else 0) := ⟨_, rfl⟩
  obtain ⟨x3, hx3⟩ : ∃ x, x = (if N + t < 1000 then N + t else 1000) := ⟨_, rfl⟩
  have b1 : 0 ≤ x1 ∧ x1 ≤ 1000 := by rw [hx1]; split <;> omega
  have b3 : 0 ≤ x3 ∧ x3 ≤ 1000 := by rw [hx3]; split <;> omega
  have src : ∀ o3 : Option SV, (mIt (mfz (mTup (mcons (mfz (pure (frv (.int 0)))) (mcons (mfz (mCall (gI2 fun i j => if j > i then j else i) (mcons (mval (pure (frv (.int 0)))) (mcons (mval (mOp2 gSub (mslot 4) (mval (pure (frv (.int 1)))))) mnil)))) (mcons (mfz (mget 4)) (mcons (mfz (mCall (gI2 fun i j => if j < i then j else i) (mcons (mval (pure (frv (.int 1000)))) (mcons (mval (mOp2 gAdd (mslot 4) (mval (mCall gInt1 (mcons (mval (mCallF fd__law_take (mcons (mArgI 0) (mcons (mArgF (mfz (pure (frv (.int 5))))) mnil)))) mnil))))) mnil)))) mnil))))))) (envT ls ss p o3 (sI N) none none none none none none none none) = .ok ([0, x1, N, x3].map .int) (envT ls ss p1 o3 (sI N) none none none none none none none none) := by
    intro o3
    rw [hx1, hx3]
    simp [envT, sI, e]
  obtain ⟨o5, o6, o7, o8, o9, o10, o11, o12, s4⟩ := it8 (some ⟨.list ((rooms1 ls ss).map .int), .fr⟩) [0, x1, N, x3] (fun o ho => by
    simp only [List.mem_cons, List.not_mem_nil, or_false] at ho
    rcases ho with rfl | rfl | rfl | rfl
    · omega
    · exact b1
    · omega
    · exact b3) none none none none none none none none
  have s5 : l__law_is_time_right_4 (envT ls ss p (some ⟨.list ((rooms1 ls ss).map .int), .fr⟩) (sI N) none none none none none none none none) = .ok .nx (envT ls ss p1 (some ⟨.list ((rooms1 ls ss).map .int), .fr⟩) (sI N) o5 o6 o7 o8 o9 o10 o11 o12) := by
    unfold l__law_is_time_right_4
    rw [mFor_e, bind_run, src, to_ok, s4]
  have s6 : t__law_is_time_right_13 (envT ls ss p1 (some ⟨.list ((rooms1 ls ss).map .int), .fr⟩) (sI N) o5 o6 o7 o8 o9 o10 o11 o12) = .ok (.rt ⟨.bool true, .fr⟩) (envT ls ss p2 (some ⟨.list ((rooms1 ls ss).map .int), .fr⟩) (sI N) o5 o6 o7 o8 o9 o10 o11 o12) := by
    simp [t__law_is_time_right_13, envT, sI, eo]
  refine ⟨p2, ?_, hp2⟩
  show Rf.of _ (b__law_is_time_right (envT ls ss p none none none none none none none none none none)) = _
  rw [b__law_is_time_right, mSeq_nx s1, mSeq_nx s2, mSeq_nx s3, mSeq_nx s5, s6]
  simp [envT]
end
end Lw

set_option maxRecDepth 100000
/-! k10: the law's own: are the clocks right? -/
namespace Lw
open PySem PySem.Spec L2 Pv
/-- plain, if anything -/
def Pl (o : Option SV) : Prop := o = none ∨ ∃ d, o = some ⟨d, .fr⟩
section
variable (ls : List Int) (rows : List (List Int)) (hL : OkL ls) (hR : OkR ls.length rows)
def envK (p : PyData) (o3 o4 o5 o6 o7 o8 o9 o10 o11 o12 o13 : Option SV) : PEnv := [some ⟨p, .ow⟩, some ⟨.tuple (ls.map .int), .fr⟩, some ⟨rwsD rows, .fr⟩, o3, o4, o5, o6, o7, o8, o9, o10, o11, o12, o13, none, none, none]
theorem aL_len (off : Int) : (aL ls rows off).length = ls.length + 1 := by simp [aL]
theorem aL_nth (off : Int) {k : Nat} (h : k ≤ ls.length) : nth (aL ls rows off) k = ahK ls rows off k := nth_range (by omega)
theorem ahK_le (off : Int) {k : Nat} (h : k ≤ ls.length) : ahK ls rows off k ≤ off := by
  have := kad_nn (roomsR ls rows) (k := k) (by rw [roomsR_length]; exact h)
  unfold ahK; omega
theorem r_ik1 (h11 : ls.length ≤ 11) (p : PyData) (off : Int) (o4 o6 o8 o9 o10 o11 o12 o13 : Option SV) :
    ∃ o8', l__law_are_clocks_right_1 (envK ls rows p (some ⟨.list ((roomsR ls rows).map .int), .fr⟩) o4 (sI off) o6 (some ⟨.list [.int off], .ow⟩) o8 o9 o10 o11 o12 o13) = .ok .nx (envK ls rows p (some ⟨.list ((roomsR ls rows).map .int), .fr⟩) o4 (sI off) o6 (some ⟨.list ((aL ls rows off).map .int), .ow⟩) o8' o9 o10 o11 o12 o13) := by
  generalize hO : (some ⟨.list ((roomsR ls rows).map .int), .fr⟩ : Option SV) = O
  have e : (mIt (mfz (mget 3))) (envK ls rows p O o4 (sI off) o6 (some ⟨.list [.int off], .ow⟩) o8 o9 o10 o11 o12 o13) = .ok ((roomsR ls rows).map .int) (envK ls rows p O o4 (sI off) o6 (some ⟨.list [.int off], .ow⟩) o8 o9 o10 o11 o12 o13) := by
    subst hO
    simp [envK]
  have hn : ((roomsR ls rows).map PyData.int).length = ls.length := by rw [List.length_map, roomsR_length]
  obtain ⟨ρ', e2, o8', e3⟩ := forL_inv (ft := putS 8) (fb := u__law_are_clocks_right_1) (fun j ρ => ∃ o8, ρ = envK ls rows p O o4 (sI off) o6 (some ⟨.list ((List.range (j + 1)).map fun k => PyData.int (ahK ls rows off k)), .ow⟩) o8 o9 o10 o11 o12 o13) ((roomsR ls rows).map .int) 0 (envK ls rows p O o4 (sI off) o6 (some ⟨.list [.int off], .ow⟩) o8 o9 o10 o11 o12 o13) ⟨o8, by
      have : [PyData.int off] = (List.range (0 + 1)).map fun k => PyData.int (ahK ls rows off k) := by simp [ahK_zero]
      rw [this]⟩ fun j d ρ hd hI => by
    obtain ⟨o8, rfl⟩ := hI
    rw [Nat.zero_add]
    have hj : j < ls.length := by have := (List.getElem?_eq_some_iff.mp hd).1; omega
    rw [mapint_get (by rw [roomsR_length]; exact hj), roomsR_nth hj] at hd
    cases hd
    have p0 : putS 8 (.int (roomK ls rows j)) (envK ls rows p O o4 (sI off) o6 (some ⟨.list ((List.range (j + 1)).map fun k => PyData.int (ahK ls rows off k)), .ow⟩) o8 o9 o10 o11 o12 o13) = .ok () (envK ls rows p O o4 (sI off) o6 (some ⟨.list ((List.range (j + 1)).map fun k => PyData.int (ahK ls rows off k)), .ow⟩) (sI (roomK ls rows j)) o9 o10 o11 o12 o13) := by simp [envK, sI]
    have e1 : L2.atI ((List.range (j + 1)).map fun k => PyData.int (ahK ls rows off k)) (-1) = some (.int (ahK ls rows off j)) := at_last_map (f := fun k => PyData.int (ahK ls rows off k)) (by rw [List.getLast?_range]; simp)
    have a : (mfz (mCall (gI2 fun i j => if j < i then j else i) (mcons (mslot 5) (mcons (mval (mOp2 gAdd (mval (mOp2 gIxS (mslot 7) (mval (mOp1 gNeg (mval (pure (frv (.int 1)))))))) (mslot 8))) mnil)))) (envK ls rows p O o4 (sI off) o6 (some ⟨.list ((List.range (j + 1)).map fun k => PyData.int (ahK ls rows off k)), .ow⟩) (sI (roomK ls rows j)) o9 o10 o11 o12 o13) = .ok (.int (ahK ls rows off (j + 1))) (envK ls rows p O o4 (sI off) o6 (some ⟨.list ((List.range (j + 1)).map fun k => PyData.int (ahK ls rows off k)), .ow⟩) (sI (roomK ls rows j)) o9 o10 o11 o12 o13) := by
      rw [ahK_step ls rows off hj]
      simp [envK, sI, e1]
    refine ⟨.nx, envK ls rows p O o4 (sI off) o6 (some ⟨.list ((List.range (j + 1 + 1)).map fun k => PyData.int (ahK ls rows off k)), .ow⟩) (sI (roomK ls rows j)) o9 o10 o11 o12 o13, .inl rfl, ?_, _, rfl⟩
    rw [bind_run, p0, to_ok, u__law_are_clocks_right_1, mAppend_run (i := 7) rfl a rfl (by rw [List.length_map, List.length_range]; exact smallT (by omega)), rng_push (f := fun k => PyData.int (ahK ls rows off k))]
    rfl
  refine ⟨o8', ?_⟩
  unfold l__law_are_clocks_right_1
  rw [mFor_e, bind_run, e, to_ok, e2, e3, hn, Nat.zero_add, map_nat_int]
  rfl
theorem pl_at {o10 : Option SV} (h : Pl o10) : (match (some o10 : Option (Option SV)) with | some (some sv) => decide (sv.o = .fr) | some none => true | none => false) = true := by
  rcases h with rfl | ⟨d, rfl⟩ <;> rfl
theorem r_ik2 (h11 : ls.length ≤ 11) (p : PyData) (off : Int) (o3 o4 o5 o6 o8 o9 o10 o11 o12 o13 : Option SV) (h10 : Pl o10) :
    c__law_are_clocks_right_1 (envK ls rows p o3 o4 o5 o6 (some ⟨.list ((aL ls rows off).map .int), .ow⟩) o8 o9 o10 o11 o12 o13) = .ok ⟨.list (((aL ls rows off).map (· - 1)).map .int), .ow⟩ (envK ls rows p o3 o4 o5 o6 (some ⟨.list ((aL ls rows off).map .int), .fr⟩) o8 o9 o10 o11 o12 o13) := by
  rw [List.map_map]
  have pl := pl_at h10
  exact mLc_all PyData.int _ (aL ls rows off) (by simp [envK]) (by simp [plainAt, envK]; exact pl) (by rw [aL_len]; exact Pv.small (by omega)) fun x _ => by simp [envK]
theorem r_ik3 (hR : OkR ls.length rows) (h11 : ls.length ≤ 11) (p : PyData) (a x : Nat) (ha : a < x) (hx : x ≤ ls.length) (o3 o4 o5 o6 o7 o8 o9 o13 : Option SV) :
    c__law_are_clocks_right_2 (envK ls rows p o3 o4 o5 o6 o7 o8 o9 (sI (a : Nat)) (sI (x : Nat)) (some ⟨.tuple ((carsK ls rows a x).map .int), .fr⟩) o13) = .ok ⟨.list (((cutRg ls.length a x).map (roomK ls rows)).map .int), .ow⟩ (envK ls rows p o3 o4 o5 o6 o7 o8 o9 (sI (a : Nat)) (sI (x : Nat)) (some ⟨.tuple ((carsK ls rows a x).map .int), .fr⟩) o13) := by
  have hn := cutRg_len ls.length a x hx
  have cl := carsK_len ls rows a x hx
  have g : gRgL (a : Int) (x : Int) = some ⟨.list (rgD a (x - a)), .ow⟩ := by
    unfold gRgL
    have : rgOk (a : Int) (x : Int) = true := by
      unfold rgOk
      simp only [Bool.and_eq_true, decide_eq_true_eq]
      refine ⟨⟨⟨⟨by omega, by omega⟩, by omega⟩, by omega⟩, by omega⟩
    rw [if_pos this, show ((x : Int) - (a : Int)).toNat = x - a by omega]
  have l1 : (rgD (a : Int) (x - a)).length = x - a := rgD_length _ _
  have e : (mIt (mfz (mListZip (mIt (mfz (mRgV2 gRgL (mslot 10) (mslot 11)))) (mIt (mfz (mget 12)))))) (envK ls rows p o3 o4 o5 o6 o7 o8 o9 (sI (a : Nat)) (sI (x : Nat)) (some ⟨.tuple ((carsK ls rows a x).map .int), .fr⟩) o13) = .ok ((cutRg ls.length a x).map fun k => PyData.tuple [.int (k : Nat), .int (slk ls rows k).2]) (envK ls rows p o3 o4 o5 o6 o7 o8 o9 (sI (a : Nat)) (sI (x : Nat)) (some ⟨.tuple ((carsK ls rows a x).map .int), .fr⟩) o13) := by
    have z : zipD (rgD a (x - a)) ((carsK ls rows a x).map .int) = (cutRg ls.length a x).map fun k => PyData.tuple [.int (k : Nat), .int (slk ls rows k).2] := by
      apply List.ext_getElem?
      intro i
      by_cases hi : i < x - a
      · have g := cutRg_get hx hi
        unfold zipD carsK
        unfold rgD
        simp [List.getElem?_zipWith, List.getElem?_map, g, List.getElem?_range hi]
      · rw [List.getElem?_eq_none (by unfold zipD; rw [List.length_zipWith, l1]; omega), List.getElem?_eq_none (by rw [List.length_map]; omega)]
    rw [← z]
    have sm : min (rgD (a : Int) (x - a)).length (carsK ls rows a x).length ≤ sizeLine := by rw [l1, cl]; exact Pv.small (by omega)
    simp [envK, sI, g, sm]
  rw [List.map_map]
  refine mLc_all (fun k => PyData.tuple [.int (k : Nat), .int (slk ls rows k).2]) _ (cutRg ls.length a x) e (by simp [plainAt, envK]) (by rw [hn]; exact Pv.small (by omega)) fun k hk => ?_
  have hk' : k < ls.length := by
    unfold cutRg at hk
    exact List.mem_range.mp (List.mem_of_mem_drop (List.mem_of_mem_take hk))
  obtain ⟨_, c, h2, h3, h4⟩ := slk_room (ls := ls) hR.l1 k
  have hr := (rowN_ok hR h2).len
  have e0 : L2.atI (rows.map rwD) (c : Int) = some (rwD (rowN rows c)) := at_getL (rowN_some h2)
  have e1 := at_nth (ns := rowN rows c) (k := k) (by omega)
  have e2 := at_nth (ns := rowN rows c) (k := k + 1) (by omega)
  have e3 := at_nth (ns := ls) (k := k) hk'
  push_cast at e2
  simp [envK, rwsD, h3, e0, rwD, e1, e2, e3, h4]
include hL hR in
theorem r_ik4 (off : Int) (h0 : 0 ≤ off) (h1 : off ≤ 1000) (p : PyData) (o6 o7 o8 o9 o10 o11 o12 o13 : Option SV) (h10 : Pl o10) :
    ∃ o6' o7' o8' o9' o10' o11' o12' o13', u__law_are_clocks_right_2 (envK ls rows p (some ⟨.list ((roomsR ls rows).map .int), .fr⟩) (sI (hf (lack (roomsR ls rows)))) (sI off) o6 o7 o8 o9 o10 o11 o12 o13) = .ok .nx (envK ls rows p (some ⟨.list ((roomsR ls rows).map .int), .fr⟩) (sI (hf (lack (roomsR ls rows)))) (sI off) o6' o7' o8' o9' o10' o11' o12' o13') ∧ Pl o10' := by
  have h11 := hL.l2
  have ik1 := fun o4 o6 o8 o9 o10 o11 o12 o13 => r_ik1 ls rows h11 p off o4 o6 o8 o9 o10 o11 o12 o13
  generalize hO : (some ⟨.list ((roomsR ls rows).map .int), .fr⟩ : Option SV) = O at *
  generalize hN : sI (hf (lack (roomsR ls rows))) = N
  rcases e_cl ls rows off hL hR h0 h1 with ⟨q, e⟩ | ⟨q, a, x, ha, hx, hs, e⟩
  · have hn := aL_len ls rows off
    have hge : hf (lack (roomsR ls rows)) ≤ off := (hf_le _ _).mpr q
    have ok := (ah_ok (ls := ls) (rows := rows) h0).mpr q
    have okv : ∀ k, k ≤ ls.length → -off ≤ ahK ls rows off k ∧ ahK ls rows off k ≤ off := fun k hk => by
      refine ⟨?_, ahK_le ls rows off hk⟩
      cases k with
      | zero => rw [ahK_zero]; omega
      | succ k => have := ok k (by omega); omega
    have okd : ∀ k, k < ls.length → ahK ls rows off (k + 1) - ahK ls rows off k ≤ roomK ls rows k := fun k hk => by
      rw [ahK_step ls rows off hk]
      split <;> omega
    have memA : ∀ v ∈ aL ls rows off, ∃ k, k ≤ ls.length ∧ v = ahK ls rows off k := fun v hv => by
      unfold aL at hv
      obtain ⟨k, hk, rfl⟩ := List.mem_map.mp hv
      exact ⟨k, by have := List.mem_range.mp hk; omega, rfl⟩
    have c1 := e_sc_may ls rows off hL hR h0 h1 (aL ls rows off) hn
    rw [decide_eq_true ⟨fun v hv => by
        obtain ⟨k, hk, rfl⟩ := memA v hv
        exact okv k hk, fun k hk => by rw [aL_nth _ _ _ (by omega), aL_nth _ _ _ (by omega)]; exact okd k hk⟩] at c1
    have s4 : t__law_are_clocks_right_4 (envK ls rows p O N (sI off) o6 o7 o8 o9 o10 o11 o12 o13) = .ok .nx (envK ls rows p O N (sI off) (some ⟨mayD (aL ls rows off), .fr⟩) o7 o8 o9 o10 o11 o12 o13) := by
      simp [t__law_are_clocks_right_4, envK, sI, e]
    have s5 : t__law_are_clocks_right_5 (envK ls rows p O N (sI off) (some ⟨mayD (aL ls rows off), .fr⟩) o7 o8 o9 o10 o11 o12 o13) = .ok .nx (envK ls rows p O N (sI off) (some ⟨mayD (aL ls rows off), .fr⟩) o7 o8 o9 o10 o11 o12 o13) := by
      subst hN
      unfold mayD at c1 ⊢
      simp [t__law_are_clocks_right_5, envK, sI, at_head, hge, c1]
    have t : (mB (mOp2 (gEq false) (mval (mOp2 gIxS (mslot 6) (mval (pure (frv (.int 0)))))) (mval (pure (frv (.str "may")))))) (envK ls rows p O N (sI off) (some ⟨mayD (aL ls rows off), .fr⟩) o7 o8 o9 o10 o11 o12 o13) = .ok true (envK ls rows p O N (sI off) (some ⟨mayD (aL ls rows off), .fr⟩) o7 o8 o9 o10 o11 o12 o13) := by
      simp [envK, mayD, at_head]
    have s6 : t__law_are_clocks_right_6 (envK ls rows p O N (sI off) (some ⟨mayD (aL ls rows off), .fr⟩) o7 o8 o9 o10 o11 o12 o13) = .ok .nx (envK ls rows p O N (sI off) (some ⟨mayD (aL ls rows off), .fr⟩) (some ⟨.list [.int off], .ow⟩) o8 o9 o10 o11 o12 o13) := by
      simp [t__law_are_clocks_right_6, envK, sI]
    obtain ⟨o8', s7⟩ := ik1 N (some ⟨mayD (aL ls rows off), .fr⟩) o8 o9 o10 o11 o12 o13
    have s8 : t__law_are_clocks_right_7 (envK ls rows p O N (sI off) (some ⟨mayD (aL ls rows off), .fr⟩) (some ⟨.list ((aL ls rows off).map .int), .ow⟩) o8' o9 o10 o11 o12 o13) = .ok .nx (envK ls rows p O N (sI off) (some ⟨mayD (aL ls rows off), .fr⟩) (some ⟨.list ((aL ls rows off).map .int), .ow⟩) o8' o9 o10 o11 o12 o13) := by
      simp [t__law_are_clocks_right_7, envK, mayD, at_one]
    have c2 := r_ik2 ls rows h11 p off O N (sI off) (some ⟨mayD (aL ls rows off), .fr⟩) o8' o9 o10 o11 o12 o13 h10
    generalize hvs : (aL ls rows off).map (· - 1) = vs at c2
    have hv : vs.length = ls.length + 1 := by rw [← hvs, List.length_map, hn]
    have hvn : ∀ k, k ≤ ls.length → nth vs k = ahK ls rows off k - 1 := fun k hk => by
      rw [← hvs, nth_map (by omega), aL_nth _ _ _ hk]
    have memV : ∀ v ∈ vs, ∃ k, k ≤ ls.length ∧ v = ahK ls rows off k - 1 := fun v hv => by
      rw [← hvs] at hv
      obtain ⟨w, hw, rfl⟩ := List.mem_map.mp hv
      obtain ⟨k, hk, rfl⟩ := memA w hw
      exact ⟨k, hk, rfl⟩
    have s9 : t__law_are_clocks_right_8 (envK ls rows p O N (sI off) (some ⟨mayD (aL ls rows off), .fr⟩) (some ⟨.list ((aL ls rows off).map .int), .ow⟩) o8' o9 o10 o11 o12 o13) = .ok .nx (envK ls rows p O N (sI off) (some ⟨mayD (aL ls rows off), .fr⟩) (some ⟨.list ((aL ls rows off).map .int), .fr⟩) o8' (some ⟨.tuple (vs.map .int), .fr⟩) o10 o11 o12 o13) := by
      simp [t__law_are_clocks_right_8, c2]
      simp [envK]
    have c4 := e_sc_may ls rows off hL hR h0 h1 vs hv
    have hne : vs ≠ [] := fun z => by rw [z] at hv; simp at hv
    have bm := best_mnT hne
    have eb : decide ((∀ v ∈ vs, -off ≤ v ∧ v ≤ off) ∧ ∀ k, k < ls.length → nth vs (k + 1) - nth vs k ≤ roomK ls rows k) = decide (-off ≤ mnI vs) := by
      rw [decide_eq_decide]
      constructor
      · intro z
        exact (z.1 _ (mnI_mem hne)).1
      · intro z
        refine ⟨fun v hv => ?_, fun k hk => ?_⟩
        · have a := mnI_le hv
          obtain ⟨k, hk, rfl⟩ := memV v hv
          have b := okv k hk
          omega
        · have a := okd k hk
          rw [hvn k (by omega), hvn (k + 1) (by omega)]
          omega
    rw [eb] at c4
    have c5 := e_sc_list ls rows off hL hR h0 h1 (aL ls rows off)
    have s10 : t__law_are_clocks_right_9 (envK ls rows p O N (sI off) (some ⟨mayD (aL ls rows off), .fr⟩) (some ⟨.list ((aL ls rows off).map .int), .fr⟩) o8' (some ⟨.tuple (vs.map .int), .fr⟩) o10 o11 o12 o13) = .ok .nx (envK ls rows p O N (sI off) (some ⟨mayD (aL ls rows off), .fr⟩) (some ⟨.list ((aL ls rows off).map .int), .fr⟩) o8' (some ⟨.tuple (vs.map .int), .fr⟩) o10 o11 o12 o13) := by
      have c4' : fd_shows_clocks.g [.tuple (ls.map .int), rwsD rows, .int off, .tuple [.str "may", .tuple (vs.map .int)]] = .ok ⟨.bool (decide (-off ≤ mnI vs)), .fr⟩ [] := c4
      simp [t__law_are_clocks_right_9, envK, sI, c4', c5, bm]
    have s11 : t__law_are_clocks_right_13 (envK ls rows p O N (sI off) (some ⟨mayD (aL ls rows off), .fr⟩) o7 o8 o9 o10 o11 o12 o13) = .ok .nx (envK ls rows p O N (sI off) (some ⟨mayD (aL ls rows off), .fr⟩) (some ⟨.list ((aL ls rows off).map .int), .fr⟩) o8' (some ⟨.tuple (vs.map .int), .fr⟩) o10 o11 o12 o13) := by
      rw [t__law_are_clocks_right_13, mIfS_t t, mSeq_nx s6, mSeq_nx s7, mSeq_nx s8, mSeq_nx s9, s10]
    exact ⟨_, _, _, _, _, _, _, _, by rw [u__law_are_clocks_right_2, mSeq_nx s4, mSeq_nx s5, s11], h10⟩
  · have c1 := e_sc_sur ls rows off hL hR h0 h1 a x ha hx
    rw [decide_eq_true hs] at c1
    have hge : ¬hf (lack (roomsR ls rows)) ≤ off := fun z => q ((hf_le _ _).mp z)
    have cl := carsK_len ls rows a x hx
    have s4 : t__law_are_clocks_right_4 (envK ls rows p O N (sI off) o6 o7 o8 o9 o10 o11 o12 o13) = .ok .nx (envK ls rows p O N (sI off) (some ⟨surC a x (carsK ls rows a x), .fr⟩) o7 o8 o9 o10 o11 o12 o13) := by
      simp [t__law_are_clocks_right_4, envK, sI, e]
    have s5 : t__law_are_clocks_right_5 (envK ls rows p O N (sI off) (some ⟨surC a x (carsK ls rows a x), .fr⟩) o7 o8 o9 o10 o11 o12 o13) = .ok .nx (envK ls rows p O N (sI off) (some ⟨surC a x (carsK ls rows a x), .fr⟩) o7 o8 o9 o10 o11 o12 o13) := by
      subst hN
      unfold surC at c1 ⊢
      simp [t__law_are_clocks_right_5, envK, sI, at_head, hge, c1]
    have t : (mB (mOp2 (gEq false) (mval (mOp2 gIxS (mslot 6) (mval (pure (frv (.int 0)))))) (mval (pure (frv (.str "may")))))) (envK ls rows p O N (sI off) (some ⟨surC a x (carsK ls rows a x), .fr⟩) o7 o8 o9 o10 o11 o12 o13) = .ok false (envK ls rows p O N (sI off) (some ⟨surC a x (carsK ls rows a x), .fr⟩) o7 o8 o9 o10 o11 o12 o13) := by
      simp [envK, surC, at_head]
    let C : Option SV := some ⟨.tuple ((carsK ls rows a x).map .int), .fr⟩
    have s6 : t__law_are_clocks_right_10 (envK ls rows p O N (sI off) (some ⟨surC a x (carsK ls rows a x), .fr⟩) o7 o8 o9 o10 o11 o12 o13) = .ok .nx (envK ls rows p O N (sI off) (some ⟨surC a x (carsK ls rows a x), .fr⟩) o7 o8 o9 (sI (a : Nat)) (sI (x : Nat)) C o13) := by
      simp [t__law_are_clocks_right_10, envK, surC, cut1, sI, C]
    have c2 := r_ik3 ls rows hR h11 p a x ha hx O N (sI off) (some ⟨surC a x (carsK ls rows a x), .fr⟩) o7 o8 o9 o13
    have s := gSum_list ((cutRg ls.length a x).map (roomK ls rows))
    rw [seg_cut] at s
    have s7 : t__law_are_clocks_right_11 (envK ls rows p O N (sI off) (some ⟨surC a x (carsK ls rows a x), .fr⟩) o7 o8 o9 (sI (a : Nat)) (sI (x : Nat)) C o13) = .ok .nx (envK ls rows p O N (sI off) (some ⟨surC a x (carsK ls rows a x), .fr⟩) o7 o8 o9 (sI (a : Nat)) (sI (x : Nat)) C (sI (seg (roomsR ls rows) a x))) := by
      simp only [envK] at c2
      simp [t__law_are_clocks_right_11, envK, C, c2, s, -List.map_map, -gSum_list]
      simp [sI]
    have n1 : ¬-2 * off ≤ seg (roomsR ls rows) a x := by omega
    have n2 : ((carsK ls rows a x).length : Int) = (x : Int) - a := by rw [cl]; omega
    have s8 : t__law_are_clocks_right_12 (envK ls rows p O N (sI off) (some ⟨surC a x (carsK ls rows a x), .fr⟩) o7 o8 o9 (sI (a : Nat)) (sI (x : Nat)) C (sI (seg (roomsR ls rows) a x))) = .ok .nx (envK ls rows p O N (sI off) (some ⟨surC a x (carsK ls rows a x), .fr⟩) o7 o8 o9 (sI (a : Nat)) (sI (x : Nat)) C (sI (seg (roomsR ls rows) a x))) := by
      simp [t__law_are_clocks_right_12, envK, sI, C, ha, n1, n2]
    have s9 : t__law_are_clocks_right_13 (envK ls rows p O N (sI off) (some ⟨surC a x (carsK ls rows a x), .fr⟩) o7 o8 o9 o10 o11 o12 o13) = .ok .nx (envK ls rows p O N (sI off) (some ⟨surC a x (carsK ls rows a x), .fr⟩) o7 o8 o9 (sI (a : Nat)) (sI (x : Nat)) C (sI (seg (roomsR ls rows) a x))) := by
      rw [t__law_are_clocks_right_13, mIfS_f t, mSeq_nx s6, mSeq_nx s7, s8]
    have fin : u__law_are_clocks_right_2 (envK ls rows p O N (sI off) o6 o7 o8 o9 o10 o11 o12 o13) = .ok .nx (envK ls rows p O N (sI off) (some ⟨surC a x (carsK ls rows a x), .fr⟩) o7 o8 o9 (sI (a : Nat)) (sI (x : Nat)) C (sI (seg (roomsR ls rows) a x))) := by
      rw [u__law_are_clocks_right_2, mSeq_nx s4, mSeq_nx s5, s9]
    have pl : Pl (sI (a : Nat)) := .inr ⟨.int (a : Nat), rfl⟩
    exact ⟨_, _, _, _, _, _, _, _, fin, pl⟩
end
end Lw

set_option maxRecDepth 100000
/-! k10: the law's own: the clocks, the end. -/
namespace Lw
open PySem PySem.Spec L2 Pv
theorem cut_last {α : Type} (ns : List α) : cutD ns none (some (-1)) = ns.dropLast := by
  unfold cutD
  rw [HT.sIx_none]
  have e : HT.sIx ns.length ns.length (some (-1)) = ns.length - 1 := by
    unfold HT.sIx
    simp
    omega
  rw [e, List.drop_zero, Nat.sub_zero, List.dropLast_eq_take]
theorem mnI_ext {xs ys : List Int} (h : ∀ x, x ∈ xs ↔ x ∈ ys) : mnI xs = mnI ys := by
  by_cases q : xs = []
  · subst q
    have : ys = [] := by
      cases ys with
      | nil => rfl
      | cons y ys => exact absurd ((h y).mpr List.mem_cons_self) (by simp)
    rw [this]
  · refine mnI_eq ((h _).mpr (mnI_mem fun z => q ?_)) fun x hx => mnI_le ((h x).mp hx)
    subst z
    cases xs with
    | nil => rfl
    | cons y xs => exact absurd ((h y).mp List.mem_cons_self) (by simp)
theorem roomsR_rev (ls : List Int) (rows : List (List Int)) : roomsR ls rows.reverse = roomsR ls rows := by
  unfold roomsR
  refine List.map_congr_left fun k _ => ?_
  unfold roomK
  congr 1
  refine mnI_ext fun x => ?_
  simp [List.mem_map]
theorem roomsR_drop {ls : List Int} {rows : List (List Int)} (h : rows.dropLast ≠ []) : lack (roomsR ls rows.dropLast) ≤ lack (roomsR ls rows) := by
  refine lack_mono (by rw [roomsR_length, roomsR_length]) fun k hk => ?_
  rw [roomsR_length] at hk
  rw [roomsR_nth hk, roomsR_nth hk]
  unfold roomK
  have m : mnI (rows.dropLast.map fun r => nth r (k + 1) - nth r k) ∈ rows.dropLast.map fun r => nth r (k + 1) - nth r k := mnI_mem fun z => h (List.map_eq_nil_iff.mp z)
  obtain ⟨r, hr, e⟩ := List.mem_map.mp m
  have := mnI_le (List.mem_map.mpr ⟨r, List.dropLast_subset _ hr, rfl⟩ : (nth r (k + 1) - nth r k) ∈ rows.map fun r => nth r (k + 1) - nth r k)
  omega
theorem roomsR_each {ls : List Int} {rows : List (List Int)} {r : List Int} (hr : r ∈ rows) (hl : r.length = ls.length + 1) : lack (rooms1 ls r) ≤ lack (roomsR ls rows) := by
  refine lack_mono (by rw [roomsR_length, rooms1_length _ _ hl]) fun k hk => ?_
  rw [rooms1_length _ _ hl] at hk
  rw [roomsR_nth hk, rooms1_nth hl hk]
  unfold roomK
  have := mnI_le (List.mem_map.mpr ⟨r, hr, rfl⟩ : (nth r (k + 1) - nth r k) ∈ rows.map fun r => nth r (k + 1) - nth r k)
  omega
section
variable (ls : List Int) (rows : List (List Int)) (hL : OkL ls) (hR : OkR ls.length rows)
include hR in
theorem drop_ok (h : 1 < rows.length) : OkR ls.length rows.dropLast := ⟨by rw [List.length_dropLast]; omega, by rw [List.length_dropLast]; have := hR.l2; omega, fun r hr => hR.ok r (List.dropLast_subset _ hr)⟩
include hR in
theorem revR_ok : OkR ls.length rows.reverse := ⟨by rw [List.length_reverse]; exact hR.l1, by rw [List.length_reverse]; exact hR.l2, fun r hr => hR.ok r (List.mem_reverse.mp hr)⟩
include hL hR in
theorem r_iq1 (p : PyData) (os : List Int) (hos : ∀ o ∈ os, 0 ≤ o ∧ o ≤ 1000) (o5 o6 o7 o8 o9 o10 o11 o12 o13 : Option SV) (h10 : Pl o10) :
    ∃ o5' o6' o7' o8' o9' o10' o11' o12' o13', forL (putS 5) u__law_are_clocks_right_2 (os.map .int) (envK ls rows p (some ⟨.list ((roomsR ls rows).map .int), .fr⟩) (sI (hf (lack (roomsR ls rows)))) o5 o6 o7 o8 o9 o10 o11 o12 o13) = .ok .nx (envK ls rows p (some ⟨.list ((roomsR ls rows).map .int), .fr⟩) (sI (hf (lack (roomsR ls rows)))) o5' o6' o7' o8' o9' o10' o11' o12' o13') := by
  have ik := fun off h0 h1 => r_ik4 ls rows hL hR off h0 h1 p
  generalize (some ⟨.list ((roomsR ls rows).map .int), .fr⟩ : Option SV) = O at *
  generalize sI (hf (lack (roomsR ls rows))) = N at *
  obtain ⟨ρ', e2, o5', o6', o7', o8', o9', o10', o11', o12', o13', e3, _⟩ := forL_inv (ft := putS 5) (fb := u__law_are_clocks_right_2) (fun j ρ => ∃ o5 o6 o7 o8 o9 o10 o11 o12 o13, ρ = envK ls rows p O N o5 o6 o7 o8 o9 o10 o11 o12 o13 ∧ Pl o10) (os.map .int) 0 (envK ls rows p O N o5 o6 o7 o8 o9 o10 o11 o12 o13) ⟨_, _, _, _, _, _, _, _, _, rfl, h10⟩ fun j d ρ hd hI => by
    obtain ⟨o5, o6, o7, o8, o9, o10, o11, o12, o13, rfl, h10⟩ := hI
    obtain ⟨off, ho, rfl⟩ := List.mem_map.mp (List.mem_of_getElem? hd)
    have h := hos off ho
    obtain ⟨o6', o7', o8', o9', o10', o11', o12', o13', z, h10'⟩ := ik off h.1 h.2 o6 o7 o8 o9 o10 o11 o12 o13 h10
    have p0 : putS 5 (.int off) (envK ls rows p O N o5 o6 o7 o8 o9 o10 o11 o12 o13) = .ok () (envK ls rows p O N (sI off) o6 o7 o8 o9 o10 o11 o12 o13) := by simp [envK, sI]
    exact ⟨.nx, _, .inl rfl, by rw [bind_run, p0, to_ok, z], _, _, _, _, _, _, _, _, _, rfl, h10'⟩
  exact ⟨o5', o6', o7', o8', o9', o10', o11', o12', o13', by rw [e2, e3]⟩
include hL hR in
theorem e__law_are_clocks_right {m : Nat} {p : PyData} (hp : Pot m p) (hm : m ≤ 5000) (h1 : hf (lack (roomsR ls rows)) ≤ 1000) :
    ∃ p', fd__law_are_clocks_right.g [p, .tuple (ls.map .int), rwsD rows] = .ok ⟨.bool true, .fr⟩ [p'] ∧ Pot (m + 1) p' := by
  have h11 := hL.l2
  have h20 := hR.l2
  have h0 := hf_nn (roomsR ls rows)
  rw [g__law_are_clocks_right]
  have r : fd__law_rooms.g [.tuple (ls.map .int), rwsD rows] = _ := e__law_roomsG ls rows h11 hR PyData.tuple rfl
  have lo := e_least_clocks ls rows hL hR
  have lr := e_least_clocks ls rows.reverse hL (revR_ok ls rows hR)
  rw [roomsR_rev] at lr
  have ld := fun h => e_least_clocks ls rows.dropLast hL (drop_ok ls rows hR h)
  have dn : 1 < rows.length → ¬hf (lack (roomsR ls rows)) < hf (lack (roomsR ls rows.dropLast)) := fun h => by
    have := roomsR_drop (ls := ls) (rows := rows) (fun z => by
      have := congrArg List.length z
      rw [List.length_dropLast] at this
      simp at this
      omega)
    unfold hf
    omega
  obtain ⟨t, p1, e, t0, t1, hp1⟩ := e__law_take hp 5 (by omega) (by omega) (by omega)
  have hh := e__law_half (lack (roomsR ls rows))
  have iq := r_iq1 ls rows hL hR p1
  have mxr : mxI (rows.map fun r => hf (lack (rooms1 ls r))) ≤ hf (lack (roomsR ls rows)) := by
    have hne : rows.map (fun r => hf (lack (rooms1 ls r))) ≠ [] := fun z => by
      have q := hR.l1
      rw [List.map_eq_nil_iff.mp z] at q
      exact absurd q (by simp)
    obtain ⟨r, hr, e⟩ := List.mem_map.mp (mxI_mem hne)
    rw [← e]
    have := roomsR_each hr (hR.ok r hr).len
    unfold hf
    omega
  generalize hf (lack (roomsR ls rows)) = N at *
  have s1 : t__law_are_clocks_right_1 (envK ls rows p none none none none none none none none none none none) = .ok .nx (envK ls rows p (some ⟨.list ((roomsR ls rows).map .int), .ow⟩) none none none none none none none none none none) := by
    simp [t__law_are_clocks_right_1, envK, r]
  have s2 : t__law_are_clocks_right_2 (envK ls rows p (some ⟨.list ((roomsR ls rows).map .int), .ow⟩) none none none none none none none none none none) = .ok .nx (envK ls rows p (some ⟨.list ((roomsR ls rows).map .int), .fr⟩) (sI N) none none none none none none none none none) := by
    simp [t__law_are_clocks_right_2, envK, hh, sI, -e__law_half]
  have s3 : t__law_are_clocks_right_3 (envK ls rows p (some ⟨.list ((roomsR ls rows).map .int), .fr⟩) (sI N) none none none none none none none none none) = .ok .nx (envK ls rows p (some ⟨.list ((roomsR ls rows).map .int), .fr⟩) (sI N) none none none none none none none none none) := by
    simp [t__law_are_clocks_right_3, envK, sI, lo]
  obtain ⟨x1, hx1⟩ : ∃ x, x = (if 0 < N - 1 then N - 1 else 0) := ⟨_, rfl⟩
  obtain ⟨x3, hx3⟩ : ∃ x, x = (if N + t < 1000 then N + t else 1000) := ⟨_, rfl⟩
  have b1 : 0 ≤ x1 ∧ x1 ≤ 1000 := by rw [hx1]; split <;> omega
  have b3 : 0 ≤ x3 ∧ x3 ≤ 1000 := by rw [hx3]; split <;> omega
  have src : ∀ o3 : Option SV, (mIt (mfz (mTup (mcons (mfz (pure (frv (.int 0)))) (mcons (mfz (mCall (gI2 fun i j => if j > i then j else i) (mcons (mval (pure (frv (.int 0)))) (mcons (mval (mOp2 gSub (mslot 4) (mval (pure (frv (.int 1)))))) mnil)))) (mcons (mfz (mget 4)) (mcons (mfz (mCall (gI2 fun i j => if j < i then j else i) (mcons (mval (pure (frv (.int 1000)))) (mcons (mval (mOp2 gAdd (mslot 4) (mval (mCall gInt1 (mcons (mval (mCallF fd__law_take (mcons (mArgI 0) (mcons (mArgF (mfz (pure (frv (.int 5))))) mnil)))) mnil))))) mnil)))) mnil))))))) (envK ls rows p o3 (sI N) none none none none none none none none none) = .ok ([0, x1, N, x3].map .int) (envK ls rows p1 o3 (sI N) none none none none none none none none none) := by
    intro o3
    rw [hx1, hx3]
    simp [envK, sI, e]
  obtain ⟨o5, o6, o7, o8, o9, o10, o11, o12, o13, s4⟩ := iq [0, x1, N, x3] (fun o ho => by
    simp only [List.mem_cons, List.not_mem_nil, or_false] at ho
    rcases ho with rfl | rfl | rfl | rfl
    · omega
    · exact b1
    · omega
    · exact b3) none none none none none none none none none (.inl rfl)
  generalize (some ⟨.list ((roomsR ls rows).map .int), .fr⟩ : Option SV) = O at *
  have s5 : l__law_are_clocks_right_2 (envK ls rows p O (sI N) none none none none none none none none none) = .ok .nx (envK ls rows p1 O (sI N) o5 o6 o7 o8 o9 o10 o11 o12 o13) := by
    unfold l__law_are_clocks_right_2
    rw [mFor_e, bind_run, src, to_ok, s4]
  have kd : cutD (rows.map rwD) none (some (-1)) = rows.dropLast.map rwD := by rw [cutD_map, cut_last]
  have s6 : t__law_are_clocks_right_14 (envK ls rows p1 O (sI N) o5 o6 o7 o8 o9 o10 o11 o12 o13) = .ok .nx (envK ls rows p1 O (sI N) o5 o6 o7 o8 o9 o10 o11 o12 o13) := by
    by_cases h : 1 < rows.length
    · have hI : (1 : Int) < rows.length := by omega
      have ld' := ld h
      have dn' := dn h
      have g : gSl (rwsD rows) none (some (-1)) = some ⟨rwsD rows.dropLast, .fr⟩ := by unfold rwsD; rw [gSl_tuple, kd]
      have gl : gLen [rwsD rows] = some ⟨.int rows.length, .fr⟩ := by unfold rwsD; rw [gLen_tuple, List.length_map]
      simp [t__law_are_clocks_right_14, envK, sI, g, gl, ld', dn', hI]
    · have hI : ¬(1 : Int) < rows.length := by omega
      have gl : gLen [rwsD rows] = some ⟨.int rows.length, .fr⟩ := by unfold rwsD; rw [gLen_tuple, List.length_map]
      simp [t__law_are_clocks_right_14, envK, sI, gl, hI]
  have c3 : c__law_are_clocks_right_3 (envK ls rows p1 O (sI N) o5 o6 o7 o8 o9 o10 o11 o12 o13) = .ok ⟨.list ((rows.map fun r => hf (lack (rooms1 ls r))).map .int), .ow⟩ (envK ls rows p1 O (sI N) o5 o6 o7 o8 o9 o10 o11 o12 o13) := by
    rw [List.map_map]
    refine mLc_all rwD _ rows (by simp [envK, rwsD]) (by simp [plainAt, envK]) (Pv.small (by omega)) fun r hr => ?_
    have c := e_least_off ls r hL (hR.ok r hr)
    simp [envK, rwD, c]
  have gr : gRev (rwsD rows) = some ⟨rwsD rows.reverse, .fr⟩ := by
    unfold rwsD
    rw [List.map_reverse]; rfl
  have bm := best_mx (ns := rows.map fun r => hf (lack (rooms1 ls r))) (fun z => by
      have q := hR.l1
      rw [List.map_eq_nil_iff.mp z] at q
      exact absurd q (by simp))
  have s7 : t__law_are_clocks_right_15 (envK ls rows p1 O (sI N) o5 o6 o7 o8 o9 o10 o11 o12 o13) = .ok (.rt ⟨.bool true, .fr⟩) (envK ls rows p1 O (sI N) o5 o6 o7 o8 o9 o10 o11 o12 o13) := by
    simp only [envK, sI] at c3
    simp [t__law_are_clocks_right_15, envK, sI, gr, lr, c3, bm, mxr, -List.map_map]
  refine ⟨p1, ?_, hp1⟩
  show Rf.of _ (b__law_are_clocks_right (envK ls rows p none none none none none none none none none none none)) = _
  rw [b__law_are_clocks_right, mSeq_nx s1, mSeq_nx s2, mSeq_nx s3, mSeq_nx s5, mSeq_nx s6, s7]
  simp [envK]
end
end Lw

set_option maxRecDepth 100000
/-! k10: the law's own: is the speed right? -/
namespace Lw
open PySem PySem.Spec L2 Pv
theorem sh_eq (n : Bool) (a b c d : Int) : gEq n (.tuple [shD a b, shD c d]) (.tuple [shD a b, shD c d]) = some ⟨.bool (if n then false else true), .fr⟩ := by
  refine gEq_self n ?_ ?_
  · unfold shD
    split <;> split <;> simp [SeqAt.shaped, PyData.canLay0, PyData.canLayAll0, PyData.depth, PyData.depthAll]
  · unfold shD
    split <;> split <;> simp [PyData.eqv, PyData.eqvAll]
section
variable (ls ss : List Int) (hL : OkL ls) (hS : OkS ls.length ss)
def envV (p : PyData) (off : Int) (o4 o5 o6 o7 o8 o9 o10 o11 o12 o13 o14 : Option SV) : PEnv := [some ⟨p, .ow⟩, some ⟨.tuple (ls.map .int), .fr⟩, some ⟨.tuple (ss.map .int), .fr⟩, sI off, o4, o5, o6, o7, o8, o9, o10, o11, o12, o13, o14]
theorem r_sp1 (p : PyData) (off far u : Int) (f0 : 0 ≤ far) (f1 : far < 10000000) (u1 : u < 1000000) (ds : List PyData) (hds : ds.length ≤ 10) (o4 o5 o7 o9 o10 o11 o12 o13 o14 : Option SV) :
    ∃ o10', (putS 9 (.int u) >>= fun _ => u__law_is_speed_right_1) (envV ls ss p off o4 o5 (sI far) o7 (some ⟨.list ds, .ow⟩) o9 o10 o11 o12 o13 o14) = .ok .nx (envV ls ss p off o4 o5 (sI far) o7 (some ⟨.list (ds ++ [shD far u]), .ow⟩) (sI u) o10' o11 o12 o13 o14) := by
  have p0 : putS 9 (.int u) (envV ls ss p off o4 o5 (sI far) o7 (some ⟨.list ds, .ow⟩) o9 o10 o11 o12 o13 o14) = .ok () (envV ls ss p off o4 o5 (sI far) o7 (some ⟨.list ds, .ow⟩) (sI u) o10 o11 o12 o13 o14) := by simp [envV, sI]
  by_cases q : 0 < u
  · have g := e__law_gcd far u f0 q u1
    have ep := eu_pos u.toNat far u f0 (by omega) (.inr q) (by omega)
    have d1 : CDivW far (eu u.toNat far u) := cdiv_small ep.1 (by omega)
    have d2 : CDivW u (eu u.toNat far u) := cdiv_small ep.1 (by omega)
    have es : shD far u = .tuple [.int (far / eu u.toNat far u), .int (u / eu u.toNat far u)] := by
      unfold shD
      rw [if_neg (by omega)]
    rw [es]
    generalize eu u.toNat far u = w at *
    have s5 : t__law_is_speed_right_5 (envV ls ss p off o4 o5 (sI far) o7 (some ⟨.list ds, .ow⟩) (sI u) o10 o11 o12 o13 o14) = .ok .nx (envV ls ss p off o4 o5 (sI far) o7 (some ⟨.list ds, .ow⟩) (sI u) (sI w) o11 o12 o13 o14) := by
      simp [t__law_is_speed_right_5, envV, sI, q, g]
    have a : (mfz (mIte (mB (mOp2 gGtA (mslot 9) (mval (pure (frv (.int 0)))))) (mTup (mcons (mfz (mOp2 gDiv (mslot 6) (mslot 10))) (mcons (mfz (mOp2 gDiv (mslot 9) (mslot 10))) mnil))) (pure (frv .none)))) (envV ls ss p off o4 o5 (sI far) o7 (some ⟨.list ds, .ow⟩) (sI u) (sI w) o11 o12 o13 o14) = .ok (.tuple [.int (far / w), .int (u / w)]) (envV ls ss p off o4 o5 (sI far) o7 (some ⟨.list ds, .ow⟩) (sI u) (sI w) o11 o12 o13 o14) := by
      simp [envV, sI, q, d1, d2]
    refine ⟨sI w, ?_⟩
    rw [bind_run, p0, to_ok, u__law_is_speed_right_1, mSeq_nx s5, t__law_is_speed_right_6, mAppend_run (i := 8) rfl a rfl (smallT (by omega))]
    rfl
  · have es : shD far u = .none := by
      unfold shD
      rw [if_pos (by omega)]
    rw [es]
    have s5 : t__law_is_speed_right_5 (envV ls ss p off o4 o5 (sI far) o7 (some ⟨.list ds, .ow⟩) (sI u) o10 o11 o12 o13 o14) = .ok .nx (envV ls ss p off o4 o5 (sI far) o7 (some ⟨.list ds, .ow⟩) (sI u) (sI 1) o11 o12 o13 o14) := by
      simp [t__law_is_speed_right_5, envV, sI, q]
    have a : (mfz (mIte (mB (mOp2 gGtA (mslot 9) (mval (pure (frv (.int 0)))))) (mTup (mcons (mfz (mOp2 gDiv (mslot 6) (mslot 10))) (mcons (mfz (mOp2 gDiv (mslot 9) (mslot 10))) mnil))) (pure (frv .none)))) (envV ls ss p off o4 o5 (sI far) o7 (some ⟨.list ds, .ow⟩) (sI u) (sI 1) o11 o12 o13 o14) = .ok .none (envV ls ss p off o4 o5 (sI far) o7 (some ⟨.list ds, .ow⟩) (sI u) (sI 1) o11 o12 o13 o14) := by
      simp [envV, sI, q]
    refine ⟨sI 1, ?_⟩
    rw [bind_run, p0, to_ok, u__law_is_speed_right_1, mSeq_nx s5, t__law_is_speed_right_6, mAppend_run (i := 8) rfl a rfl (smallT (by omega))]
    rfl
theorem r_sp2 (hl : ss.length = ls.length + 1) (h11 : ls.length ≤ 11) (off lim : Int) (hm0 : 0 ≤ lim) (hm : lim ≤ 100000) (i : Nat) (hi : i < ls.length + 1) (p : PyData) (o4 o5 o6 o7 o8 o9 o10 o14 : Option SV) :
    ∃ o14', l__law_is_speed_right_2 (envV ls ss p off o4 o5 o6 o7 o8 o9 o10 (sI lim) (some ⟨.list ((ovI (fast ls ss off lim) ls.length i).map prD), .ow⟩) (sI (i : Nat)) o14) = .ok .nx (envV ls ss p off o4 o5 o6 o7 o8 o9 o10 (sI lim) (some ⟨.list ((ovI (fast ls ss off lim) ls.length (i + 1)).map prD), .ow⟩) (sI (i : Nat)) o14') := by
  have r := rg2_int (i + 1) (ls.length + 1) (by omega) (by omega)
  let E (ps : List (Int × Int)) (o14 : Option SV) : PEnv := envV ls ss p off o4 o5 o6 o7 o8 o9 o10 (sI lim) (some ⟨.list (ps.map prD), .ow⟩) (sI (i : Nat)) o14
  have e : (mRg rg2 (mcons (mval (mOp2 gAdd (mslot 13) (mval (pure (frv (.int 1)))))) (mcons (mval (mCall gLen (mcons (mslot 2) mnil))) mnil))) (E (ovI (fast ls ss off lim) ls.length i) o14) = .ok (rgD ((i + 1 : Nat) : Int) (ls.length + 1 - (i + 1))) (E (ovI (fast ls ss off lim) ls.length i) o14) := by
    push_cast at r ⊢
    simp [E, envV, sI, hl, r]
  obtain ⟨ρ', e2, o14', e3⟩ := forL_inv (ft := putS 14) (fb := u__law_is_speed_right_2) (fun j ρ => ∃ o14, ρ = E (ovI (fast ls ss off lim) ls.length i ++ inn (fast ls ss off lim) i j) o14) (rgD ((i + 1 : Nat) : Int) (ls.length + 1 - (i + 1))) 0 (E (ovI (fast ls ss off lim) ls.length i) o14) ⟨o14, by simp [inn]⟩ fun j d ρ hd hI => by
    obtain ⟨o14, rfl⟩ := hI
    obtain ⟨hj, rfl⟩ := rgD_get hd
    rw [Nat.zero_add]
    have hx : i + 1 + j ≤ ls.length := by omega
    have e1 := at_nth (ns := ss) (k := i) (by omega)
    have e2 := at_nth (ns := ss) (k := i + 1 + j) (by omega)
    have e3 : cutD (ls.map PyData.int) (some (i : Int)) (some ((i + 1 + j : Nat) : Int)) = (cutD ls (some (i : Int)) (some ((i + 1 + j : Nat) : Int))).map .int := cutD_map _ _ _ _
    have e4 := gSum_tuple (cutD ls (some (i : Int)) (some ((i + 1 + j : Nat) : Int)))
    rw [cut_seg (by omega) hx] at e4
    have hc : (((i + 1 : Nat) : Int) + (j : Nat)) = ((i + 1 + j : Nat) : Int) := by push_cast; rfl
    rw [hc]
    generalize hps : ovI (fast ls ss off lim) ls.length i ++ inn (fast ls ss off lim) i j = ps
    have sm := ovI_small (c := fast ls ss off lim) (n := ls.length) (i := i) h11 (by omega) j (by omega)
    rw [hps] at sm
    have p0 : putS 14 (.int ((i + 1 + j : Nat) : Int)) (E ps o14) = .ok () (E ps (sI ((i + 1 + j : Nat) : Int))) := by simp [E, envV, sI]
    have cm : CMulA lim (nth ss (i + 1 + j) - nth ss i + 2 * off) := cmul_l (by omega) (by omega)
    have t : (mB (mOp2 gGtA (mval (mCall gSum (mcons (mval (mSl (mslot 1) (some (mslot 13)) (some (mslot 14)))) mnil))) (mval (mOp2 gMul (mslot 11) (mval (mOp2 gAdd (mval (mOp2 gSub (mval (mOp2 gIxS (mslot 2) (mslot 14))) (mval (mOp2 gIxS (mslot 2) (mslot 13))))) (mval (mOp2 gMul (mval (pure (frv (.int 2)))) (mslot 3))))))))) (E ps (sI ((i + 1 + j : Nat) : Int))) = .ok (fast ls ss off lim i (i + 1 + j)) (E ps (sI ((i + 1 + j : Nat) : Int))) := by
      generalize hxx : i + 1 + j = x at *
      simp [E, envV, sI, e1, e2, e3, e4, cm, fast, -gSum_tuple]
    refine ⟨.nx, E (ovI (fast ls ss off lim) ls.length i ++ inn (fast ls ss off lim) i (j + 1)) (sI ((i + 1 + j : Nat) : Int)), .inl rfl, ?_, _, rfl⟩
    rw [bind_run, p0, to_ok, u__law_is_speed_right_2, inn_succ, ← List.append_assoc, hps]
    by_cases q : fast ls ss off lim i (i + 1 + j) = true
    · rw [q] at t
      have a : (mfz (mTup (mcons (mfz (mCall gInt1 (mcons (mslot 13) mnil))) (mcons (mfz (mCall gInt1 (mcons (mslot 14) mnil))) mnil)))) (E ps (sI ((i + 1 + j : Nat) : Int))) = .ok (prD ((i : Nat), ((i + 1 + j : Nat) : Int))) (E ps (sI ((i + 1 + j : Nat) : Int))) := by
        simp [E, envV, sI, prD]
      rw [mIfS_t t, mAppend_run (i := 12) rfl a rfl (by rw [List.length_map]; exact smallT (by omega)), if_pos q]
      simp [E, envV]
    · have qf : fast ls ss off lim i (i + 1 + j) = false := by simpa using q
      rw [qf] at t
      rw [mIfS_f t, if_neg q, List.append_nil]
      rfl
  refine ⟨o14', ?_⟩
  unfold l__law_is_speed_right_2
  show mFor _ _ _ (E _ _) = _
  rw [mFor_e, bind_run, e, to_ok, e2, e3, rgD_length, Nat.zero_add, show ls.length + 1 - (i + 1) = ls.length - i by omega]
  rfl
theorem r_sp3 (hl : ss.length = ls.length + 1) (h11 : ls.length ≤ 11) (off lim : Int) (hm0 : 0 ≤ lim) (hm : lim ≤ 100000) (p : PyData) (o4 o5 o6 o7 o8 o9 o10 o13 o14 : Option SV) :
    ∃ o13' o14', l__law_is_speed_right_3 (envV ls ss p off o4 o5 o6 o7 o8 o9 o10 (sI lim) (some ⟨.list [], .ow⟩) o13 o14) = .ok .nx (envV ls ss p off o4 o5 o6 o7 o8 o9 o10 (sI lim) (some ⟨.list ((ovI (fast ls ss off lim) ls.length (ls.length + 1)).map prD), .ow⟩) o13' o14') := by
  let E (ps : List (Int × Int)) (o13 o14 : Option SV) : PEnv := envV ls ss p off o4 o5 o6 o7 o8 o9 o10 (sI lim) (some ⟨.list (ps.map prD), .ow⟩) o13 o14
  have e : (mRg rg1 (mcons (mval (mCall gLen (mcons (mslot 2) mnil))) mnil)) (E [] o13 o14) = .ok (rgD 0 (ls.length + 1)) (E [] o13 o14) := by
    have := rg1_int (ls.length + 1) (by omega)
    push_cast at this
    simp [E, envV, hl, this]
  obtain ⟨ρ', e2, o13', o14', e3⟩ := forL_inv (ft := putS 13) (fb := u__law_is_speed_right_3) (fun j ρ => ∃ o13 o14, ρ = E (ovI (fast ls ss off lim) ls.length j) o13 o14) (rgD 0 (ls.length + 1)) 0 (E [] o13 o14) ⟨_, _, rfl⟩ fun j d ρ hd hI => by
    obtain ⟨o13, o14, rfl⟩ := hI
    obtain ⟨hj, rfl⟩ := rgD_get hd
    rw [Nat.zero_add, Int.zero_add]
    obtain ⟨o14', z⟩ := r_sp2 ls ss hl h11 off lim hm0 hm j hj p o4 o5 o6 o7 o8 o9 o10 o14
    have p0 : putS 13 (.int (j : Nat)) (E (ovI (fast ls ss off lim) ls.length j) o13 o14) = .ok () (E (ovI (fast ls ss off lim) ls.length j) (sI (j : Nat)) o14) := by simp [E, envV, sI]
    refine ⟨.nx, E (ovI (fast ls ss off lim) ls.length (j + 1)) (sI (j : Nat)) o14', .inl rfl, ?_, _, _, rfl⟩
    rw [bind_run, p0, to_ok, u__law_is_speed_right_3]
    exact z
  refine ⟨o13', o14', ?_⟩
  unfold l__law_is_speed_right_3
  show mFor _ _ _ (E [] _ _) = _
  rw [mFor_e, bind_run, e, to_ok, e2, e3, rgD_length, Nat.zero_add]
include hL hS in
theorem e__law_is_speed_right {m : Nat} {p : PyData} (hp : Pot m p) (hm : m ≤ 5000) (off : Int) (h0 : 0 ≤ off) (h1 : off ≤ 100) (hb : ∀ x ∈ ss, x ≤ 5000) :
    ∃ p', fd__law_is_speed_right.g [p, .tuple (ls.map .int), .tuple (ss.map .int), .int off] = .ok ⟨.bool true, .fr⟩ [p'] ∧ Pot (m + 3) p' := by
  have hl := hS.len
  have h11 := hL.l2
  have l1 := hL.l1
  rw [g__law_is_speed_right]
  obtain ⟨a, p1, ea, a0, a1, hp1⟩ := e__law_take hp ls.length (by omega) (by omega) (by omega)
  obtain ⟨A, rfl⟩ : ∃ A : Nat, a = (A : Int) := ⟨a.toNat, by omega⟩
  obtain ⟨b, p2, eb, b0, b1, hp2⟩ := e__law_take hp1 ((ls.length : Int) - A) (by omega) (by omega) (by omega)
  obtain ⟨X, hX⟩ : ∃ X : Nat, (A : Int) + 1 + b = (X : Int) := ⟨A + 1 + b.toNat, by omega⟩
  obtain ⟨lim, p3, el, lm0, lm1, hp3⟩ := e__law_take hp2 6 (by omega) (by omega) (by omega)
  have hA : A < X := by omega
  have hXl : X ≤ ls.length := by omega
  have s1 : t__law_is_speed_right_1 (envV ls ss p off none none none none none none none none none none none) = .ok .nx (envV ls ss p1 off (sI (A : Nat)) none none none none none none none none none none) := by
    simp [t__law_is_speed_right_1, envV, sI, hl, ea]
  have hu : (ls.length : Int) + 1 - A - 1 = ls.length - A := by omega
  have s2 : t__law_is_speed_right_2 (envV ls ss p1 off (sI (A : Nat)) none none none none none none none none none none) = .ok .nx (envV ls ss p2 off (sI (A : Nat)) (sI (X : Nat)) none none none none none none none none none) := by
    simp [t__law_is_speed_right_2, envV, sI, hl, hu, eb, hX]
  have e1 := at_nth (ns := ss) (k := A) (by omega)
  have e2 := at_nth (ns := ss) (k := X) (by omega)
  have e3 : cutD (ls.map PyData.int) (some (A : Int)) (some (X : Int)) = (cutD ls (some (A : Int)) (some (X : Int))).map .int := cutD_map _ _ _ _
  have e4 := gSum_tuple (cutD ls (some (A : Int)) (some (X : Int)))
  rw [cut_seg (by omega) hXl] at e4
  have g0 := seg_nn (fun y hy => (hL.lo y hy).1) A X
  have g1 := seg_ub (n := 11) (m := 100000) (by omega) hL.l2 (fun y hy => (hL.lo y hy).2) A X
  have k1 := hS.lo _ (List.mem_of_getElem? (nth_some (ns := ss) (k := A) (by omega)))
  have k2 := hS.lo _ (List.mem_of_getElem? (nth_some (ns := ss) (k := X) (by omega)))
  have k3 := hb _ (List.mem_of_getElem? (nth_some (ns := ss) (k := X) (by omega)))
  have av := e_averages ls ss off A X hL hS h0 (by omega) hA hXl
  have ov := e_over ls ss off lim hL hS h0 (by omega) lm0 (by omega)
  have sp1 := r_sp1 ls ss p2 off (seg ls A X) (nth ss X - nth ss A + 2 * off) g0 (by omega) (by omega)
  have sp2 := r_sp1 ls ss p2 off (seg ls A X) (nth ss X - nth ss A - 2 * off) g0 (by omega) (by omega)
  have sp3 := r_sp3 ls ss hl h11 off lim lm0 (by omega) p3
  generalize hF : seg ls A X = F at *
  generalize hT : nth ss X - nth ss A = T at *
  have s3 : t__law_is_speed_right_3 (envV ls ss p2 off (sI (A : Nat)) (sI (X : Nat)) none none none none none none none none none) = .ok .nx (envV ls ss p2 off (sI (A : Nat)) (sI (X : Nat)) (sI F) (sI T) none none none none none none none) := by
    simp [t__law_is_speed_right_3, envV, sI, e1, e2, e3, e4, hT, -gSum_tuple]
  have s4 : t__law_is_speed_right_4 (envV ls ss p2 off (sI (A : Nat)) (sI (X : Nat)) (sI F) (sI T) none none none none none none none) = .ok .nx (envV ls ss p2 off (sI (A : Nat)) (sI (X : Nat)) (sI F) (sI T) (some ⟨.list [], .ow⟩) none none none none none none) := by
    simp [t__law_is_speed_right_4, envV]
  obtain ⟨o10, w1⟩ := sp1 [] (by simp) (sI (A : Nat)) (sI (X : Nat)) (sI T) none none none none none none
  obtain ⟨o10', w2⟩ := sp2 ([] ++ [shD F (T + 2 * off)]) (by simp) (sI (A : Nat)) (sI (X : Nat)) (sI T) (sI (T + 2 * off)) o10 none none none none
  have src : (mIt (mfz (mTup (mcons (mfz (mOp2 gAdd (mslot 7) (mval (mOp2 gMul (mval (pure (frv (.int 2)))) (mslot 3))))) (mcons (mfz (mOp2 gSub (mslot 7) (mval (mOp2 gMul (mval (pure (frv (.int 2)))) (mslot 3))))) mnil))))) (envV ls ss p2 off (sI (A : Nat)) (sI (X : Nat)) (sI F) (sI T) (some ⟨.list [], .ow⟩) none none none none none none) = .ok [.int (T + 2 * off), .int (T - 2 * off)] (envV ls ss p2 off (sI (A : Nat)) (sI (X : Nat)) (sI F) (sI T) (some ⟨.list [], .ow⟩) none none none none none none) := by
    simp [envV, sI]
  have two : ∀ (ft : PyData → M Unit) (fb : M Fl) (d1 d2 : PyData) (ρ ρ1 ρ2 : PEnv), (ft d1 >>= fun _ => fb) ρ = .ok .nx ρ1 → (ft d2 >>= fun _ => fb) ρ1 = .ok .nx ρ2 → forL ft fb [d1, d2] ρ = .ok .nx ρ2 := by
    intro ft fb d1 d2 ρ ρ1 ρ2 q1 q2
    obtain ⟨ρ', z1, z2⟩ := forL_inv (ft := ft) (fb := fb) (fun i r => r = if i = 0 then ρ else if i = 1 then ρ1 else ρ2) [d1, d2] 0 ρ rfl fun i d r hd hI => by
      subst hI
      match i, hd with
      | 0, hd => cases hd; exact ⟨.nx, _, .inl rfl, q1, rfl⟩
      | 1, hd => cases hd; exact ⟨.nx, _, .inl rfl, q2, rfl⟩
      | i + 2, hd => simp at hd
    rw [z1, z2]
    rfl
  have s5 : l__law_is_speed_right_1 (envV ls ss p2 off (sI (A : Nat)) (sI (X : Nat)) (sI F) (sI T) (some ⟨.list [], .ow⟩) none none none none none none) = .ok .nx (envV ls ss p2 off (sI (A : Nat)) (sI (X : Nat)) (sI F) (sI T) (some ⟨.list [shD F (T + 2 * off), shD F (T - 2 * off)], .ow⟩) (sI (T - 2 * off)) o10' none none none none) := by
    unfold l__law_is_speed_right_1
    rw [mFor_e, bind_run, src, to_ok, two _ _ _ _ _ _ _ w1 w2]
    rfl
  have sq := sh_eq true F (T + 2 * off) F (T - 2 * off)
  have s6 : t__law_is_speed_right_7 (envV ls ss p2 off (sI (A : Nat)) (sI (X : Nat)) (sI F) (sI T) (some ⟨.list [shD F (T + 2 * off), shD F (T - 2 * off)], .ow⟩) (sI (T - 2 * off)) o10' none none none none) = .ok .nx (envV ls ss p2 off (sI (A : Nat)) (sI (X : Nat)) (sI F) (sI T) (some ⟨.list [shD F (T + 2 * off), shD F (T - 2 * off)], .ow⟩) (sI (T - 2 * off)) o10' none none none none) := by
    simp [t__law_is_speed_right_7, envV, sI, av, sq]
  generalize (some ⟨.list [shD F (T + 2 * off), shD F (T - 2 * off)], .ow⟩ : Option SV) = O8 at *
  have s7 : t__law_is_speed_right_8 (envV ls ss p2 off (sI (A : Nat)) (sI (X : Nat)) (sI F) (sI T) O8 (sI (T - 2 * off)) o10' none none none none) = .ok .nx (envV ls ss p3 off (sI (A : Nat)) (sI (X : Nat)) (sI F) (sI T) O8 (sI (T - 2 * off)) o10' (sI lim) none none none) := by
    simp [t__law_is_speed_right_8, envV, sI, el]
  have s8 : t__law_is_speed_right_9 (envV ls ss p3 off (sI (A : Nat)) (sI (X : Nat)) (sI F) (sI T) O8 (sI (T - 2 * off)) o10' (sI lim) none none none) = .ok .nx (envV ls ss p3 off (sI (A : Nat)) (sI (X : Nat)) (sI F) (sI T) O8 (sI (T - 2 * off)) o10' (sI lim) (some ⟨.list [], .ow⟩) none none) := by
    simp [t__law_is_speed_right_9, envV]
  obtain ⟨o13, o14, s9⟩ := sp3 (sI (A : Nat)) (sI (X : Nat)) (sI F) (sI T) O8 (sI (T - 2 * off)) o10' none none
  have pq := gEq_prs false (ovI (fast ls ss off lim) ls.length (ls.length + 1))
  generalize ovI (fast ls ss off lim) ls.length (ls.length + 1) = PS at *
  have s10 : t__law_is_speed_right_10 (envV ls ss p3 off (sI (A : Nat)) (sI (X : Nat)) (sI F) (sI T) O8 (sI (T - 2 * off)) o10' (sI lim) (some ⟨.list (PS.map prD), .ow⟩) o13 o14) = .ok (.rt ⟨.bool true, .fr⟩) (envV ls ss p3 off (sI (A : Nat)) (sI (X : Nat)) (sI F) (sI T) O8 (sI (T - 2 * off)) o10' (sI lim) (some ⟨.list (PS.map prD), .ow⟩) o13 o14) := by
    simp [t__law_is_speed_right_10, envV, sI, ov, pq]
  refine ⟨p3, ?_, hp3⟩
  show Rf.of _ (b__law_is_speed_right (envV ls ss p off none none none none none none none none none none none)) = _
  rw [b__law_is_speed_right, mSeq_nx s1, mSeq_nx s2, mSeq_nx s3, mSeq_nx s4, mSeq_nx s5, mSeq_nx s6, mSeq_nx s7, mSeq_nx s8, mSeq_nx s9, s10]
  simp [envV]
end
end Lw

set_option maxRecDepth 100000
/-! k10: the law. -/
namespace Lw
open PySem PySem.Spec L2 Pv
theorem lack_bound {rs : List Int} (hn : rs.length ≤ 11) (h : ∀ k, k < rs.length → -40 ≤ nth rs k) : hf (lack rs) ≤ 1000 := by
  rw [hf_le]
  have key : lack rs ≤ 440 := by
    rw [lack_le (by omega)]
    have q : ∀ k, k ≤ rs.length → nth (kad 0 rs) k ≤ 40 * k := by
      intro k
      induction k with
      | zero => intro _; rw [nth_of (kad_zero _ _)]; omega
      | succ k ih =>
        intro hk
        have a := ih (by omega)
        have b := h k (by omega)
        rw [kadR_next rs (by omega)]
        push_cast
        omega
    intro k hk
    have := q k hk
    omega
  omega
structure OkW (ls : List Int) : Prop where
  l1 : 1 ≤ ls.length
  l2 : ls.length ≤ 11
  lo : ∀ x ∈ ls, 0 ≤ x ∧ x ≤ 59
theorem OkW.okL {ls : List Int} (h : OkW ls) : OkL ls := ⟨h.l1, h.l2, fun x hx => by have := h.lo x hx; omega⟩
theorem mem_nth {r : List Int} {x : Int} (h : x ∈ r) : ∃ k, k < r.length ∧ x = nth r k := by
  obtain ⟨k, hk, e⟩ := List.getElem_of_mem h
  exact ⟨k, hk, by rw [← e]; exact (nth_of (List.getElem?_eq_getElem hk)).symm⟩
theorem row_le {ls r : List Int} (h : OkW ls) (hr : RowOk ls r ls.length) : ∀ x ∈ r, 0 ≤ x ∧ x ≤ 5000 := fun x hx => by
  obtain ⟨k, hk, rfl⟩ := mem_nth hx
  have hl := hr.len
  have a := hr.nn k (by omega)
  have b := hr.le h.lo (Nat.le_refl _) k (by omega)
  have := h.l2
  omega
theorem row_okS {ls r : List Int} (h : OkW ls) (hr : RowOk ls r ls.length) : OkS ls.length r := ⟨hr.len, fun x hx => by have := row_le h hr x hx; omega⟩
theorem rooms_row {ls r : List Int} (h : OkW ls) (hr : RowOk ls r ls.length) : hf (lack (rooms1 ls r)) ≤ 1000 := by
  have hl := hr.len
  refine lack_bound (by rw [rooms1_length _ _ hl]; exact h.l2) fun k hk => ?_
  rw [rooms1_length _ _ hl] at hk
  rw [rooms1_nth hl hk]
  have := hr.lo k hk
  omega
theorem rooms_rows {ls : List Int} {rows : List (List Int)} (h : OkW ls) (h1 : 1 ≤ rows.length) (hr : ∀ r ∈ rows, RowOk ls r ls.length) : hf (lack (roomsR ls rows)) ≤ 1000 := by
  refine lack_bound (by rw [roomsR_length]; exact h.l2) fun k hk => ?_
  rw [roomsR_length] at hk
  rw [roomsR_nth hk]
  unfold roomK
  obtain ⟨r, hm, e⟩ := List.mem_map.mp (mnI_mem (ns := rows.map fun r => nth r (k + 1) - nth r k) fun z => by
    rw [List.map_eq_nil_iff.mp z] at h1
    exact absurd h1 (by simp))
  have := (hr r hm).lo k hk
  omega
def envW (ns : List Int) (o1 o2 o3 o4 o5 : Option SV) : PEnv := [some ⟨.list (ns.map .int), .fr⟩, o1, o2, o3, o4, o5, none]
def sO (p : PyData) : Option SV := some ⟨p, .ow⟩
theorem r_lw1 (ns : List Int) {m : Nat} {p : PyData} (hp : Pot m p) (hm : m ≤ 1000) (o1 o3 o4 o5 : Option SV) :
    ∃ ls p', t_law_2 (envW ns o1 (sO p) o3 o4 o5) = .ok .nx (envW ns o1 (sO p') (some ⟨.tuple (ls.map .int), .fr⟩) o4 o5) ∧ OkW ls ∧ Pot (m + 12) p' := by
  obtain ⟨t, p1, e, t0, t1, hp1⟩ := e__law_take hp 11 (by omega) (by omega) (by omega)
  obtain ⟨n, hn⟩ : ∃ n : Nat, 1 + t = (n : Int) := ⟨(1 + t).toNat, by omega⟩
  have r := rg1_int n (by omega)
  have src : (mRg rg1 (mcons (mval (mOp2 gAdd (mval (pure (frv (.int 1)))) (mval (mCallF fd__law_take (mcons (mArgI 2) (mcons (mArgF (mfz (pure (frv (.int 11))))) mnil)))))) mnil)) (envW ns o1 (sO p) o3 o4 o5) = .ok (rgD 0 n) (envW ns o1 (sO p1) o3 o4 o5) := by
    simp [envW, sO, e, hn, r]
  obtain ⟨ys, ρ', c, hl, hJ, q, hq, hρ⟩ := mLc_inv (vs := [6]) (ft := putS 6) (tt := pure true) (te := mfz (mCall gInt1 (mcons (mval (mCallF fd__law_take (mcons (mArgI 2) (mcons (mArgF (mfz (pure (frv (.int 60))))) mnil)))) mnil))) (fun i ρ => ∃ q, Pot (m + 1 + i) q ∧ ρ = envW ns o1 (sO q) o3 o4 o5) (fun _ y => ∃ v : Int, y = .int v ∧ 0 ≤ v ∧ v ≤ 59) (rgD 0 n) src (by simp [plainAt, envW]) (by rw [rgD_length]; exact Pv.small (by omega)) ⟨p1, hp1, by simp [envW]⟩ fun i d ρ hd hI => by
    obtain ⟨q, hq, rfl⟩ := hI
    obtain ⟨hi, rfl⟩ := rgD_get hd
    obtain ⟨v, q', e, v0, v1, hq'⟩ := e__law_take hq 60 (by omega) (by omega) (by omega)
    exact ⟨.int v, envW ns o1 (sO q') o3 o4 o5, by simp [envW, sO, e], ⟨v, rfl, v0, by omega⟩, q', hq', rfl⟩
  subst hρ
  rw [rgD_length] at hl hq
  have hc : c_law_1 (envW ns o1 (sO p) o3 o4 o5) = .ok ⟨.list ys, .ow⟩ (envW ns o1 (sO q) o3 o4 o5) := by
    unfold c_law_1
    rw [c]
    rfl
  have key : ∀ (ys : List PyData), (∀ y ∈ ys, ∃ v : Int, y = .int v ∧ 0 ≤ v ∧ v ≤ 59) → ∃ ls : List Int, ys = ls.map .int ∧ ∀ x ∈ ls, 0 ≤ x ∧ x ≤ 59 := by
    intro ys
    induction ys with
    | nil => intro _; exact ⟨[], rfl, fun x hx => nomatch hx⟩
    | cons y ys ih =>
      intro h
      obtain ⟨v, rfl, v0, v1⟩ := h y List.mem_cons_self
      obtain ⟨ls, rfl, hls⟩ := ih fun y hy => h y (List.mem_cons_of_mem _ hy)
      refine ⟨v :: ls, rfl, fun x hx => ?_⟩
      rcases List.mem_cons.mp hx with rfl | hx
      · exact ⟨v0, v1⟩
      · exact hls x hx
  obtain ⟨ls, rfl, hls⟩ := key ys fun y hy => by
    obtain ⟨i, hi, e⟩ := List.getElem_of_mem hy
    exact hJ i y (by rw [List.getElem?_eq_getElem hi, e])
  rw [List.length_map] at hl
  refine ⟨ls, q, ?_, ⟨by omega, by omega, hls⟩, hq.mono (by omega)⟩
  simp [t_law_2, hc]
  simp [envW]
theorem r_lw2 (ns : List Int) {m : Nat} {p : PyData} (hp : Pot m p) (hm : m ≤ 1000) (ls : List Int) (h : OkW ls) (sp : Int) (sp0 : 0 ≤ sp) (sp1 : sp ≤ 40) (o1 o5 : Option SV) :
    ∃ rows p', t_law_4 (envW ns o1 (sO p) (some ⟨.tuple (ls.map .int), .fr⟩) (sI sp) o5) = .ok .nx (envW ns o1 (sO p') (some ⟨.tuple (ls.map .int), .fr⟩) (sI sp) (some ⟨rwsD rows, .fr⟩)) ∧ 1 ≤ rows.length ∧ rows.length ≤ 20 ∧ (∀ r ∈ rows, RowOk ls r ls.length) ∧ Pot (m + 300) p' := by
  obtain ⟨t, p1, e, t0, t1, hp1⟩ := e__law_take hp 20 (by omega) (by omega) (by omega)
  obtain ⟨n, hn⟩ : ∃ n : Nat, 1 + t = (n : Int) := ⟨(1 + t).toNat, by omega⟩
  have r := rg1_int n (by omega)
  let O3 : Option SV := some ⟨.tuple (ls.map .int), .fr⟩
  have src : (mRg rg1 (mcons (mval (mOp2 gAdd (mval (pure (frv (.int 1)))) (mval (mCallF fd__law_take (mcons (mArgI 2) (mcons (mArgF (mfz (pure (frv (.int 20))))) mnil)))))) mnil)) (envW ns o1 (sO p) O3 (sI sp) o5) = .ok (rgD 0 n) (envW ns o1 (sO p1) O3 (sI sp) o5) := by
    simp [envW, sO, e, hn, r]
  obtain ⟨ys, ρ', c, hl, hJ, q, hq, hρ⟩ := mLc_inv (vs := [6]) (ft := putS 6) (tt := pure true) (te := mfz (mCallF fd__law_row (mcons (mArgI 2) (mcons (mArgF (mfz (mget 3))) (mcons (mArgF (mfz (mget 4))) mnil))))) (fun i ρ => ∃ q, Pot (m + 1 + 12 * i) q ∧ ρ = envW ns o1 (sO q) O3 (sI sp) o5) (fun _ y => ∃ r : List Int, y = rwD r ∧ RowOk ls r ls.length) (rgD 0 n) src (by simp [plainAt, envW]) (by rw [rgD_length]; exact Pv.small (by omega)) ⟨p1, hp1, by simp [envW]⟩ fun i d ρ hd hI => by
    obtain ⟨q, hq, rfl⟩ := hI
    obtain ⟨hi, rfl⟩ := rgD_get hd
    obtain ⟨r, q', e, hr, hq'⟩ := e__law_row hq ls sp sp0 sp1 h.lo h.l2 (by omega)
    exact ⟨rwD r, envW ns o1 (sO q') O3 (sI sp) o5, by simp [envW, sO, sI, O3, e], ⟨r, rfl, hr⟩, q', hq'.mono (by omega), rfl⟩
  subst hρ
  rw [rgD_length] at hl hq
  have hc : c_law_2 (envW ns o1 (sO p) O3 (sI sp) o5) = .ok ⟨.list ys, .ow⟩ (envW ns o1 (sO q) O3 (sI sp) o5) := by
    unfold c_law_2
    rw [c]
    rfl
  have key : ∀ (ys : List PyData), (∀ y ∈ ys, ∃ r : List Int, y = rwD r ∧ RowOk ls r ls.length) → ∃ rows : List (List Int), ys = rows.map rwD ∧ ∀ r ∈ rows, RowOk ls r ls.length := by
    intro ys
    induction ys with
    | nil => intro _; exact ⟨[], rfl, fun x hx => nomatch hx⟩
    | cons y ys ih =>
      intro h
      obtain ⟨v, rfl, v0⟩ := h y List.mem_cons_self
      obtain ⟨ls, rfl, hls⟩ := ih fun y hy => h y (List.mem_cons_of_mem _ hy)
      refine ⟨v :: ls, rfl, fun x hx => ?_⟩
      rcases List.mem_cons.mp hx with rfl | hx
      · exact v0
      · exact hls x hx
  obtain ⟨rows, rfl, hrows⟩ := key ys fun y hy => by
    obtain ⟨i, hi, e⟩ := List.getElem_of_mem hy
    exact hJ i y (by rw [List.getElem?_eq_getElem hi, e])
  rw [List.length_map] at hl
  refine ⟨rows, q, ?_, by omega, by omega, hrows, hq.mono (by omega)⟩
  show t_law_4 (envW ns o1 (sO p) O3 (sI sp) o5) = .ok .nx (envW ns o1 (sO q) O3 (sI sp) (some ⟨rwsD rows, .fr⟩))
  simp [t_law_4, hc]
  simp [envW, rwsD]
theorem r_lw3 (ns : List Int) (k : Nat) (hk : k < 3) (o2 o3 o4 o5 : Option SV) :
    ∃ o2' o3' o4' o5', u_law_1 (envW ns (sI (k : Nat)) o2 o3 o4 o5) = .ok .nx (envW ns (sI (k : Nat)) o2' o3' o4' o5') := by
  obtain ⟨p0, e0, hp0⟩ := e__law_pot ns k (by omega)
  have s1 : t_law_1 (envW ns (sI (k : Nat)) o2 o3 o4 o5) = .ok .nx (envW ns (sI (k : Nat)) (sO p0) o3 o4 o5) := by
    simp [t_law_1, envW, sI, sO, e0]
  obtain ⟨ls, p1, s2, hW, hp1⟩ := r_lw1 ns hp0 (by omega) (sI (k : Nat)) o3 o4 o5
  obtain ⟨sp, p2, e2, sp0, sp1, hp2⟩ := e__law_of hp1 (by omega)
  let O3 : Option SV := some ⟨.tuple (ls.map .int), .fr⟩
  have s3 : t_law_3 (envW ns (sI (k : Nat)) (sO p1) O3 o4 o5) = .ok .nx (envW ns (sI (k : Nat)) (sO p2) O3 (sI sp) o5) := by
    simp [t_law_3, envW, sI, sO, O3, e2]
  obtain ⟨rows, p3, s4, r1, r2, hrows, hp3⟩ := r_lw2 ns hp2 (by omega) ls hW sp sp0 sp1 (sI (k : Nat)) o5
  have hL := hW.okL
  have hR : OkR ls.length rows := ⟨r1, r2, fun r hr => row_okS hW (hrows r hr)⟩
  have hlb : ∀ x ∈ ls, x ≤ 59 := fun x hx => (hW.lo x hx).2
  have h0r : rowN rows 0 ∈ rows := List.mem_of_getElem? (rowN_some (by omega))
  have hS0 := row_okS hW (hrows _ h0r)
  obtain ⟨p4, e4, hp4⟩ := e__law_is_time_right ls (rowN rows 0) hL hS0 (fun x hx => (row_le hW (hrows _ h0r) x hx).2) hlb hp3 (by omega) (rooms_row hW (hrows _ h0r))
  obtain ⟨p5, e5, hp5⟩ := e__law_are_clocks_right ls rows hL hR hp4 (by omega) (rooms_rows hW r1 hrows)
  obtain ⟨off, p6, e6, f0, f1, hp6⟩ := e__law_take hp5 9 (by omega) (by omega) (by omega)
  have hne : rows ≠ [] := fun z => by rw [z] at r1; exact absurd r1 (by simp)
  have el := List.getLast?_eq_getLast hne
  have hlm := List.getLast_mem hne
  generalize rows.getLast hne = rl at el hlm
  obtain ⟨p7, e7, hp7⟩ := e__law_is_speed_right ls rl hL (row_okS hW (hrows _ hlm)) hp6 (by omega) off f0 (by omega) (fun x hx => (row_le hW (hrows _ hlm) x hx).2)
  have a0 : L2.atI (rows.map rwD) 0 = some (rwD (rowN rows 0)) := at_getL (k := 0) (rowN_some (by omega))
  have al : L2.atI (rows.map rwD) (-1) = some (rwD rl) := at_last_map el
  have e4' : fd__law_is_time_right.g [p3, .tuple (ls.map .int), rwD (rowN rows 0)] = .ok ⟨.bool true, .fr⟩ [p4] := e4
  have e5' : fd__law_are_clocks_right.g [p4, .tuple (ls.map .int), .tuple (rows.map rwD)] = .ok ⟨.bool true, .fr⟩ [p5] := e5
  have e7' : fd__law_is_speed_right.g [p6, .tuple (ls.map .int), rwD rl, .int off] = .ok ⟨.bool true, .fr⟩ [p7] := e7
  have s5 : t_law_5 (envW ns (sI (k : Nat)) (sO p3) O3 (sI sp) (some ⟨rwsD rows, .fr⟩)) = .ok .nx (envW ns (sI (k : Nat)) (sO p5) O3 (sI sp) (some ⟨rwsD rows, .fr⟩)) := by
    simp [t_law_5, envW, sI, sO, O3, rwsD, a0, e4', e5']
  have s6 : t_law_6 (envW ns (sI (k : Nat)) (sO p5) O3 (sI sp) (some ⟨rwsD rows, .fr⟩)) = .ok .nx (envW ns (sI (k : Nat)) (sO p7) O3 (sI sp) (some ⟨rwsD rows, .fr⟩)) := by
    simp [t_law_6, envW, sI, sO, O3, rwsD, al, e6, e7']
  exact ⟨_, _, _, _, by rw [u_law_1, mSeq_nx s1, mSeq_nx s2, mSeq_nx s3, mSeq_nx s4, mSeq_nx s5, s6]⟩
/-- the law holds, of what the program computes -/
theorem e_law (ns : List Int) : fd_law.g [.list (ns.map .int)] = .ok ⟨.bool true, .fr⟩ [] := by
  rw [g_law]
  obtain ⟨m, hm, ep⟩ := e__law_places ns
  have src : (mIt (mfz (mCallF fd__law_places (mcons (mArgF (mfz (mget 0))) (mcons (mArgF (mfz (pure (frv (.int 3))))) mnil))))) (envW ns none none none none none) = .ok (rgD 0 m) (envW ns none none none none none) := by
    simp [envW, ep]
  obtain ⟨ρ', e2, o1, o2, o3, o4, o5, e3⟩ := forL_inv (ft := putS 1) (fb := u_law_1) (fun j ρ => ∃ o1 o2 o3 o4 o5, ρ = envW ns o1 o2 o3 o4 o5) (rgD 0 m) 0 (envW ns none none none none none) ⟨_, _, _, _, _, rfl⟩ fun j d ρ hd hI => by
    obtain ⟨o1, o2, o3, o4, o5, rfl⟩ := hI
    obtain ⟨hj, rfl⟩ := rgD_get hd
    rw [Int.zero_add]
    obtain ⟨o2', o3', o4', o5', z⟩ := r_lw3 ns j (by omega) o2 o3 o4 o5
    have p0 : putS 1 (.int (j : Nat)) (envW ns o1 o2 o3 o4 o5) = .ok () (envW ns (sI (j : Nat)) o2 o3 o4 o5) := by simp [envW, sI]
    exact ⟨.nx, _, .inl rfl, by rw [bind_run, p0, to_ok, z], _, _, _, _, _, rfl⟩
  have s1 : l_law_1 (envW ns none none none none none) = .ok .nx (envW ns o1 o2 o3 o4 o5) := by
    unfold l_law_1
    rw [mFor_e, bind_run, src, to_ok, e2, e3]
  show Rf.of _ (b_law (envW ns none none none none none)) = _
  rw [b_law, mSeq_nx s1]
  simp [t_law_7, envW]
end Lw

set_option maxRecDepth 100000
set_option maxHeartbeats 0
namespace Lw
open PySem PySem.Spec L2 Pv
theorem all_mk {l : PySem.W.OpenLaw} {w : World} {K : PySem.W.Frag} {h : Heap} {mg : Str → Option Value} {fa : Addr} (X : K.In h) (G : h.Ns mainGlobals mg) (hfa : mg "law" = some (.ref fa))
    {f__law_places : Addr} {od__law_places an__law_places : Option Addr} {sl__law_places : Array (Option Value)} {oc__law_places kV__law_places dc__law_places pm__law_places cd__law_places ct__law_places : Value}
    {f__law_pot : Addr} {od__law_pot an__law_pot : Option Addr} {sl__law_pot : Array (Option Value)} {oc__law_pot kV__law_pot dc__law_pot pm__law_pot cd__law_pot ct__law_pot : Value}
    {f__law_take : Addr} {od__law_take an__law_take : Option Addr} {sl__law_take : Array (Option Value)} {oc__law_take kV__law_take dc__law_take pm__law_take cd__law_take ct__law_take : Value}
    {f__law_of : Addr} {od__law_of an__law_of : Option Addr} {sl__law_of : Array (Option Value)} {oc__law_of kV__law_of dc__law_of pm__law_of cd__law_of ct__law_of : Value}
    {f_is_tuple : Addr} {od_is_tuple an_is_tuple : Option Addr} {sl_is_tuple : Array (Option Value)} {oc_is_tuple kV_is_tuple dc_is_tuple pm_is_tuple cd_is_tuple ct_is_tuple : Value}
    {f_is_whole : Addr} {od_is_whole an_is_whole : Option Addr} {sl_is_whole : Array (Option Value)} {oc_is_whole kV_is_whole dc_is_whole pm_is_whole cd_is_whole ct_is_whole : Value}
    {f_is_integer : Addr} {od_is_integer an_is_integer : Option Addr} {sl_is_integer : Array (Option Value)} {oc_is_integer kV_is_integer dc_is_integer pm_is_integer cd_is_integer ct_is_integer : Value}
    {f_is_row : Addr} {od_is_row an_is_row : Option Addr} {sl_is_row : Array (Option Value)} {oc_is_row kV_is_row dc_is_row pm_is_row cd_is_row ct_is_row : Value}
    {f_check_least : Addr} {od_check_least an_check_least : Option Addr} {sl_check_least : Array (Option Value)} {oc_check_least kV_check_least dc_check_least pm_check_least cd_check_least ct_check_least : Value}
    {f_check_seen : Addr} {od_check_seen an_check_seen : Option Addr} {sl_check_seen : Array (Option Value)} {oc_check_seen kV_check_seen dc_check_seen pm_check_seen cd_check_seen ct_check_seen : Value}
    {f_needed : Addr} {od_needed an_needed : Option Addr} {sl_needed : Array (Option Value)} {oc_needed kV_needed dc_needed pm_needed cd_needed ct_needed : Value}
    {f_shortest : Addr} {od_shortest an_shortest : Option Addr} {sl_shortest : Array (Option Value)} {oc_shortest kV_shortest dc_shortest pm_shortest cd_shortest ct_shortest : Value}
    {f_averages : Addr} {od_averages an_averages : Option Addr} {sl_averages : Array (Option Value)} {oc_averages kV_averages dc_averages pm_averages cd_averages ct_averages : Value}
    {f_over : Addr} {od_over an_over : Option Addr} {sl_over : Array (Option Value)} {oc_over kV_over dc_over pm_over cd_over ct_over : Value}
    {f__law_gcd : Addr} {od__law_gcd an__law_gcd : Option Addr} {sl__law_gcd : Array (Option Value)} {oc__law_gcd kV__law_gcd dc__law_gcd pm__law_gcd cd__law_gcd ct__law_gcd : Value}
    {f__law_is_speed_right : Addr} {od__law_is_speed_right an__law_is_speed_right : Option Addr} {sl__law_is_speed_right : Array (Option Value)} {oc__law_is_speed_right kV__law_is_speed_right dc__law_is_speed_right pm__law_is_speed_right cd__law_is_speed_right ct__law_is_speed_right : Value}
    {f__law_row : Addr} {od__law_row an__law_row : Option Addr} {sl__law_row : Array (Option Value)} {oc__law_row kV__law_row dc__law_row pm__law_row cd__law_row ct__law_row : Value}
    {f__law_rooms : Addr} {od__law_rooms an__law_rooms : Option Addr} {sl__law_rooms : Array (Option Value)} {oc__law_rooms kV__law_rooms dc__law_rooms pm__law_rooms cd__law_rooms ct__law_rooms : Value}
    {f__law_half : Addr} {od__law_half an__law_half : Option Addr} {sl__law_half : Array (Option Value)} {oc__law_half kV__law_half dc__law_half pm__law_half cd__law_half ct__law_half : Value}
    {f_least_off : Addr} {od_least_off an_least_off : Option Addr} {sl_least_off : Array (Option Value)} {oc_least_off kV_least_off dc_least_off pm_least_off cd_least_off ct_least_off : Value}
    {f_check_rows : Addr} {od_check_rows an_check_rows : Option Addr} {sl_check_rows : Array (Option Value)} {oc_check_rows kV_check_rows dc_check_rows pm_check_rows cd_check_rows ct_check_rows : Value}
    {f_slack_of : Addr} {od_slack_of an_slack_of : Option Addr} {sl_slack_of : Array (Option Value)} {oc_slack_of kV_slack_of dc_slack_of pm_slack_of cd_slack_of ct_slack_of : Value}
    {f_least_clocks : Addr} {od_least_clocks an_least_clocks : Option Addr} {sl_least_clocks : Array (Option Value)} {oc_least_clocks kV_least_clocks dc_least_clocks pm_least_clocks cd_least_clocks ct_least_clocks : Value}
    {f__law_lack : Addr} {od__law_lack an__law_lack : Option Addr} {sl__law_lack : Array (Option Value)} {oc__law_lack kV__law_lack dc__law_lack pm__law_lack cd__law_lack ct__law_lack : Value}
    {f_too_fast : Addr} {od_too_fast an_too_fast : Option Addr} {sl_too_fast : Array (Option Value)} {oc_too_fast kV_too_fast dc_too_fast pm_too_fast cd_too_fast ct_too_fast : Value}
    {f_clocks : Addr} {od_clocks an_clocks : Option Addr} {sl_clocks : Array (Option Value)} {oc_clocks kV_clocks dc_clocks pm_clocks cd_clocks ct_clocks : Value}
    {f__law_are_others_right : Addr} {od__law_are_others_right an__law_are_others_right : Option Addr} {sl__law_are_others_right : Array (Option Value)} {oc__law_are_others_right kV__law_are_others_right dc__law_are_others_right pm__law_are_others_right cd__law_are_others_right ct__law_are_others_right : Value}
    {f_shows_too_fast : Addr} {od_shows_too_fast an_shows_too_fast : Option Addr} {sl_shows_too_fast : Array (Option Value)} {oc_shows_too_fast kV_shows_too_fast dc_shows_too_fast pm_shows_too_fast cd_shows_too_fast ct_shows_too_fast : Value}
    {f__law_is_time_right : Addr} {od__law_is_time_right an__law_is_time_right : Option Addr} {sl__law_is_time_right : Array (Option Value)} {oc__law_is_time_right kV__law_is_time_right dc__law_is_time_right pm__law_is_time_right cd__law_is_time_right ct__law_is_time_right : Value}
    {f_shows_clocks : Addr} {od_shows_clocks an_shows_clocks : Option Addr} {sl_shows_clocks : Array (Option Value)} {oc_shows_clocks kV_shows_clocks dc_shows_clocks pm_shows_clocks cd_shows_clocks ct_shows_clocks : Value}
    {f__law_are_clocks_right : Addr} {od__law_are_clocks_right an__law_are_clocks_right : Option Addr} {sl__law_are_clocks_right : Array (Option Value)} {oc__law_are_clocks_right kV__law_are_clocks_right dc__law_are_clocks_right pm__law_are_clocks_right cd__law_are_clocks_right ct__law_are_clocks_right : Value}
    {f_law : Addr} {od_law an_law : Option Addr} {sl_law : Array (Option Value)} {oc_law kV_law dc_law pm_law cd_law ct_law : Value}
    (a__law_places : PySem.W.nsIn K mainGlobals "_law_places" = some (some (.ref f__law_places))) (l__law_places : K.lookup f__law_places = some ⟨oc__law_places, od__law_places, .func (PySem.W.fnOf "_law_places" "_law_places" (defArgs s__law_places) (defBody s__law_places) (defScope s__law_places) .none kV__law_places dc__law_places pm__law_places an__law_places cd__law_places ct__law_places), sl__law_places⟩) (cc__law_places : PySem.W.codeIn K cd__law_places "_law_places" = true) (k__law_places : PySem.W.keepIn K (.ref f__law_places) = true)
    (a__law_pot : PySem.W.nsIn K mainGlobals "_law_pot" = some (some (.ref f__law_pot))) (l__law_pot : K.lookup f__law_pot = some ⟨oc__law_pot, od__law_pot, .func (PySem.W.fnOf "_law_pot" "_law_pot" (defArgs s__law_pot) (defBody s__law_pot) (defScope s__law_pot) .none kV__law_pot dc__law_pot pm__law_pot an__law_pot cd__law_pot ct__law_pot), sl__law_pot⟩) (cc__law_pot : PySem.W.codeIn K cd__law_pot "_law_pot" = true) (k__law_pot : PySem.W.keepIn K (.ref f__law_pot) = true)
    (a__law_take : PySem.W.nsIn K mainGlobals "_law_take" = some (some (.ref f__law_take))) (l__law_take : K.lookup f__law_take = some ⟨oc__law_take, od__law_take, .func (PySem.W.fnOf "_law_take" "_law_take" (defArgs s__law_take) (defBody s__law_take) (defScope s__law_take) .none kV__law_take dc__law_take pm__law_take an__law_take cd__law_take ct__law_take), sl__law_take⟩) (cc__law_take : PySem.W.codeIn K cd__law_take "_law_take" = true) (k__law_take : PySem.W.keepIn K (.ref f__law_take) = true)
    (a__law_of : PySem.W.nsIn K mainGlobals "_law_of" = some (some (.ref f__law_of))) (l__law_of : K.lookup f__law_of = some ⟨oc__law_of, od__law_of, .func (PySem.W.fnOf "_law_of" "_law_of" (defArgs s__law_of) (defBody s__law_of) (defScope s__law_of) .none kV__law_of dc__law_of pm__law_of an__law_of cd__law_of ct__law_of), sl__law_of⟩) (cc__law_of : PySem.W.codeIn K cd__law_of "_law_of" = true) (k__law_of : PySem.W.keepIn K (.ref f__law_of) = true)
    (a_is_tuple : PySem.W.nsIn K mainGlobals "is_tuple" = some (some (.ref f_is_tuple))) (l_is_tuple : K.lookup f_is_tuple = some ⟨oc_is_tuple, od_is_tuple, .func (PySem.W.fnOf "is_tuple" "is_tuple" (defArgs s_is_tuple) (defBody s_is_tuple) (defScope s_is_tuple) .none kV_is_tuple dc_is_tuple pm_is_tuple an_is_tuple cd_is_tuple ct_is_tuple), sl_is_tuple⟩) (cc_is_tuple : PySem.W.codeIn K cd_is_tuple "is_tuple" = true) (k_is_tuple : PySem.W.keepIn K (.ref f_is_tuple) = true)
    (a_is_whole : PySem.W.nsIn K mainGlobals "is_whole" = some (some (.ref f_is_whole))) (l_is_whole : K.lookup f_is_whole = some ⟨oc_is_whole, od_is_whole, .func (PySem.W.fnOf "is_whole" "is_whole" (defArgs s_is_whole) (defBody s_is_whole) (defScope s_is_whole) .none kV_is_whole dc_is_whole pm_is_whole an_is_whole cd_is_whole ct_is_whole), sl_is_whole⟩) (cc_is_whole : PySem.W.codeIn K cd_is_whole "is_whole" = true) (k_is_whole : PySem.W.keepIn K (.ref f_is_whole) = true)
    (a_is_integer : PySem.W.nsIn K mainGlobals "is_integer" = some (some (.ref f_is_integer))) (l_is_integer : K.lookup f_is_integer = some ⟨oc_is_integer, od_is_integer, .func (PySem.W.fnOf "is_integer" "is_integer" (defArgs s_is_integer) (defBody s_is_integer) (defScope s_is_integer) .none kV_is_integer dc_is_integer pm_is_integer an_is_integer cd_is_integer ct_is_integer), sl_is_integer⟩) (cc_is_integer : PySem.W.codeIn K cd_is_integer "is_integer" = true) (k_is_integer : PySem.W.keepIn K (.ref f_is_integer) = true)
    (a_is_row : PySem.W.nsIn K mainGlobals "is_row" = some (some (.ref f_is_row))) (l_is_row : K.lookup f_is_row = some ⟨oc_is_row, od_is_row, .func (PySem.W.fnOf "is_row" "is_row" (defArgs s_is_row) (defBody s_is_row) (defScope s_is_row) .none kV_is_row dc_is_row pm_is_row an_is_row cd_is_row ct_is_row), sl_is_row⟩) (cc_is_row : PySem.W.codeIn K cd_is_row "is_row" = true) (k_is_row : PySem.W.keepIn K (.ref f_is_row) = true)
    (a_check_least : PySem.W.nsIn K mainGlobals "check_least" = some (some (.ref f_check_least))) (l_check_least : K.lookup f_check_least = some ⟨oc_check_least, od_check_least, .func (PySem.W.fnOf "check_least" "check_least" (defArgs s_check_least) (defBody s_check_least) (defScope s_check_least) .none kV_check_least dc_check_least pm_check_least an_check_least cd_check_least ct_check_least), sl_check_least⟩) (cc_check_least : PySem.W.codeIn K cd_check_least "check_least" = true) (k_check_least : PySem.W.keepIn K (.ref f_check_least) = true)
    (a_check_seen : PySem.W.nsIn K mainGlobals "check_seen" = some (some (.ref f_check_seen))) (l_check_seen : K.lookup f_check_seen = some ⟨oc_check_seen, od_check_seen, .func (PySem.W.fnOf "check_seen" "check_seen" (defArgs s_check_seen) (defBody s_check_seen) (defScope s_check_seen) .none kV_check_seen dc_check_seen pm_check_seen an_check_seen cd_check_seen ct_check_seen), sl_check_seen⟩) (cc_check_seen : PySem.W.codeIn K cd_check_seen "check_seen" = true) (k_check_seen : PySem.W.keepIn K (.ref f_check_seen) = true)
    (a_needed : PySem.W.nsIn K mainGlobals "needed" = some (some (.ref f_needed))) (l_needed : K.lookup f_needed = some ⟨oc_needed, od_needed, .func (PySem.W.fnOf "needed" "needed" (defArgs s_needed) (defBody s_needed) (defScope s_needed) .none kV_needed dc_needed pm_needed an_needed cd_needed ct_needed), sl_needed⟩) (cc_needed : PySem.W.codeIn K cd_needed "needed" = true) (k_needed : PySem.W.keepIn K (.ref f_needed) = true)
    (a_shortest : PySem.W.nsIn K mainGlobals "shortest" = some (some (.ref f_shortest))) (l_shortest : K.lookup f_shortest = some ⟨oc_shortest, od_shortest, .func (PySem.W.fnOf "shortest" "shortest" (defArgs s_shortest) (defBody s_shortest) (defScope s_shortest) .none kV_shortest dc_shortest pm_shortest an_shortest cd_shortest ct_shortest), sl_shortest⟩) (cc_shortest : PySem.W.codeIn K cd_shortest "shortest" = true) (k_shortest : PySem.W.keepIn K (.ref f_shortest) = true)
    (a_averages : PySem.W.nsIn K mainGlobals "averages" = some (some (.ref f_averages))) (l_averages : K.lookup f_averages = some ⟨oc_averages, od_averages, .func (PySem.W.fnOf "averages" "averages" (defArgs s_averages) (defBody s_averages) (defScope s_averages) .none kV_averages dc_averages pm_averages an_averages cd_averages ct_averages), sl_averages⟩) (cc_averages : PySem.W.codeIn K cd_averages "averages" = true) (k_averages : PySem.W.keepIn K (.ref f_averages) = true)
    (a_over : PySem.W.nsIn K mainGlobals "over" = some (some (.ref f_over))) (l_over : K.lookup f_over = some ⟨oc_over, od_over, .func (PySem.W.fnOf "over" "over" (defArgs s_over) (defBody s_over) (defScope s_over) .none kV_over dc_over pm_over an_over cd_over ct_over), sl_over⟩) (cc_over : PySem.W.codeIn K cd_over "over" = true) (k_over : PySem.W.keepIn K (.ref f_over) = true)
    (a__law_gcd : PySem.W.nsIn K mainGlobals "_law_gcd" = some (some (.ref f__law_gcd))) (l__law_gcd : K.lookup f__law_gcd = some ⟨oc__law_gcd, od__law_gcd, .func (PySem.W.fnOf "_law_gcd" "_law_gcd" (defArgs s__law_gcd) (defBody s__law_gcd) (defScope s__law_gcd) .none kV__law_gcd dc__law_gcd pm__law_gcd an__law_gcd cd__law_gcd ct__law_gcd), sl__law_gcd⟩) (cc__law_gcd : PySem.W.codeIn K cd__law_gcd "_law_gcd" = true) (k__law_gcd : PySem.W.keepIn K (.ref f__law_gcd) = true)
    (a__law_is_speed_right : PySem.W.nsIn K mainGlobals "_law_is_speed_right" = some (some (.ref f__law_is_speed_right))) (l__law_is_speed_right : K.lookup f__law_is_speed_right = some ⟨oc__law_is_speed_right, od__law_is_speed_right, .func (PySem.W.fnOf "_law_is_speed_right" "_law_is_speed_right" (defArgs s__law_is_speed_right) (defBody s__law_is_speed_right) (defScope s__law_is_speed_right) .none kV__law_is_speed_right dc__law_is_speed_right pm__law_is_speed_right an__law_is_speed_right cd__law_is_speed_right ct__law_is_speed_right), sl__law_is_speed_right⟩) (cc__law_is_speed_right : PySem.W.codeIn K cd__law_is_speed_right "_law_is_speed_right" = true) (k__law_is_speed_right : PySem.W.keepIn K (.ref f__law_is_speed_right) = true)
    (a__law_row : PySem.W.nsIn K mainGlobals "_law_row" = some (some (.ref f__law_row))) (l__law_row : K.lookup f__law_row = some ⟨oc__law_row, od__law_row, .func (PySem.W.fnOf "_law_row" "_law_row" (defArgs s__law_row) (defBody s__law_row) (defScope s__law_row) .none kV__law_row dc__law_row pm__law_row an__law_row cd__law_row ct__law_row), sl__law_row⟩) (cc__law_row : PySem.W.codeIn K cd__law_row "_law_row" = true) (k__law_row : PySem.W.keepIn K (.ref f__law_row) = true)
    (a__law_rooms : PySem.W.nsIn K mainGlobals "_law_rooms" = some (some (.ref f__law_rooms))) (l__law_rooms : K.lookup f__law_rooms = some ⟨oc__law_rooms, od__law_rooms, .func (PySem.W.fnOf "_law_rooms" "_law_rooms" (defArgs s__law_rooms) (defBody s__law_rooms) (defScope s__law_rooms) .none kV__law_rooms dc__law_rooms pm__law_rooms an__law_rooms cd__law_rooms ct__law_rooms), sl__law_rooms⟩) (cc__law_rooms : PySem.W.codeIn K cd__law_rooms "_law_rooms" = true) (k__law_rooms : PySem.W.keepIn K (.ref f__law_rooms) = true)
    (a__law_half : PySem.W.nsIn K mainGlobals "_law_half" = some (some (.ref f__law_half))) (l__law_half : K.lookup f__law_half = some ⟨oc__law_half, od__law_half, .func (PySem.W.fnOf "_law_half" "_law_half" (defArgs s__law_half) (defBody s__law_half) (defScope s__law_half) .none kV__law_half dc__law_half pm__law_half an__law_half cd__law_half ct__law_half), sl__law_half⟩) (cc__law_half : PySem.W.codeIn K cd__law_half "_law_half" = true) (k__law_half : PySem.W.keepIn K (.ref f__law_half) = true)
    (a_least_off : PySem.W.nsIn K mainGlobals "least_off" = some (some (.ref f_least_off))) (l_least_off : K.lookup f_least_off = some ⟨oc_least_off, od_least_off, .func (PySem.W.fnOf "least_off" "least_off" (defArgs s_least_off) (defBody s_least_off) (defScope s_least_off) .none kV_least_off dc_least_off pm_least_off an_least_off cd_least_off ct_least_off), sl_least_off⟩) (cc_least_off : PySem.W.codeIn K cd_least_off "least_off" = true) (k_least_off : PySem.W.keepIn K (.ref f_least_off) = true)
    (a_check_rows : PySem.W.nsIn K mainGlobals "check_rows" = some (some (.ref f_check_rows))) (l_check_rows : K.lookup f_check_rows = some ⟨oc_check_rows, od_check_rows, .func (PySem.W.fnOf "check_rows" "check_rows" (defArgs s_check_rows) (defBody s_check_rows) (defScope s_check_rows) .none kV_check_rows dc_check_rows pm_check_rows an_check_rows cd_check_rows ct_check_rows), sl_check_rows⟩) (cc_check_rows : PySem.W.codeIn K cd_check_rows "check_rows" = true) (k_check_rows : PySem.W.keepIn K (.ref f_check_rows) = true)
    (a_slack_of : PySem.W.nsIn K mainGlobals "slack_of" = some (some (.ref f_slack_of))) (l_slack_of : K.lookup f_slack_of = some ⟨oc_slack_of, od_slack_of, .func (PySem.W.fnOf "slack_of" "slack_of" (defArgs s_slack_of) (defBody s_slack_of) (defScope s_slack_of) .none kV_slack_of dc_slack_of pm_slack_of an_slack_of cd_slack_of ct_slack_of), sl_slack_of⟩) (cc_slack_of : PySem.W.codeIn K cd_slack_of "slack_of" = true) (k_slack_of : PySem.W.keepIn K (.ref f_slack_of) = true)
    (a_least_clocks : PySem.W.nsIn K mainGlobals "least_clocks" = some (some (.ref f_least_clocks))) (l_least_clocks : K.lookup f_least_clocks = some ⟨oc_least_clocks, od_least_clocks, .func (PySem.W.fnOf "least_clocks" "least_clocks" (defArgs s_least_clocks) (defBody s_least_clocks) (defScope s_least_clocks) .none kV_least_clocks dc_least_clocks pm_least_clocks an_least_clocks cd_least_clocks ct_least_clocks), sl_least_clocks⟩) (cc_least_clocks : PySem.W.codeIn K cd_least_clocks "least_clocks" = true) (k_least_clocks : PySem.W.keepIn K (.ref f_least_clocks) = true)
    (a__law_lack : PySem.W.nsIn K mainGlobals "_law_lack" = some (some (.ref f__law_lack))) (l__law_lack : K.lookup f__law_lack = some ⟨oc__law_lack, od__law_lack, .func (PySem.W.fnOf "_law_lack" "_law_lack" (defArgs s__law_lack) (defBody s__law_lack) (defScope s__law_lack) .none kV__law_lack dc__law_lack pm__law_lack an__law_lack cd__law_lack ct__law_lack), sl__law_lack⟩) (cc__law_lack : PySem.W.codeIn K cd__law_lack "_law_lack" = true) (k__law_lack : PySem.W.keepIn K (.ref f__law_lack) = true)
    (a_too_fast : PySem.W.nsIn K mainGlobals "too_fast" = some (some (.ref f_too_fast))) (l_too_fast : K.lookup f_too_fast = some ⟨oc_too_fast, od_too_fast, .func (PySem.W.fnOf "too_fast" "too_fast" (defArgs s_too_fast) (defBody s_too_fast) (defScope s_too_fast) .none kV_too_fast dc_too_fast pm_too_fast an_too_fast cd_too_fast ct_too_fast), sl_too_fast⟩) (cc_too_fast : PySem.W.codeIn K cd_too_fast "too_fast" = true) (k_too_fast : PySem.W.keepIn K (.ref f_too_fast) = true)
    (a_clocks : PySem.W.nsIn K mainGlobals "clocks" = some (some (.ref f_clocks))) (l_clocks : K.lookup f_clocks = some ⟨oc_clocks, od_clocks, .func (PySem.W.fnOf "clocks" "clocks" (defArgs s_clocks) (defBody s_clocks) (defScope s_clocks) .none kV_clocks dc_clocks pm_clocks an_clocks cd_clocks ct_clocks), sl_clocks⟩) (cc_clocks : PySem.W.codeIn K cd_clocks "clocks" = true) (k_clocks : PySem.W.keepIn K (.ref f_clocks) = true)
    (a__law_are_others_right : PySem.W.nsIn K mainGlobals "_law_are_others_right" = some (some (.ref f__law_are_others_right))) (l__law_are_others_right : K.lookup f__law_are_others_right = some ⟨oc__law_are_others_right, od__law_are_others_right, .func (PySem.W.fnOf "_law_are_others_right" "_law_are_others_right" (defArgs s__law_are_others_right) (defBody s__law_are_others_right) (defScope s__law_are_others_right) .none kV__law_are_others_right dc__law_are_others_right pm__law_are_others_right an__law_are_others_right cd__law_are_others_right ct__law_are_others_right), sl__law_are_others_right⟩) (cc__law_are_others_right : PySem.W.codeIn K cd__law_are_others_right "_law_are_others_right" = true) (k__law_are_others_right : PySem.W.keepIn K (.ref f__law_are_others_right) = true)
    (a_shows_too_fast : PySem.W.nsIn K mainGlobals "shows_too_fast" = some (some (.ref f_shows_too_fast))) (l_shows_too_fast : K.lookup f_shows_too_fast = some ⟨oc_shows_too_fast, od_shows_too_fast, .func (PySem.W.fnOf "shows_too_fast" "shows_too_fast" (defArgs s_shows_too_fast) (defBody s_shows_too_fast) (defScope s_shows_too_fast) .none kV_shows_too_fast dc_shows_too_fast pm_shows_too_fast an_shows_too_fast cd_shows_too_fast ct_shows_too_fast), sl_shows_too_fast⟩) (cc_shows_too_fast : PySem.W.codeIn K cd_shows_too_fast "shows_too_fast" = true) (k_shows_too_fast : PySem.W.keepIn K (.ref f_shows_too_fast) = true)
    (a__law_is_time_right : PySem.W.nsIn K mainGlobals "_law_is_time_right" = some (some (.ref f__law_is_time_right))) (l__law_is_time_right : K.lookup f__law_is_time_right = some ⟨oc__law_is_time_right, od__law_is_time_right, .func (PySem.W.fnOf "_law_is_time_right" "_law_is_time_right" (defArgs s__law_is_time_right) (defBody s__law_is_time_right) (defScope s__law_is_time_right) .none kV__law_is_time_right dc__law_is_time_right pm__law_is_time_right an__law_is_time_right cd__law_is_time_right ct__law_is_time_right), sl__law_is_time_right⟩) (cc__law_is_time_right : PySem.W.codeIn K cd__law_is_time_right "_law_is_time_right" = true) (k__law_is_time_right : PySem.W.keepIn K (.ref f__law_is_time_right) = true)
    (a_shows_clocks : PySem.W.nsIn K mainGlobals "shows_clocks" = some (some (.ref f_shows_clocks))) (l_shows_clocks : K.lookup f_shows_clocks = some ⟨oc_shows_clocks, od_shows_clocks, .func (PySem.W.fnOf "shows_clocks" "shows_clocks" (defArgs s_shows_clocks) (defBody s_shows_clocks) (defScope s_shows_clocks) .none kV_shows_clocks dc_shows_clocks pm_shows_clocks an_shows_clocks cd_shows_clocks ct_shows_clocks), sl_shows_clocks⟩) (cc_shows_clocks : PySem.W.codeIn K cd_shows_clocks "shows_clocks" = true) (k_shows_clocks : PySem.W.keepIn K (.ref f_shows_clocks) = true)
    (a__law_are_clocks_right : PySem.W.nsIn K mainGlobals "_law_are_clocks_right" = some (some (.ref f__law_are_clocks_right))) (l__law_are_clocks_right : K.lookup f__law_are_clocks_right = some ⟨oc__law_are_clocks_right, od__law_are_clocks_right, .func (PySem.W.fnOf "_law_are_clocks_right" "_law_are_clocks_right" (defArgs s__law_are_clocks_right) (defBody s__law_are_clocks_right) (defScope s__law_are_clocks_right) .none kV__law_are_clocks_right dc__law_are_clocks_right pm__law_are_clocks_right an__law_are_clocks_right cd__law_are_clocks_right ct__law_are_clocks_right), sl__law_are_clocks_right⟩) (cc__law_are_clocks_right : PySem.W.codeIn K cd__law_are_clocks_right "_law_are_clocks_right" = true) (k__law_are_clocks_right : PySem.W.keepIn K (.ref f__law_are_clocks_right) = true)
    (a_law : PySem.W.nsIn K mainGlobals "law" = some (some (.ref f_law))) (l_law : K.lookup f_law = some ⟨oc_law, od_law, .func (PySem.W.fnOf "law" "law" (defArgs s_law) (defBody s_law) (defScope s_law) .none kV_law dc_law pm_law an_law cd_law ct_law), sl_law⟩) (cc_law : PySem.W.codeIn K cd_law "law" = true) (k_law : PySem.W.keepIn K (.ref f_law) = true)
    (z_len : PySem.W.nsIn K mainGlobals "len" = some none) (z_min : PySem.W.nsIn K mainGlobals "min" = some none) (z_max : PySem.W.nsIn K mainGlobals "max" = some none) (z_list : PySem.W.nsIn K mainGlobals "list" = some none) (z_range : PySem.W.nsIn K mainGlobals "range" = some none) (z_sum : PySem.W.nsIn K mainGlobals "sum" = some none) (z_abs : PySem.W.nsIn K mainGlobals "abs" = some none) (z_int : PySem.W.nsIn K mainGlobals "int" = some none) (z_tuple : PySem.W.nsIn K mainGlobals "tuple" = some none) (z_isinstance : PySem.W.nsIn K mainGlobals "isinstance" = some none) (z_bool : PySem.W.nsIn K mainGlobals "bool" = some none) (z_all : PySem.W.nsIn K mainGlobals "all" = some none) (z_enumerate : PySem.W.nsIn K mainGlobals "enumerate" = some none) (z_str : PySem.W.nsIn K mainGlobals "str" = some none) (z_zip : PySem.W.nsIn K mainGlobals "zip" = some none)
    {t_MOST_GATES : Addr} (gc_MOST_GATES : PySem.W.nsIn K mainGlobals "MOST_GATES" = some (some (.int 12 t_MOST_GATES))) {t_MOST_LEAST : Addr} (gc_MOST_LEAST : PySem.W.nsIn K mainGlobals "MOST_LEAST" = some (some (.int 100000 t_MOST_LEAST))) {t_MOST_TIME : Addr} (gc_MOST_TIME : PySem.W.nsIn K mainGlobals "MOST_TIME" = some (some (.int 1000000 t_MOST_TIME))) {t_MOST_OFF : Addr} (gc_MOST_OFF : PySem.W.nsIn K mainGlobals "MOST_OFF" = some (some (.int 1000 t_MOST_OFF))) {t_PAIR : Addr} (gc_PAIR : PySem.W.nsIn K mainGlobals "PAIR" = some (some (.int 2 t_PAIR))) {t_MOST_TIMED : Addr} (gc_MOST_TIMED : PySem.W.nsIn K mainGlobals "MOST_TIMED" = some (some (.int 20 t_MOST_TIMED))) {t_MAY : Addr} (gc_MAY : PySem.W.nsIn K mainGlobals "MAY" = some (some (.str "may" t_MAY))) {t_SURELY : Addr} (gc_SURELY : PySem.W.nsIn K mainGlobals "SURELY" = some (some (.str "surely" t_SURELY))) {t_TRIPLE : Addr} (gc_TRIPLE : PySem.W.nsIn K mainGlobals "TRIPLE" = some (some (.int 3 t_TRIPLE))) {t_FOUR : Addr} (gc_FOUR : PySem.W.nsIn K mainGlobals "FOUR" = some (some (.int 4 t_FOUR))) :
    ∃ fd : FuncData, (∀ (s : Shared) (v : Value), BindsTo s fd ⟨[v], []⟩ [("script", v)]) ∧ ∀ base : Heap, K.In base → base.Ns mainGlobals mg → FnOk l.prog w K mg base (L2.CX l.prog w) 9 fa fd ["script"] (spF K (fun _ => 0) fd_law) := by
  have e := hfa.symm.trans (PySem.W.mg_of X G a_law)
  cases e
  have F__law_places := fun_mk (st := s__law_places) l__law_places cc__law_places k__law_places
  have b__law_places := F__law_places.binds (ps := ps__law_places) fun _ _ _ _ _ _ us hl => match us, hl with | [_, _], _ => rfl
  have D__law_places : Dfn K mg "_law_places" s__law_places ps__law_places := ⟨_, _, F__law_places, PySem.W.mg_of X G a__law_places, b__law_places⟩
  have F__law_pot := fun_mk (st := s__law_pot) l__law_pot cc__law_pot k__law_pot
  have b__law_pot := F__law_pot.binds (ps := ps__law_pot) fun _ _ _ _ _ _ us hl => match us, hl with | [_, _], _ => rfl
  have D__law_pot : Dfn K mg "_law_pot" s__law_pot ps__law_pot := ⟨_, _, F__law_pot, PySem.W.mg_of X G a__law_pot, b__law_pot⟩
  have F__law_take := fun_mk (st := s__law_take) l__law_take cc__law_take k__law_take
  have b__law_take := F__law_take.binds (ps := ps__law_take) fun _ _ _ _ _ _ us hl => match us, hl with | [_, _], _ => rfl
  have D__law_take : Dfn K mg "_law_take" s__law_take ps__law_take := ⟨_, _, F__law_take, PySem.W.mg_of X G a__law_take, b__law_take⟩
  have F__law_of := fun_mk (st := s__law_of) l__law_of cc__law_of k__law_of
  have b__law_of := F__law_of.binds (ps := ps__law_of) fun _ _ _ _ _ _ us hl => match us, hl with | [_, _], _ => rfl
  have D__law_of : Dfn K mg "_law_of" s__law_of ps__law_of := ⟨_, _, F__law_of, PySem.W.mg_of X G a__law_of, b__law_of⟩
  have F_is_tuple := fun_mk (st := s_is_tuple) l_is_tuple cc_is_tuple k_is_tuple
  have b_is_tuple := F_is_tuple.binds (ps := ps_is_tuple) fun _ _ _ _ _ _ us hl => match us, hl with | [_, _, _], _ => rfl
  have D_is_tuple : Dfn K mg "is_tuple" s_is_tuple ps_is_tuple := ⟨_, _, F_is_tuple, PySem.W.mg_of X G a_is_tuple, b_is_tuple⟩
  have F_is_whole := fun_mk (st := s_is_whole) l_is_whole cc_is_whole k_is_whole
  have b_is_whole := F_is_whole.binds (ps := ps_is_whole) fun _ _ _ _ _ _ us hl => match us, hl with | [_], _ => rfl
  have D_is_whole : Dfn K mg "is_whole" s_is_whole ps_is_whole := ⟨_, _, F_is_whole, PySem.W.mg_of X G a_is_whole, b_is_whole⟩
  have F_is_integer := fun_mk (st := s_is_integer) l_is_integer cc_is_integer k_is_integer
  have b_is_integer := F_is_integer.binds (ps := ps_is_integer) fun _ _ _ _ _ _ us hl => match us, hl with | [_, _, _], _ => rfl
  have D_is_integer : Dfn K mg "is_integer" s_is_integer ps_is_integer := ⟨_, _, F_is_integer, PySem.W.mg_of X G a_is_integer, b_is_integer⟩
  have F_is_row := fun_mk (st := s_is_row) l_is_row cc_is_row k_is_row
  have b_is_row := F_is_row.binds (ps := ps_is_row) fun _ _ _ _ _ _ us hl => match us, hl with | [_, _, _], _ => rfl
  have D_is_row : Dfn K mg "is_row" s_is_row ps_is_row := ⟨_, _, F_is_row, PySem.W.mg_of X G a_is_row, b_is_row⟩
  have F_check_least := fun_mk (st := s_check_least) l_check_least cc_check_least k_check_least
  have b_check_least := F_check_least.binds (ps := ps_check_least) fun _ _ _ _ _ _ us hl => match us, hl with | [_], _ => rfl
  have D_check_least : Dfn K mg "check_least" s_check_least ps_check_least := ⟨_, _, F_check_least, PySem.W.mg_of X G a_check_least, b_check_least⟩
  have F_check_seen := fun_mk (st := s_check_seen) l_check_seen cc_check_seen k_check_seen
  have b_check_seen := F_check_seen.binds (ps := ps_check_seen) fun _ _ _ _ _ _ us hl => match us, hl with | [_, _, _], _ => rfl
  have D_check_seen : Dfn K mg "check_seen" s_check_seen ps_check_seen := ⟨_, _, F_check_seen, PySem.W.mg_of X G a_check_seen, b_check_seen⟩
  have F_needed := fun_mk (st := s_needed) l_needed cc_needed k_needed
  have b_needed := F_needed.binds (ps := ps_needed) fun _ _ _ _ _ _ us hl => match us, hl with | [_, _, _], _ => rfl
  have D_needed : Dfn K mg "needed" s_needed ps_needed := ⟨_, _, F_needed, PySem.W.mg_of X G a_needed, b_needed⟩
  have F_shortest := fun_mk (st := s_shortest) l_shortest cc_shortest k_shortest
  have b_shortest := F_shortest.binds (ps := ps_shortest) fun _ _ _ _ _ _ us hl => match us, hl with | [_, _], _ => rfl
  have D_shortest : Dfn K mg "shortest" s_shortest ps_shortest := ⟨_, _, F_shortest, PySem.W.mg_of X G a_shortest, b_shortest⟩
  have F_averages := fun_mk (st := s_averages) l_averages cc_averages k_averages
  have b_averages := F_averages.binds (ps := ps_averages) fun _ _ _ _ _ _ us hl => match us, hl with | [_, _, _, _, _], _ => rfl
  have D_averages : Dfn K mg "averages" s_averages ps_averages := ⟨_, _, F_averages, PySem.W.mg_of X G a_averages, b_averages⟩
  have F_over := fun_mk (st := s_over) l_over cc_over k_over
  have b_over := F_over.binds (ps := ps_over) fun _ _ _ _ _ _ us hl => match us, hl with | [_, _, _, _], _ => rfl
  have D_over : Dfn K mg "over" s_over ps_over := ⟨_, _, F_over, PySem.W.mg_of X G a_over, b_over⟩
  have F__law_gcd := fun_mk (st := s__law_gcd) l__law_gcd cc__law_gcd k__law_gcd
  have b__law_gcd := F__law_gcd.binds (ps := ps__law_gcd) fun _ _ _ _ _ _ us hl => match us, hl with | [_, _], _ => rfl
  have D__law_gcd : Dfn K mg "_law_gcd" s__law_gcd ps__law_gcd := ⟨_, _, F__law_gcd, PySem.W.mg_of X G a__law_gcd, b__law_gcd⟩
  have F__law_is_speed_right := fun_mk (st := s__law_is_speed_right) l__law_is_speed_right cc__law_is_speed_right k__law_is_speed_right
  have b__law_is_speed_right := F__law_is_speed_right.binds (ps := ps__law_is_speed_right) fun _ _ _ _ _ _ us hl => match us, hl with | [_, _, _, _], _ => rfl
  have D__law_is_speed_right : Dfn K mg "_law_is_speed_right" s__law_is_speed_right ps__law_is_speed_right := ⟨_, _, F__law_is_speed_right, PySem.W.mg_of X G a__law_is_speed_right, b__law_is_speed_right⟩
  have F__law_row := fun_mk (st := s__law_row) l__law_row cc__law_row k__law_row
  have b__law_row := F__law_row.binds (ps := ps__law_row) fun _ _ _ _ _ _ us hl => match us, hl with | [_, _, _], _ => rfl
  have D__law_row : Dfn K mg "_law_row" s__law_row ps__law_row := ⟨_, _, F__law_row, PySem.W.mg_of X G a__law_row, b__law_row⟩
  have F__law_rooms := fun_mk (st := s__law_rooms) l__law_rooms cc__law_rooms k__law_rooms
  have b__law_rooms := F__law_rooms.binds (ps := ps__law_rooms) fun _ _ _ _ _ _ us hl => match us, hl with | [_, _], _ => rfl
  have D__law_rooms : Dfn K mg "_law_rooms" s__law_rooms ps__law_rooms := ⟨_, _, F__law_rooms, PySem.W.mg_of X G a__law_rooms, b__law_rooms⟩
  have F__law_half := fun_mk (st := s__law_half) l__law_half cc__law_half k__law_half
  have b__law_half := F__law_half.binds (ps := ps__law_half) fun _ _ _ _ _ _ us hl => match us, hl with | [_], _ => rfl
  have D__law_half : Dfn K mg "_law_half" s__law_half ps__law_half := ⟨_, _, F__law_half, PySem.W.mg_of X G a__law_half, b__law_half⟩
  have F_least_off := fun_mk (st := s_least_off) l_least_off cc_least_off k_least_off
  have b_least_off := F_least_off.binds (ps := ps_least_off) fun _ _ _ _ _ _ us hl => match us, hl with | [_, _], _ => rfl
  have D_least_off : Dfn K mg "least_off" s_least_off ps_least_off := ⟨_, _, F_least_off, PySem.W.mg_of X G a_least_off, b_least_off⟩
  have F_check_rows := fun_mk (st := s_check_rows) l_check_rows cc_check_rows k_check_rows
  have b_check_rows := F_check_rows.binds (ps := ps_check_rows) fun _ _ _ _ _ _ us hl => match us, hl with | [_, _, _], _ => rfl
  have D_check_rows : Dfn K mg "check_rows" s_check_rows ps_check_rows := ⟨_, _, F_check_rows, PySem.W.mg_of X G a_check_rows, b_check_rows⟩
  have F_slack_of := fun_mk (st := s_slack_of) l_slack_of cc_slack_of k_slack_of
  have b_slack_of := F_slack_of.binds (ps := ps_slack_of) fun _ _ _ _ _ _ us hl => match us, hl with | [_, _], _ => rfl
  have D_slack_of : Dfn K mg "slack_of" s_slack_of ps_slack_of := ⟨_, _, F_slack_of, PySem.W.mg_of X G a_slack_of, b_slack_of⟩
  have F_least_clocks := fun_mk (st := s_least_clocks) l_least_clocks cc_least_clocks k_least_clocks
  have b_least_clocks := F_least_clocks.binds (ps := ps_least_clocks) fun _ _ _ _ _ _ us hl => match us, hl with | [_, _], _ => rfl
  have D_least_clocks : Dfn K mg "least_clocks" s_least_clocks ps_least_clocks := ⟨_, _, F_least_clocks, PySem.W.mg_of X G a_least_clocks, b_least_clocks⟩
  have F__law_lack := fun_mk (st := s__law_lack) l__law_lack cc__law_lack k__law_lack
  have b__law_lack := F__law_lack.binds (ps := ps__law_lack) fun _ _ _ _ _ _ us hl => match us, hl with | [_], _ => rfl
  have D__law_lack : Dfn K mg "_law_lack" s__law_lack ps__law_lack := ⟨_, _, F__law_lack, PySem.W.mg_of X G a__law_lack, b__law_lack⟩
  have F_too_fast := fun_mk (st := s_too_fast) l_too_fast cc_too_fast k_too_fast
  have b_too_fast := F_too_fast.binds (ps := ps_too_fast) fun _ _ _ _ _ _ us hl => match us, hl with | [_, _, _], _ => rfl
  have D_too_fast : Dfn K mg "too_fast" s_too_fast ps_too_fast := ⟨_, _, F_too_fast, PySem.W.mg_of X G a_too_fast, b_too_fast⟩
  have F_clocks := fun_mk (st := s_clocks) l_clocks cc_clocks k_clocks
  have b_clocks := F_clocks.binds (ps := ps_clocks) fun _ _ _ _ _ _ us hl => match us, hl with | [_, _, _], _ => rfl
  have D_clocks : Dfn K mg "clocks" s_clocks ps_clocks := ⟨_, _, F_clocks, PySem.W.mg_of X G a_clocks, b_clocks⟩
  have F__law_are_others_right := fun_mk (st := s__law_are_others_right) l__law_are_others_right cc__law_are_others_right k__law_are_others_right
  have b__law_are_others_right := F__law_are_others_right.binds (ps := ps__law_are_others_right) fun _ _ _ _ _ _ us hl => match us, hl with | [_, _, _, _], _ => rfl
  have D__law_are_others_right : Dfn K mg "_law_are_others_right" s__law_are_others_right ps__law_are_others_right := ⟨_, _, F__law_are_others_right, PySem.W.mg_of X G a__law_are_others_right, b__law_are_others_right⟩
  have F_shows_too_fast := fun_mk (st := s_shows_too_fast) l_shows_too_fast cc_shows_too_fast k_shows_too_fast
  have b_shows_too_fast := F_shows_too_fast.binds (ps := ps_shows_too_fast) fun _ _ _ _ _ _ us hl => match us, hl with | [_, _, _, _], _ => rfl
  have D_shows_too_fast : Dfn K mg "shows_too_fast" s_shows_too_fast ps_shows_too_fast := ⟨_, _, F_shows_too_fast, PySem.W.mg_of X G a_shows_too_fast, b_shows_too_fast⟩
  have F__law_is_time_right := fun_mk (st := s__law_is_time_right) l__law_is_time_right cc__law_is_time_right k__law_is_time_right
  have b__law_is_time_right := F__law_is_time_right.binds (ps := ps__law_is_time_right) fun _ _ _ _ _ _ us hl => match us, hl with | [_, _, _], _ => rfl
  have D__law_is_time_right : Dfn K mg "_law_is_time_right" s__law_is_time_right ps__law_is_time_right := ⟨_, _, F__law_is_time_right, PySem.W.mg_of X G a__law_is_time_right, b__law_is_time_right⟩
  have F_shows_clocks := fun_mk (st := s_shows_clocks) l_shows_clocks cc_shows_clocks k_shows_clocks
  have b_shows_clocks := F_shows_clocks.binds (ps := ps_shows_clocks) fun _ _ _ _ _ _ us hl => match us, hl with | [_, _, _, _], _ => rfl
  have D_shows_clocks : Dfn K mg "shows_clocks" s_shows_clocks ps_shows_clocks := ⟨_, _, F_shows_clocks, PySem.W.mg_of X G a_shows_clocks, b_shows_clocks⟩
  have F__law_are_clocks_right := fun_mk (st := s__law_are_clocks_right) l__law_are_clocks_right cc__law_are_clocks_right k__law_are_clocks_right
  have b__law_are_clocks_right := F__law_are_clocks_right.binds (ps := ps__law_are_clocks_right) fun _ _ _ _ _ _ us hl => match us, hl with | [_, _, _], _ => rfl
  have D__law_are_clocks_right : Dfn K mg "_law_are_clocks_right" s__law_are_clocks_right ps__law_are_clocks_right := ⟨_, _, F__law_are_clocks_right, PySem.W.mg_of X G a__law_are_clocks_right, b__law_are_clocks_right⟩
  have F_law := fun_mk (st := s_law) l_law cc_law k_law
  have b_law := F_law.binds (ps := ps_law) fun _ _ _ _ _ _ us hl => match us, hl with | [_], _ => rfl
  have D_law : Dfn K mg "law" s_law ps_law := ⟨_, _, F_law, PySem.W.mg_of X G a_law, b_law⟩
  have hB : Bu mg := ⟨PySem.W.mg_none_of X G z_len, PySem.W.mg_none_of X G z_min, PySem.W.mg_none_of X G z_max, PySem.W.mg_none_of X G z_list, PySem.W.mg_none_of X G z_range, PySem.W.mg_none_of X G z_sum, PySem.W.mg_none_of X G z_abs, PySem.W.mg_none_of X G z_int, PySem.W.mg_none_of X G z_tuple, PySem.W.mg_none_of X G z_isinstance, PySem.W.mg_none_of X G z_bool, PySem.W.mg_none_of X G z_all, PySem.W.mg_none_of X G z_enumerate, PySem.W.mg_none_of X G z_str, PySem.W.mg_none_of X G z_zip⟩
  have hG : Gc mg := ⟨⟨_, PySem.W.mg_of X G gc_MOST_GATES⟩, ⟨_, PySem.W.mg_of X G gc_MOST_LEAST⟩, ⟨_, PySem.W.mg_of X G gc_MOST_TIME⟩, ⟨_, PySem.W.mg_of X G gc_MOST_OFF⟩, ⟨_, PySem.W.mg_of X G gc_PAIR⟩, ⟨_, PySem.W.mg_of X G gc_MOST_TIMED⟩, ⟨_, PySem.W.mg_of X G gc_MAY⟩, ⟨_, PySem.W.mg_of X G gc_SURELY⟩, ⟨_, PySem.W.mg_of X G gc_TRIPLE⟩, ⟨_, PySem.W.mg_of X G gc_FOUR⟩⟩
  refine ⟨PySem.W.fnOf "law" "law" (defArgs s_law) (defBody s_law) (defScope s_law) .none kV_law dc_law pm_law an_law cd_law ct_law, fun s v => .of_eq rfl, fun base _ _ => ?_⟩
  have C__law_places : Cal l.prog w K mg base 1 (fun _ => 0) "_law_places" ps__law_places fd__law_places := ok__law_places hB hG D__law_places
  have C__law_pot : Cal l.prog w K mg base 1 (fun _ => 0) "_law_pot" ps__law_pot fd__law_pot := ok__law_pot hB hG D__law_pot
  have C__law_take : Cal l.prog w K mg base 1 (fun _ => 0) "_law_take" ps__law_take fd__law_take := ok__law_take hB hG D__law_take
  have C__law_of : Cal l.prog w K mg base 2 (fun _ => 0) "_law_of" ps__law_of fd__law_of := ok__law_of hB hG D__law_of C__law_take
  have C_is_tuple : Cal l.prog w K mg base 1 (fun _ => 0) "is_tuple" ps_is_tuple fd_is_tuple := ok_is_tuple hB hG D_is_tuple
  have C_is_whole : Cal l.prog w K mg base 1 (fun _ => 0) "is_whole" ps_is_whole fd_is_whole := ok_is_whole hB hG D_is_whole
  have C_is_integer : Cal l.prog w K mg base 2 (fun _ => 0) "is_integer" ps_is_integer fd_is_integer := ok_is_integer hB hG D_is_integer C_is_whole
  have C_is_row : Cal l.prog w K mg base 3 (fun _ => 0) "is_row" ps_is_row fd_is_row := ok_is_row hB hG D_is_row C_is_tuple C_is_integer
  have C_check_least : Cal l.prog w K mg base 4 (fun _ => 0) "check_least" ps_check_least fd_check_least := ok_check_least hB hG D_check_least C_is_tuple C_is_row
  have C_check_seen : Cal l.prog w K mg base 5 (fun _ => 0) "check_seen" ps_check_seen fd_check_seen := ok_check_seen hB hG D_check_seen C_check_least C_is_row C_is_integer
  have C_needed : Cal l.prog w K mg base 1 (fun _ => 0) "needed" ps_needed fd_needed := ok_needed hB hG D_needed
  have C_shortest : Cal l.prog w K mg base 1 (fun _ => 0) "shortest" ps_shortest fd_shortest := ok_shortest hB hG D_shortest
  have C_averages : Cal l.prog w K mg base 6 (fun _ => 0) "averages" ps_averages fd_averages := ok_averages hB hG D_averages C_check_seen C_is_integer C_needed C_shortest
  have C_over : Cal l.prog w K mg base 6 (fun _ => 0) "over" ps_over fd_over := ok_over hB hG D_over C_check_seen C_is_integer C_needed
  have C__law_gcd : Cal l.prog w K mg base 1 (fun _ => 0) "_law_gcd" ps__law_gcd fd__law_gcd := ok__law_gcd hB hG D__law_gcd
  have C__law_is_speed_right : Cal l.prog w K mg base 7 (fun _ => 0) "_law_is_speed_right" ps__law_is_speed_right fd__law_is_speed_right := ok__law_is_speed_right hB hG D__law_is_speed_right C__law_take C__law_gcd C_averages C_over
  have C__law_row : Cal l.prog w K mg base 2 (fun _ => 0) "_law_row" ps__law_row fd__law_row := ok__law_row hB hG D__law_row C__law_take
  have C__law_rooms : Cal l.prog w K mg base 1 (fun _ => 0) "_law_rooms" ps__law_rooms fd__law_rooms := ok__law_rooms hB hG D__law_rooms
  have C__law_half : Cal l.prog w K mg base 1 (fun _ => 0) "_law_half" ps__law_half fd__law_half := ok__law_half hB hG D__law_half
  have C_least_off : Cal l.prog w K mg base 6 (fun _ => 0) "least_off" ps_least_off fd_least_off := ok_least_off hB hG D_least_off C_check_seen C_needed
  have C_check_rows : Cal l.prog w K mg base 5 (fun _ => 0) "check_rows" ps_check_rows fd_check_rows := ok_check_rows hB hG D_check_rows C_check_least C_is_tuple C_is_row C_is_integer
  have C_slack_of : Cal l.prog w K mg base 1 (fun _ => 0) "slack_of" ps_slack_of fd_slack_of := ok_slack_of hB hG D_slack_of
  have C_least_clocks : Cal l.prog w K mg base 6 (fun _ => 0) "least_clocks" ps_least_clocks fd_least_clocks := ok_least_clocks hB hG D_least_clocks C_check_rows C_slack_of
  have C__law_lack : Cal l.prog w K mg base 1 (fun _ => 0) "_law_lack" ps__law_lack fd__law_lack := ok__law_lack hB hG D__law_lack
  have C_too_fast : Cal l.prog w K mg base 6 (fun _ => 0) "too_fast" ps_too_fast fd_too_fast := ok_too_fast hB hG D_too_fast C_check_seen C_needed
  have C_clocks : Cal l.prog w K mg base 6 (fun _ => 0) "clocks" ps_clocks fd_clocks := ok_clocks hB hG D_clocks C_check_rows C_slack_of
  have C__law_are_others_right : Cal l.prog w K mg base 7 (fun _ => 0) "_law_are_others_right" ps__law_are_others_right fd__law_are_others_right := ok__law_are_others_right hB hG D__law_are_others_right C__law_take C_least_off C__law_rooms C__law_half C__law_lack C_too_fast C_clocks C_least_clocks
  have C_shows_too_fast : Cal l.prog w K mg base 6 (fun _ => 0) "shows_too_fast" ps_shows_too_fast fd_shows_too_fast := ok_shows_too_fast hB hG D_shows_too_fast C_check_seen C_is_tuple C_is_integer C_needed
  have C__law_is_time_right : Cal l.prog w K mg base 8 (fun _ => 0) "_law_is_time_right" ps__law_is_time_right fd__law_is_time_right := ok__law_is_time_right hB hG D__law_is_time_right C__law_rooms C__law_half C__law_lack C_least_off C__law_take C_too_fast C_shows_too_fast C__law_are_others_right
  have C_shows_clocks : Cal l.prog w K mg base 6 (fun _ => 0) "shows_clocks" ps_shows_clocks fd_shows_clocks := ok_shows_clocks hB hG D_shows_clocks C_check_rows C_is_tuple C_is_integer C_slack_of C_is_row
  have C__law_are_clocks_right : Cal l.prog w K mg base 7 (fun _ => 0) "_law_are_clocks_right" ps__law_are_clocks_right fd__law_are_clocks_right := ok__law_are_clocks_right hB hG D__law_are_clocks_right C__law_rooms C__law_half C__law_lack C_least_clocks C__law_take C_clocks C_shows_clocks C_least_off
  exact okF_law hB hG F_law C__law_places C__law_pot C__law_take C__law_of C__law_row C__law_is_time_right C__law_are_clocks_right C__law_is_speed_right
end Lw
open PySem PySem.W PyProof.Rows
set_option maxHeartbeats 0 in
theorem PySem.Challenge.cw_nevermisread_k10_whole_clocks_and_times_holds : PySem.Challenge.rw_nevermisread_k10_whole_clocks_and_times.Holds := by
  w_on; o_law; k_head; (case hw => w_witness2)
  k_fill
  refine L2.walk_of (l := PySem.Challenge.rw_nevermisread_k10_whole_clocks_and_times) (n := 63) (k := 9) (x := "script") (CX := fun w => L2.CX (PySem.Challenge.rw_nevermisread_k10_whole_clocks_and_times).prog w) (sp := fun w => Pv.spF _ (fun _ => 0) Lw.fd_law) rfl (by decide) rfl ⟨rfl, by decide, by decide⟩ (fun w h Y => PySem.W.kIn_of Y) ?F (fun _ H a ns hl hO hS => Pv.law_true Lw.io_law (Lw.e_law ns) hO hS) (fun _ _ _ _ _ h => Pv.cx_false h)
  case F =>
    intro w mg fa h KX G hmg
    refine' Lw.all_mk KX G hmg ?a__law_places ?l__law_places ?cc__law_places ?k__law_places ?a__law_pot ?l__law_pot ?cc__law_pot ?k__law_pot ?a__law_take ?l__law_take ?cc__law_take ?k__law_take ?a__law_of ?l__law_of ?cc__law_of ?k__law_of ?a_is_tuple ?l_is_tuple ?cc_is_tuple ?k_is_tuple ?a_is_whole ?l_is_whole ?cc_is_whole ?k_is_whole ?a_is_integer ?l_is_integer ?cc_is_integer ?k_is_integer ?a_is_row ?l_is_row ?cc_is_row ?k_is_row ?a_check_least ?l_check_least ?cc_check_least ?k_check_least ?a_check_seen ?l_check_seen ?cc_check_seen ?k_check_seen ?a_needed ?l_needed ?cc_needed ?k_needed ?a_shortest ?l_shortest ?cc_shortest ?k_shortest ?a_averages ?l_averages ?cc_averages ?k_averages ?a_over ?l_over ?cc_over ?k_over ?a__law_gcd ?l__law_gcd ?cc__law_gcd ?k__law_gcd ?a__law_is_speed_right ?l__law_is_speed_right ?cc__law_is_speed_right ?k__law_is_speed_right ?a__law_row ?l__law_row ?cc__law_row ?k__law_row ?a__law_rooms ?l__law_rooms ?cc__law_rooms ?k__law_rooms ?a__law_half ?l__law_half ?cc__law_half ?k__law_half ?a_least_off ?l_least_off ?cc_least_off ?k_least_off ?a_check_rows ?l_check_rows ?cc_check_rows ?k_check_rows ?a_slack_of ?l_slack_of ?cc_slack_of ?k_slack_of ?a_least_clocks ?l_least_clocks ?cc_least_clocks ?k_least_clocks ?a__law_lack ?l__law_lack ?cc__law_lack ?k__law_lack ?a_too_fast ?l_too_fast ?cc_too_fast ?k_too_fast ?a_clocks ?l_clocks ?cc_clocks ?k_clocks ?a__law_are_others_right ?l__law_are_others_right ?cc__law_are_others_right ?k__law_are_others_right ?a_shows_too_fast ?l_shows_too_fast ?cc_shows_too_fast ?k_shows_too_fast ?a__law_is_time_right ?l__law_is_time_right ?cc__law_is_time_right ?k__law_is_time_right ?a_shows_clocks ?l_shows_clocks ?cc_shows_clocks ?k_shows_clocks ?a__law_are_clocks_right ?l__law_are_clocks_right ?cc__law_are_clocks_right ?k__law_are_clocks_right ?a_law ?l_law ?cc_law ?k_law ?z_len ?z_min ?z_max ?z_list ?z_range ?z_sum ?z_abs ?z_int ?z_tuple ?z_isinstance ?z_bool ?z_all ?z_enumerate ?z_str ?z_zip ?gc_MOST_GATES ?gc_MOST_LEAST ?gc_MOST_TIME ?gc_MOST_OFF ?gc_PAIR ?gc_MOST_TIMED ?gc_MAY ?gc_SURELY ?gc_TRIPLE ?gc_FOUR
    (case a__law_places => k_is); (case l__law_places => k_is); (case cc__law_places => k_is); (case k__law_places => k_is); (case a__law_pot => k_is); (case l__law_pot => k_is); (case cc__law_pot => k_is); (case k__law_pot => k_is); (case a__law_take => k_is); (case l__law_take => k_is); (case cc__law_take => k_is); (case k__law_take => k_is); (case a__law_of => k_is); (case l__law_of => k_is); (case cc__law_of => k_is); (case k__law_of => k_is); (case a_is_tuple => k_is); (case l_is_tuple => k_is); (case cc_is_tuple => k_is); (case k_is_tuple => k_is); (case a_is_whole => k_is); (case l_is_whole => k_is); (case cc_is_whole => k_is); (case k_is_whole => k_is); (case a_is_integer => k_is); (case l_is_integer => k_is); (case cc_is_integer => k_is); (case k_is_integer => k_is); (case a_is_row => k_is); (case l_is_row => k_is); (case cc_is_row => k_is); (case k_is_row => k_is); (case a_check_least => k_is); (case l_check_least => k_is); (case cc_check_least => k_is); (case k_check_least => k_is); (case a_check_seen => k_is); (case l_check_seen => k_is); (case cc_check_seen => k_is); (case k_check_seen => k_is); (case a_needed => k_is); (case l_needed => k_is); (case cc_needed => k_is); (case k_needed => k_is); (case a_shortest => k_is); (case l_shortest => k_is); (case cc_shortest => k_is); (case k_shortest => k_is); (case a_averages => k_is); (case l_averages => k_is); (case cc_averages => k_is); (case k_averages => k_is); (case a_over => k_is); (case l_over => k_is); (case cc_over => k_is); (case k_over => k_is); (case a__law_gcd => k_is); (case l__law_gcd => k_is); (case cc__law_gcd => k_is); (case k__law_gcd => k_is); (case a__law_is_speed_right => k_is); (case l__law_is_speed_right => k_is); (case cc__law_is_speed_right => k_is); (case k__law_is_speed_right => k_is); (case a__law_row => k_is); (case l__law_row => k_is); (case cc__law_row => k_is); (case k__law_row => k_is); (case a__law_rooms => k_is); (case l__law_rooms => k_is); (case cc__law_rooms => k_is); (case k__law_rooms => k_is); (case a__law_half => k_is); (case l__law_half => k_is); (case cc__law_half => k_is); (case k__law_half => k_is); (case a_least_off => k_is); (case l_least_off => k_is); (case cc_least_off => k_is); (case k_least_off => k_is); (case a_check_rows => k_is); (case l_check_rows => k_is); (case cc_check_rows => k_is); (case k_check_rows => k_is); (case a_slack_of => k_is); (case l_slack_of => k_is); (case cc_slack_of => k_is); (case k_slack_of => k_is); (case a_least_clocks => k_is); (case l_least_clocks => k_is); (case cc_least_clocks => k_is); (case k_least_clocks => k_is); (case a__law_lack => k_is); (case l__law_lack => k_is); (case cc__law_lack => k_is); (case k__law_lack => k_is); (case a_too_fast => k_is); (case l_too_fast => k_is); (case cc_too_fast => k_is); (case k_too_fast => k_is); (case a_clocks => k_is); (case l_clocks => k_is); (case cc_clocks => k_is); (case k_clocks => k_is); (case a__law_are_others_right => k_is); (case l__law_are_others_right => k_is); (case cc__law_are_others_right => k_is); (case k__law_are_others_right => k_is); (case a_shows_too_fast => k_is); (case l_shows_too_fast => k_is); (case cc_shows_too_fast => k_is); (case k_shows_too_fast => k_is); (case a__law_is_time_right => k_is); (case l__law_is_time_right => k_is); (case cc__law_is_time_right => k_is); (case k__law_is_time_right => k_is); (case a_shows_clocks => k_is); (case l_shows_clocks => k_is); (case cc_shows_clocks => k_is); (case k_shows_clocks => k_is); (case a__law_are_clocks_right => k_is); (case l__law_are_clocks_right => k_is); (case cc__law_are_clocks_right => k_is); (case k__law_are_clocks_right => k_is); (case a_law => k_is); (case l_law => k_is); (case cc_law => k_is); (case k_law => k_is); (case z_len => k_is); (case z_min => k_is); (case z_max => k_is); (case z_list => k_is); (case z_range => k_is); (case z_sum => k_is); (case z_abs => k_is); (case z_int => k_is); (case z_tuple => k_is); (case z_isinstance => k_is); (case z_bool => k_is); (case z_all => k_is); (case z_enumerate => k_is); (case z_str => k_is); (case z_zip => k_is); (case gc_MOST_GATES => k_is); (case gc_MOST_LEAST => k_is); (case gc_MOST_TIME => k_is); (case gc_MOST_OFF => k_is); (case gc_PAIR => k_is); (case gc_MOST_TIMED => k_is); (case gc_MAY => k_is); (case gc_SURELY => k_is); (case gc_TRIPLE => k_is); (case gc_FOUR => k_is)
