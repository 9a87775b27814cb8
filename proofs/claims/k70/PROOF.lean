import PyProof.Rows.All
import Wide.All
import OpenK.AllK
import Wide.FinOn
import HandS.ForMost
import HandS.Exc
import HandS.TupAny
import HandS.Flow
import HandS.Wide
import HandS.WideBits
import HandS.Style
import HandS.Deep
import HandS.DictComp
import KE.KDictKeyed
import KE.DataFind
import KE.DatumIndex
import PyProof.StrOps2
import PyProof.Rows.SeqMore
import HandS.IsInst
import HandS.RaiseMore
import KE.SortData
import PyProof.ReprRoads
import HandS.NoneIn
import PyProof.DictRoads
import HandS.Iter
import HandS.Rev
import HandS.Zip
import HandS.Defaults
import HandS.Ends
import HandS.HeadEnd
import KE.KDictCopyH
import HandS.SortInts
import HandS.HeadHook2
import HandS.Head2
import KE.OsArith
import PyProof.StrLawsRepr
import PyProof.StrLawsIn
import PySem.Challenge.RW_neverdrivendark_k70_prime_cubes_by_value
set_option Elab.async false
set_option linter.all false
set_option maxRecDepth 100000
set_option maxHeartbeats 4000000
set_option autoImplicit false
/-! MP1: data D of the pure reading, results, states of a frame, what of the heap stands for them. -/
namespace MP
open PySem PySem.Spec PyProof.Rows L2

/-- a value as data -/
inductive D where
  | non | bl (b : Bool) | int (i : Int) | str (x : List Nat)
  | tup (xs : List D) | lst (xs : List D) | dct (kvs : List (D × D)) | ins (c : Nat) (fs : List (Str × D))

/-- a result: a value, an exception (class, fields), nothing told -/
inductive Rs (α : Type) where
  | ok (a : α) | ex (c : Nat) (fs : List (Str × D)) | no
def Rs.bind {α β : Type} (x : Rs α) (f : α → Rs β) : Rs β := match x with
  | .ok a => f a
  | .ex c fs => .ex c fs
  | .no => .no
instance : Monad Rs where
  pure := .ok
  bind := Rs.bind
@[simp] theorem Rs.ok_bind {α β : Type} (a : α) (f : α → Rs β) : (Rs.ok a >>= f) = f a := rfl
@[simp] theorem Rs.ex_bind {α β : Type} (c : Nat) (fs : List (Str × D)) (f : α → Rs β) : ((Rs.ex c fs : Rs α) >>= f) = .ex c fs := rfl
@[simp] theorem Rs.no_bind {α β : Type} (f : α → Rs β) : ((Rs.no : Rs α) >>= f) = .no := rfl
@[simp] theorem Rs.pure_eq {α : Type} (a : α) : (pure a : Rs α) = .ok a := rfl
theorem Rs.bind_ok {α β : Type} {x : Rs α} {f : α → Rs β} {b : β} (h : (x >>= f) = .ok b) : ∃ a, x = .ok a ∧ f a = .ok b := by
  cases x with
  | ok a => exact ⟨a, rfl, h⟩
  | ex c fs => cases h
  | no => cases h

/-- a slot: not assigned; data that stands still; a container of this frame's own that may still be changed -/
inductive Sl where
  | un | va (d : D) | ow (d : D)
abbrev Sx := List Sl
def Sl.frz : Sl → Sl
  | .ow d => .va d
  | s => s
def frzAt (S : Sx) (i : Nat) : Sx := match S[i]? with
  | some (.ow d) => S.set i (.va d)
  | _ => S
def frzAll (S : Sx) : Sx := S.map Sl.frz
def frzs (S : Sx) : List Nat → Sx
  | [] => S
  | i :: is => frzs (frzAt S i) is
theorem frzAt_length (S : Sx) (i : Nat) : (frzAt S i).length = S.length := by
  unfold frzAt; split <;> simp
theorem frzs_length : ∀ (is : List Nat) (S : Sx), (frzs S is).length = S.length
  | [], _ => rfl
  | i :: is, S => by unfold frzs; rw [frzs_length is, frzAt_length]

/-- the program, the world, the written part, the addresses of the own classes -/
structure G where
  P : Program
  w : World
  K : PySem.W.Frag
  ca : Nat → Addr

/-- the object of a dict, by its entries -/
def DctO (a : Addr) (es : List DictEntry) : HO := .ext fun h =>
  (a == sysModules) = false ∧ ∃ o ea ep, h.get? a = some o ∧ o.ExactDict ∧ o.data = .dict ea ep ∧ ea.toList = es

mutual
/-- what a key is, up to == -/
def keyOf : D → Option NestedKey
  | .non => some .none
  | .bl b => some (.num (if b = true then 1 else 0))
  | .int i => some (.num i)
  | .str x => some (.text ⟨x.toArray⟩)
  | .tup xs => (keysOf xs).map .tup
  | _ => none
def keysOf : List D → Option (List NestedKey)
  | [] => some []
  | x :: xs => match keyOf x, keysOf xs with
    | some k, some ks => some (k :: ks)
    | _, _ => none
end
def isTup : D → Bool
  | .tup _ => true
  | _ => false
def isIS : D → Bool
  | .int _ => true
  | .str _ => true
  | _ => false
/-- the keys are all tuples, or all whole numbers and texts; no two are one -/
def DKind (kvs : List (D × D)) : Prop := ((∀ p ∈ kvs, isTup p.1 = true) ∨ (∀ p ∈ kvs, isIS p.1 = true)) ∧ (kvs.map fun p => keyOf p.1).Nodup

mutual
/-- in the abstract heap H the value v stands for d -/
inductive Rp (g : G) (H : Hp) : V → D → Prop
  | non : Rp g H .non .non
  | bl (b : Bool) : Rp g H (.bl b) (.bl b)
  | int (i : Int) : Rp g H (.int i) (.int i)
  | str (x : List Nat) : Rp g H (.str ⟨x.toArray⟩) (.str x)
  | tup {a : Addr} {vs : List V} {ds : List D} : SqT g.K H a vs → RpA g H vs ds → Rp g H (.ref a) (.tup ds)
  | lst {a : Addr} {vs : List V} {ds : List D} : SqL g.K H a vs → RpA g H vs ds → Rp g H (.ref a) (.lst ds)
  | dct {a : Addr} {es : List DictEntry} {kvs : List (D × D)} : H a = some (DctO a es) → kvs.length ≤ sizeLine → RpE g H es kvs → DKind kvs → Rp g H (.ref a) (.dct kvs)
  | ins {a dx : Addr} {c : Nat} {fs : List (Str × V)} {fd : List (Str × D)} : H a = some (.ins (g.ca c) dx fs) → RpF g H fs fd → Rp g H (.ref a) (.ins c fd)
inductive RpA (g : G) (H : Hp) : List V → List D → Prop
  | nil : RpA g H [] []
  | cons {v : V} {d : D} {vs : List V} {ds : List D} : Rp g H v d → RpA g H vs ds → RpA g H (v :: vs) (d :: ds)
inductive RpE (g : G) (H : Hp) : List DictEntry → List (D × D) → Prop
  | nil : RpE g H [] []
  | cons {e : DictEntry} {dk d : D} {k : NestedKey} {vk v : V} {es : List DictEntry} {kvs : List (D × D)} : keyOf dk = some k → k.depth ≤ 8 → e.hash = k.hash g.w → RelV vk e.key → Rp g H vk dk → RelV v e.val → Rp g H v d →
      RpE g H es kvs → RpE g H (e :: es) ((dk, d) :: kvs)
inductive RpF (g : G) (H : Hp) : List (Str × V) → List (Str × D) → Prop
  | nil : RpF g H [] []
  | cons {x : Str} {v : V} {d : D} {vs : List (Str × V)} {ds : List (Str × D)} : Rp g H v d → RpF g H vs ds → RpF g H ((x, v) :: vs) ((x, d) :: ds)
end
/-- a part of the heap -/
abbrev Sub (H H' : Hp) : Prop := ∀ a o, H a = some o → H' a = some o
theorem Sub.refl (H : Hp) : Sub H H := fun _ _ h => h
theorem Sub.trans {H H1 H2 : Hp} (a : Sub H H1) (b : Sub H1 H2) : Sub H H2 := fun c o h => b c o (a c o h)
theorem Sub.free {H H' : Hp} (e : Sub H H') {l : Addr} (h : H' l = Option.none) : H l = Option.none := Same.free e h
theorem Sub.rd {H H' : Hp} (e : Sub H H') {a : Addr} {u : HO} (h : Rd H a u) : Rd H' a u := by
  rcases h with h | ⟨o, h⟩
  · exact .inl (e _ _ h)
  · exact .inr ⟨o, e _ _ h⟩
theorem Sub.sqL {K : PySem.W.Frag} {H H' : Hp} (e : Sub H H') {a : Addr} {xs : List V} (h : SqL K H a xs) : SqL K H' a xs := by
  rcases h with h | h
  · exact .inl (e.rd h)
  · exact .inr h
theorem Sub.sqT {K : PySem.W.Frag} {H H' : Hp} (e : Sub H H') {a : Addr} {xs : List V} (h : SqT K H a xs) : SqT K H' a xs := by
  rcases h with h | h
  · exact .inl (e.rd h)
  · exact .inr h
theorem Sub.upd {H : Hp} {a : Addr} {o : HO} (h : H a = none) : Sub H (L2.upd H a o) := fun b u e => by
  rw [upd_ne (ne_of_none e h)]; exact e
theorem Sub.both {H H' : Hp} {a : Addr} {o : HO} (e : Sub H H') : Sub (L2.upd H a o) (L2.upd H' a o) := fun b u h => by
  by_cases hb : b = a
  · subst hb; rw [upd_same] at h ⊢; exact h
  · rw [upd_ne hb] at h ⊢; exact e _ _ h
mutual
theorem Rp.mono {g : G} {H H' : Hp} (e : Sub H H') : ∀ {v : V} {d : D}, Rp g H v d → Rp g H' v d
  | _, _, .non => .non
  | _, _, .bl b => .bl b
  | _, _, .int i => .int i
  | _, _, .str x => .str x
  | _, _, .tup h r => .tup (e.sqT h) (RpA.mono e r)
  | _, _, .lst h r => .lst (e.sqL h) (RpA.mono e r)
  | _, _, .dct h z r k => .dct (e _ _ h) z (RpE.mono e r) k
  | _, _, .ins h r => .ins (e _ _ h) (RpF.mono e r)
theorem RpA.mono {g : G} {H H' : Hp} (e : Sub H H') : ∀ {v : List V} {d : List D}, RpA g H v d → RpA g H' v d
  | _, _, .nil => .nil
  | _, _, .cons h r => .cons (Rp.mono e h) (RpA.mono e r)
theorem RpE.mono {g : G} {H H' : Hp} (e : Sub H H') : ∀ {v : List DictEntry} {d : List (D × D)}, RpE g H v d → RpE g H' v d
  | _, _, .nil => .nil
  | _, _, .cons h1 h2 h3 h4 h5 h6 h7 r => .cons h1 h2 h3 h4 (Rp.mono e h5) h6 (Rp.mono e h7) (RpE.mono e r)
theorem RpF.mono {g : G} {H H' : Hp} (e : Sub H H') : ∀ {v : List (Str × V)} {d : List (Str × D)}, RpF g H v d → RpF g H' v d
  | _, _, .nil => .nil
  | _, _, .cons h r => .cons (Rp.mono e h) (RpF.mono e r)
end
theorem RpA.length {g : G} {H : Hp} : ∀ {vs : List V} {ds : List D}, RpA g H vs ds → vs.length = ds.length
  | _, _, .nil => rfl
  | _, _, .cons _ r => by rw [List.length_cons, List.length_cons, RpA.length r]
theorem RpA.append {g : G} {H : Hp} : ∀ {vs ws : List V} {ds es : List D}, RpA g H vs ds → RpA g H ws es → RpA g H (vs ++ ws) (ds ++ es)
  | _, _, _, _, .nil, s => s
  | _, _, _, _, .cons h r, s => .cons h (RpA.append r s)
theorem RpA.get {g : G} {H : Hp} : ∀ {vs : List V} {ds : List D} {i : Nat} {d : D}, RpA g H vs ds → ds[i]? = some d → ∃ v, vs[i]? = some v ∧ Rp g H v d
  | _, _, _, _, .nil, e => by simp at e
  | _, _, 0, _, .cons h _, e => by simp at e; subst e; exact ⟨_, rfl, h⟩
  | _, _, i + 1, d, .cons _ r, e => by
    obtain ⟨v, h1, h2⟩ := RpA.get (i := i) (d := d) r (by simpa using e)
    exact ⟨v, by simpa using h1, h2⟩
theorem RpA.get' {g : G} {H : Hp} : ∀ {vs : List V} {ds : List D} {i : Nat} {v : V}, RpA g H vs ds → vs[i]? = some v → ∃ d, ds[i]? = some d ∧ Rp g H v d
  | _, _, _, _, .nil, e => by simp at e
  | _, _, 0, _, .cons h _, e => by simp at e; subst e; exact ⟨_, rfl, h⟩
  | _, _, i + 1, d, .cons _ r, e => by
    obtain ⟨v, h1, h2⟩ := RpA.get' (i := i) (v := d) r (by simpa using e)
    exact ⟨v, by simpa using h1, h2⟩
theorem RpA.drop {g : G} {H : Hp} : ∀ {vs : List V} {ds : List D} (n : Nat), RpA g H vs ds → RpA g H (vs.drop n) (ds.drop n)
  | _, _, 0, r => r
  | _, _, _ + 1, .nil => .nil
  | _, _, n + 1, .cons _ r => RpA.drop n r
theorem RpA.take {g : G} {H : Hp} : ∀ {vs : List V} {ds : List D} (n : Nat), RpA g H vs ds → RpA g H (vs.take n) (ds.take n)
  | _, _, 0, _ => .nil
  | _, _, _ + 1, .nil => .nil
  | _, _, n + 1, .cons h r => .cons h (RpA.take n r)
theorem RpA.set {g : G} {H : Hp} {v : V} {d : D} (q : Rp g H v d) : ∀ {vs : List V} {ds : List D} (n : Nat), RpA g H vs ds → RpA g H (vs.set n v) (ds.set n d)
  | _, _, _, .nil => .nil
  | _, _, 0, .cons _ r => .cons q r
  | _, _, n + 1, .cons h r => .cons h (RpA.set q n r)
theorem RpA.eraseIdx {g : G} {H : Hp} : ∀ {vs : List V} {ds : List D} (n : Nat), RpA g H vs ds → RpA g H (vs.eraseIdx n) (ds.eraseIdx n)
  | _, _, _, .nil => .nil
  | _, _, 0, .cons _ r => r
  | _, _, n + 1, .cons h r => .cons h (RpA.eraseIdx n r)
theorem RpA.reverse {g : G} {H : Hp} : ∀ {vs : List V} {ds : List D}, RpA g H vs ds → RpA g H vs.reverse ds.reverse
  | _, _, .nil => .nil
  | _, _, .cons h r => by
    rw [List.reverse_cons, List.reverse_cons]
    exact RpA.append (RpA.reverse r) (.cons h .nil)
theorem RpF.look {g : G} {H : Hp} {x : Str} : ∀ {fs : List (Str × V)} {fd : List (Str × D)} {d : D}, RpF g H fs fd → fd.lookup x = some d → ∃ v, fs.lookup x = some v ∧ Rp g H v d
  | _, _, _, .nil, e => by simp at e
  | _, _, d, .cons (x := y) h r, e => by
    rw [List.lookup_cons] at e ⊢
    cases hb : x == y with
    | true => rw [hb] at e; cases e; exact ⟨_, rfl, h⟩
    | false => rw [hb] at e; exact RpF.look r e

/-- an operand: it stands for d, but the outermost container may be one of the frame's own -/
inductive Ro (g : G) (H Hf : Hp) : V → D → Prop
  | of {v : V} {d : D} : Rp g Hf v d → Ro g H Hf v d
  | lst {a : Addr} {vs : List V} {ds : List D} : H a = some (.lst vs) → RpA g Hf vs ds → Ro g H Hf (.ref a) (.lst ds)
  | dct {a : Addr} {es : List DictEntry} {kvs : List (D × D)} : H a = some (DctO a es) → kvs.length ≤ sizeLine → RpE g Hf es kvs → DKind kvs → Ro g H Hf (.ref a) (.dct kvs)
  | ins {a dx : Addr} {c : Nat} {fs : List (Str × V)} {fd : List (Str × D)} : H a = some (.ins (g.ca c) dx fs) → RpF g Hf fs fd → Ro g H Hf (.ref a) (.ins c fd)
theorem Ro.mono {g : G} {H H' Hf Hf' : Hp} (e : Sub H H') (f : Sub Hf Hf') {v : V} {d : D} (h : Ro g H Hf v d) : Ro g H' Hf' v d := by
  cases h with
  | of h => exact .of (h.mono f)
  | lst h r => exact .lst (e _ _ h) (r.mono f)
  | dct h z r k => exact .dct (e _ _ h) z (r.mono f) k
  | ins h r => exact .ins (e _ _ h) (r.mono f)
/-- seen in the whole heap -/
theorem Ro.all {g : G} {H Hf : Hp} (f : Sub Hf H) {v : V} {d : D} (h : Ro g H Hf v d) : Rp g H v d := by
  cases h with
  | of h => exact h.mono f
  | lst h r => exact .lst (SqL.of h) (r.mono f)
  | dct h z r k => exact .dct h z (r.mono f) k
  | ins h r => exact .ins h (r.mono f)
theorem Ro.list {g : G} {H Hf : Hp} (f : Sub Hf H) {v : V} {ds : List D} (h : Ro g H Hf v (.lst ds)) : ∃ a vs, v = .ref a ∧ SqL g.K H a vs ∧ RpA g Hf vs ds := by
  cases h with
  | of h => cases h with | lst h r => exact ⟨_, _, rfl, Sub.sqL f h, r⟩
  | lst h r => exact ⟨_, _, rfl, SqL.of h, r⟩
theorem Ro.tuple {g : G} {H Hf : Hp} (f : Sub Hf H) {v : V} {ds : List D} (h : Ro g H Hf v (.tup ds)) : ∃ a vs, v = .ref a ∧ SqT g.K Hf a vs ∧ SqT g.K H a vs ∧ RpA g Hf vs ds := by
  cases h with
  | of h => cases h with | tup h r => exact ⟨_, _, rfl, h, Sub.sqT f h, r⟩
theorem Ro.int {g : G} {H Hf : Hp} {v : V} {i : Int} (h : Ro g H Hf v (.int i)) : v = .int i := by
  cases h with | of h => cases h; rfl
theorem Ro.bl {g : G} {H Hf : Hp} {v : V} {i : Bool} (h : Ro g H Hf v (.bl i)) : v = .bl i := by
  cases h with | of h => cases h; rfl
theorem Ro.str {g : G} {H Hf : Hp} {v : V} {x : List Nat} (h : Ro g H Hf v (.str x)) : v = .str ⟨x.toArray⟩ := by
  cases h with | of h => cases h; rfl
theorem Ro.non {g : G} {H Hf : Hp} {v : V} (h : Ro g H Hf v .non) : v = .non := by
  cases h with | of h => cases h; rfl

/-- the container at a is one of the frame's own, with the content d -/
inductive Cell (g : G) (H Hf : Hp) (a : Addr) : D → Prop
  | lst {vs : List V} {ds : List D} : H a = some (.lst vs) → RpA g Hf vs ds → Cell g H Hf a (.lst ds)
  | dct {es : List DictEntry} {kvs : List (D × D)} : H a = some (DctO a es) → kvs.length ≤ sizeLine → RpE g Hf es kvs → DKind kvs → Cell g H Hf a (.dct kvs)
  | ins {dx : Addr} {c : Nat} {fs : List (Str × V)} {fd : List (Str × D)} : H a = some (.ins (g.ca c) dx fs) → RpF g Hf fs fd → Cell g H Hf a (.ins c fd)
theorem Cell.mono {g : G} {H H' Hf Hf' : Hp} {a : Addr} (e : ∀ o, H a = some o → H' a = some o) (f : Sub Hf Hf') {d : D} (h : Cell g H Hf a d) : Cell g H' Hf' a d := by
  cases h with
  | lst h r => exact .lst (e _ h) (r.mono f)
  | dct h z r k => exact .dct (e _ h) z (r.mono f) k
  | ins h r => exact .ins (e _ h) (r.mono f)
theorem Cell.op {g : G} {H Hf : Hp} {a : Addr} {d : D} (h : Cell g H Hf a d) : Ro g H Hf (.ref a) d := by
  cases h with
  | lst h r => exact .lst h r
  | dct h z r k => exact .dct h z r k
  | ins h r => exact .ins h r
theorem Cell.there {g : G} {H Hf : Hp} {a : Addr} {d : D} (h : Cell g H Hf a d) : ∃ o, H a = some o := by
  cases h with
  | lst h r => exact ⟨_, h⟩
  | dct h z r k => exact ⟨_, h⟩
  | ins h r => exact ⟨_, h⟩
/-- frozen: from now on it stands still -/
theorem Cell.frz {g : G} {H Hf : Hp} {a : Addr} {o : HO} (ho : H a = some o) (hn : Hf a = none) {d : D} (h : Cell g H Hf a d) : Rp g (upd Hf a o) (.ref a) d := by
  have e : Sub Hf (upd Hf a o) := Sub.upd hn
  cases h with
  | lst h r => rw [ho] at h; cases h; exact .lst (SqL.of upd_same) (r.mono e)
  | dct h z r k => rw [ho] at h; cases h; exact .dct upd_same z (r.mono e) k
  | ins h r => rw [ho] at h; cases h; exact .ins upd_same (r.mono e)

/-- the slots S of a frame stand in σ, H: Hf is the part of H that stands still; at pr stands what this frame must leave alone -/
structure SRep (g : G) (pr : Addr → Prop) (S : Sx) (Hf : Hp) (σ : L2.St) (H : Hp) : Prop where
  len : S.length = σ.length
  sub : Sub Hf H
  priv : ∀ a, pr a → Hf a = none ∧ ∃ o, H a = some o
  va : ∀ (i : Nat) (d : D), S[i]? = some (.va d) → ∃ v, σ[i]? = some (some v) ∧ Rp g Hf v d
  ow : ∀ (i : Nat) (d : D), S[i]? = some (.ow d) → ∃ a, σ[i]? = some (some (.ref a)) ∧ Hf a = none ∧ ¬ pr a ∧ Cell g H Hf a d
  dis : ∀ (i j : Nat) (d e : D) (a : Addr), S[i]? = some (.ow d) → S[j]? = some (.ow e) → σ[i]? = some (some (.ref a)) → σ[j]? = some (some (.ref a)) → i = j

section
variable {g : G} {pr : Addr → Prop} {S : Sx} {Hf Hf' H H' : Hp} {σ : L2.St}
/-- the heap has grown; nothing that stood has changed; new things may stand still -/
theorem SRep.grow (R : SRep g pr S Hf σ H) (e : Sub H H') (f : Sub Hf Hf') (sub : Sub Hf' H') (new : ∀ a o, H a = some o → Hf a = none → Hf' a = none) : SRep g pr S Hf' σ H' := by
  refine ⟨R.len, sub, fun a h => ?_, fun i d h => ?_, fun i d h => ?_, R.dis⟩
  · obtain ⟨h1, o, h2⟩ := R.priv a h
    exact ⟨new a o h2 h1, o, e _ _ h2⟩
  · obtain ⟨v, h1, h2⟩ := R.va i d h
    exact ⟨v, h1, h2.mono f⟩
  · obtain ⟨a, h1, h2, h3, h4⟩ := R.ow i d h
    obtain ⟨o, h5⟩ := h4.there
    exact ⟨a, h1, new a o h5 h2, h3, h4.mono (fun o h => e _ _ h) f⟩
theorem SRep.growH (R : SRep g pr S Hf σ H) (e : Sub H H') : SRep g pr S Hf σ H' := R.grow e (Sub.refl _) (R.sub.trans e) fun _ _ _ h => h
/-- a new thing that stands still -/
theorem SRep.new {a : Addr} {o : HO} (R : SRep g pr S Hf σ H) (h : H a = none) : SRep g pr S (upd Hf a o) σ (upd H a o) :=
  R.grow (Sub.upd h) (Sub.upd (R.sub.free h)) R.sub.both fun b u q n => by rw [upd_ne (ne_of_none q h)]; exact n
/-- a container of the frame's own is frozen -/
theorem SRep.frzAt (R : SRep g pr S Hf σ H) (i : Nat) : ∃ Hf', Sub Hf Hf' ∧ SRep g pr (frzAt S i) Hf' σ H := by
  unfold MP.frzAt
  split
  · rename_i d hd
    obtain ⟨a, h1, h2, h3, h4⟩ := R.ow i d hd
    obtain ⟨o, ho⟩ := h4.there
    have e : Sub Hf (upd Hf a o) := Sub.upd h2
    have hi : i < S.length := (List.getElem?_eq_some_iff.mp hd).1
    refine ⟨upd Hf a o, e, by simpa using R.len, fun b u hb => ?_, fun b hb => ?_, fun j d' hj => ?_, fun j d' hj => ?_, fun j k d' e' b hj hk => ?_⟩
    · by_cases q : b = a
      · subst q; rw [upd_same] at hb; cases hb; exact ho
      · rw [upd_ne q] at hb; exact R.sub _ _ hb
    · have q : b ≠ a := fun q => h3 (q ▸ hb)
      rw [upd_ne q]; exact R.priv b hb
    · by_cases q : j = i
      · subst q
        rw [List.getElem?_set_self hi] at hj; cases hj
        exact ⟨_, h1, h4.frz ho h2⟩
      · rw [List.getElem?_set_ne (Ne.symm q)] at hj
        obtain ⟨v, k1, k2⟩ := R.va j d' hj
        exact ⟨v, k1, k2.mono e⟩
    · by_cases q : j = i
      · subst q
        rw [List.getElem?_set_self hi] at hj; cases hj
      · rw [List.getElem?_set_ne (Ne.symm q)] at hj
        obtain ⟨b, k1, k2, k3, k4⟩ := R.ow j d' hj
        have nb : b ≠ a := fun z => by subst z; exact q (R.dis j i _ _ _ hj hd k1 h1)
        exact ⟨b, k1, by rw [upd_ne nb]; exact k2, k3, k4.mono (fun _ h => h) e⟩
    · by_cases q : j = i
      · subst q; rw [List.getElem?_set_self hi] at hj; cases hj
      · by_cases q' : k = i
        · subst q'; rw [List.getElem?_set_self hi] at hk; cases hk
        · rw [List.getElem?_set_ne (Ne.symm q)] at hj
          rw [List.getElem?_set_ne (Ne.symm q')] at hk
          exact R.dis j k d' e' b hj hk
  · exact ⟨Hf, Sub.refl _, R⟩
theorem SRep.frzs : ∀ (is : List Nat) {S : Sx} {Hf : Hp}, SRep g pr S Hf σ H → ∃ Hf', Sub Hf Hf' ∧ SRep g pr (frzs S is) Hf' σ H
  | [], _, _, R => ⟨_, Sub.refl _, R⟩
  | i :: is, _, _, R => by
    obtain ⟨H1, e1, R1⟩ := R.frzAt i
    obtain ⟨H2, e2, R2⟩ := SRep.frzs is R1
    exact ⟨H2, e1.trans e2, R2⟩
theorem frzAt_get {S : Sx} {i j : Nat} : (MP.frzAt S i)[j]? = if j = i then (S[j]?).map Sl.frz else S[j]? := by
  unfold MP.frzAt
  split
  · rename_i d hd
    have hi : i < S.length := (List.getElem?_eq_some_iff.mp hd).1
    by_cases q : j = i
    · subst q
      rw [List.getElem?_set_self hi, if_pos rfl, hd]; rfl
    · rw [List.getElem?_set_ne (Ne.symm q), if_neg q]
  · rename_i hd
    by_cases q : j = i
    · subst q
      rw [if_pos rfl]
      cases h : S[j]? with
      | none => rfl
      | some s => cases s with
        | ow d => exact absurd h (hd d)
        | _ => rfl
    · rw [if_neg q]
theorem frzs_get : ∀ {is : List Nat} {S : Sx} {j : Nat}, (MP.frzs S is)[j]? = if j ∈ is then (S[j]?).map Sl.frz else S[j]?
  | [], S, j => by simp [MP.frzs]
  | i :: is, S, j => by
    unfold MP.frzs
    rw [frzs_get, frzAt_get]
    by_cases q : j ∈ is
    · rw [if_pos q, if_pos (List.mem_cons_of_mem _ q)]
      by_cases q' : j = i
      · rw [if_pos q']
        cases S[j]? with
        | none => rfl
        | some s => cases s <;> rfl
      · rw [if_neg q']
    · rw [if_neg q]
      by_cases q' : j = i
      · rw [if_pos q', if_pos (by rw [q']; exact List.mem_cons_self)]
      · rw [if_neg q', if_neg (by simp [q, q'])]
theorem SRep.frzAll (R : SRep g pr S Hf σ H) : ∃ Hf', Sub Hf Hf' ∧ SRep g pr (frzAll S) Hf' σ H := by
  obtain ⟨Hf', e, R'⟩ := R.frzs (List.range S.length)
  refine ⟨Hf', e, ?_⟩
  have : MP.frzs S (List.range S.length) = MP.frzAll S := by
    apply List.ext_getElem?
    intro j
    rw [frzs_get, MP.frzAll, List.getElem?_map]
    by_cases q : j < S.length
    · rw [if_pos (List.mem_range.mpr q)]
    · rw [if_neg (fun z => q (List.mem_range.mp z)), List.getElem?_eq_none (by omega)]; rfl
  rw [← this]; exact R'
/-- a slot forgotten -/
theorem SRep.forget (R : SRep g pr S Hf σ H) (i : Nat) (v : Option V) : SRep g pr (S.set i .un) Hf (σ.set i v) H := by
  have ne : ∀ {j : Nat} {s : Sl}, (S.set i .un)[j]? = some s → s ≠ .un → j ≠ i ∧ S[j]? = some s := fun {j s} h hs => by
    by_cases q : j = i
    · subst q
      by_cases hi : j < S.length
      · rw [List.getElem?_set_self hi] at h; cases h; exact absurd rfl hs
      · rw [List.getElem?_eq_none (by simpa using hi)] at h; cases h
    · rw [List.getElem?_set_ne (Ne.symm q)] at h; exact ⟨q, h⟩
  have keep : ∀ {j : Nat}, j ≠ i → (σ.set i v)[j]? = σ[j]? := fun q => List.getElem?_set_ne (Ne.symm q)
  refine ⟨by simpa using R.len, R.sub, R.priv, fun j d h => ?_, fun j d h => ?_, fun j k d e a hj hk h1 h2 => ?_⟩
  · obtain ⟨q, h⟩ := ne h (by intro z; cases z)
    obtain ⟨w, h1, h2⟩ := R.va j d h
    exact ⟨w, by rw [keep q]; exact h1, h2⟩
  · obtain ⟨q, h⟩ := ne h (by intro z; cases z)
    obtain ⟨a, h1, h2⟩ := R.ow j d h
    exact ⟨a, by rw [keep q]; exact h1, h2⟩
  · obtain ⟨q, hj⟩ := ne hj (by intro z; cases z)
    obtain ⟨q', hk⟩ := ne hk (by intro z; cases z)
    rw [keep q] at h1
    rw [keep q'] at h2
    exact R.dis j k d e a hj hk h1 h2
/-- a slot is given data that stands still -/
theorem SRep.setV (R : SRep g pr S Hf σ H) {i : Nat} {v : V} {d : D} (h : Rp g Hf v d) : SRep g pr (S.set i (.va d)) Hf (σ.set i (some v)) H := by
  have R1 := R.forget i (some v)
  have ne : ∀ {j : Nat} {s : Sl}, (S.set i (.va d))[j]? = some s → (j = i ∧ s = .va d) ∨ (S.set i .un)[j]? = some s := fun {j s} h => by
    by_cases q : j = i
    · subst q
      by_cases hi : j < S.length
      · rw [List.getElem?_set_self hi] at h; cases h; exact .inl ⟨rfl, rfl⟩
      · rw [List.getElem?_eq_none (by simpa using hi)] at h; cases h
    · rw [List.getElem?_set_ne (Ne.symm q)] at h
      exact .inr (by rw [List.getElem?_set_ne (Ne.symm q)]; exact h)
  refine ⟨by simpa using R.len, R.sub, R.priv, fun j e hj => ?_, fun j e hj => ?_, fun j k e e' a hj hk h1 h2 => ?_⟩
  · have hj0 := hj
    rcases ne hj with ⟨rfl, q⟩ | hj
    · cases q
      have hi : j < σ.length := by rw [← R.len]; simpa using (List.getElem?_eq_some_iff.mp hj0).1
      exact ⟨v, List.getElem?_set_self hi, h⟩
    · exact R1.va j e hj
  · rcases ne hj with ⟨rfl, q⟩ | hj
    · cases q
    · exact R1.ow j e hj
  · rcases ne hj with ⟨rfl, q⟩ | hj
    · cases q
    · rcases ne hk with ⟨rfl, q⟩ | hk
      · cases q
      · exact R1.dis j k e e' a hj hk h1 h2
/-- a slot is given a container of the frame's own, held by no other slot -/
theorem SRep.setO (R : SRep g pr S Hf σ H) {i : Nat} {a : Addr} {d : D} (hn : Hf a = none) (hp : ¬ pr a) (hc : Cell g H Hf a d)
    (hu : ∀ (j : Nat) (e : D), j ≠ i → S[j]? = some (.ow e) → σ[j]? ≠ some (some (.ref a))) : SRep g pr (S.set i (.ow d)) Hf (σ.set i (some (.ref a))) H := by
  have R1 := R.forget i (some (.ref a))
  have ne : ∀ {j : Nat} {s : Sl}, (S.set i (.ow d))[j]? = some s → (j = i ∧ s = .ow d) ∨ (j ≠ i ∧ (S.set i .un)[j]? = some s ∧ S[j]? = some s) := fun {j s} h => by
    by_cases q : j = i
    · subst q
      by_cases hi : j < S.length
      · rw [List.getElem?_set_self hi] at h; cases h; exact .inl ⟨rfl, rfl⟩
      · rw [List.getElem?_eq_none (by simpa using hi)] at h; cases h
    · rw [List.getElem?_set_ne (Ne.symm q)] at h
      exact .inr ⟨q, by rw [List.getElem?_set_ne (Ne.symm q)]; exact h, h⟩
  have keep : ∀ {j : Nat}, j ≠ i → (σ.set i (some (V.ref a)))[j]? = σ[j]? := fun q => List.getElem?_set_ne (Ne.symm q)
  refine ⟨by simpa using R.len, R.sub, R.priv, fun j e hj => ?_, fun j e hj => ?_, fun j k e e' b hj hk h1 h2 => ?_⟩
  · rcases ne hj with ⟨rfl, q⟩ | ⟨_, hj, _⟩
    · cases q
    · exact R1.va j e hj
  · have hj0 := hj
    rcases ne hj with ⟨rfl, q⟩ | ⟨_, hj, _⟩
    · cases q
      have hi : j < σ.length := by rw [← R.len]; simpa using (List.getElem?_eq_some_iff.mp hj0).1
      exact ⟨a, List.getElem?_set_self hi, hn, hp, hc⟩
    · exact R1.ow j e hj
  · have hj0 := hj
    have hk0 := hk
    rcases ne hj with ⟨rfl, q⟩ | ⟨qj, hj, hj'⟩
    · rcases ne hk with ⟨rfl, q'⟩ | ⟨qk, hk, hk'⟩
      · rfl
      · have hi : j < σ.length := by rw [← R.len]; simpa using (List.getElem?_eq_some_iff.mp hj0).1
        rw [List.getElem?_set_self hi] at h1; cases h1
        rw [keep qk] at h2
        exact absurd h2 (hu k e' qk hk')
    · rcases ne hk with ⟨rfl, q'⟩ | ⟨qk, hk, hk'⟩
      · have hi : k < σ.length := by rw [← R.len]; simpa using (List.getElem?_eq_some_iff.mp hk0).1
        rw [List.getElem?_set_self hi] at h2; cases h2
        rw [keep qj] at h1
        exact absurd h1 (hu j e qj hj')
      · exact R1.dis j k e e' b hj hk h1 h2
/-- a container of the frame's own is changed -/
theorem SRep.write (R : SRep g pr S Hf σ H) {i : Nat} {a : Addr} {d0 d : D} {o : HO} (hi : S[i]? = some (.ow d0)) (hs : σ[i]? = some (some (.ref a))) (hc : Cell g (upd H a o) Hf a d) :
    SRep g pr (S.set i (.ow d)) Hf σ (upd H a o) := by
  obtain ⟨a', h1, h2, h3, h4⟩ := R.ow i d0 hi
  rw [hs] at h1; cases h1
  have hil : i < S.length := (List.getElem?_eq_some_iff.mp hi).1
  have ne : ∀ {j : Nat} {s : Sl}, (S.set i (.ow d))[j]? = some s → (j = i ∧ s = .ow d) ∨ (j ≠ i ∧ S[j]? = some s) := fun {j s} h => by
    by_cases q : j = i
    · subst q
      rw [List.getElem?_set_self hil] at h; cases h; exact .inl ⟨rfl, rfl⟩
    · rw [List.getElem?_set_ne (Ne.symm q)] at h
      exact .inr ⟨q, h⟩
  refine ⟨by simpa using R.len, fun b u hb => ?_, fun b hb => ?_, fun j e hj => ?_, fun j e hj => ?_, fun j k e e' b hj hk k1 k2 => ?_⟩
  · have q : b ≠ a := fun q => by subst q; rw [h2] at hb; cases hb
    rw [upd_ne q]; exact R.sub _ _ hb
  · have q : b ≠ a := fun q => h3 (q ▸ hb)
    obtain ⟨k1, u, k2⟩ := R.priv b hb
    exact ⟨k1, u, by rw [upd_ne q]; exact k2⟩
  · rcases ne hj with ⟨rfl, q⟩ | ⟨_, hj⟩
    · cases q
    · exact R.va j e hj
  · rcases ne hj with ⟨rfl, q⟩ | ⟨qj, hj⟩
    · cases q
      exact ⟨a, hs, h2, h3, hc⟩
    · obtain ⟨b, k1, k2, k3, k4⟩ := R.ow j e hj
      have nb : b ≠ a := fun z => by subst z; exact qj (R.dis j i _ _ _ hj hi k1 hs)
      exact ⟨b, k1, k2, k3, k4.mono (fun u h => by rw [upd_ne nb]; exact h) (Sub.refl _)⟩
  · rcases ne hj with ⟨ej, q⟩ | ⟨qj, hj'⟩
    · rcases ne hk with ⟨ek, q'⟩ | ⟨qk, hk'⟩
      · rw [ej, ek]
      · rw [ej] at k1 ⊢
        exact R.dis i k _ _ b hi hk' k1 k2
    · rcases ne hk with ⟨ek, q'⟩ | ⟨qk, hk'⟩
      · rw [ek] at k2 ⊢
        exact R.dis j i _ _ b hj' hi k1 k2
      · exact R.dis j k e e' b hj' hk' k1 k2
end
end MP

/-! MP2: the monad of pure readings, what a pure reading says of the machine, operands in a row. -/
namespace MP
open PySem PySem.Spec PyProof.Rows L2

/-- the end of a piece of code from slots: a value, an exception, nothing told -/
inductive Ou (α : Type) where
  | ok (a : α) (s : Sx) | ex (c : Nat) (fs : List (Str × D)) (s : Sx) | no
def M (α : Type) : Type := Sx → Ou α
def M.pure {α : Type} (a : α) : M α := fun s => .ok a s
def M.bind {α β : Type} (x : M α) (f : α → M β) : M β := fun s => match x s with
  | .ok a s' => f a s'
  | .ex c fs s' => .ex c fs s'
  | .no => .no
instance : Monad M where
  pure := M.pure
  bind := M.bind
theorem M.bind_def {α β : Type} (x : M α) (f : α → M β) (s : Sx) : (x >>= f) s = match x s with
  | .ok a s' => f a s'
  | .ex c fs s' => .ex c fs s'
  | .no => .no := rfl
theorem M.pure_def {α : Type} (a : α) (s : Sx) : (pure a : M α) s = .ok a s := rfl
theorem M.bind_ok {α β : Type} {x : M α} {f : α → M β} {s s' : Sx} {a : α} (h : x s = .ok a s') : (x >>= f) s = f a s' := by rw [M.bind_def, h]
/-- a value that may lack -/
def Mo {α : Type} (x : Option α) : M α := fun s => match x with
  | some a => .ok a s
  | none => .no
theorem Mo_some {α : Type} (a : α) (s : Sx) : Mo (some a) s = .ok a s := rfl

/-- an exception's object: class and fields -/
def ExR (g : G) (H : Hp) (cls : Value) (dd : Option Addr) (c : Nat) (fs : List (Str × D)) : Prop :=
  cls = .ref (g.ca c) ∧ ((fs = [] ∧ dd = none) ∨ ∃ d l, dd = some d ∧ H d = some (.xd l) ∧ ∀ x e, fs.lookup x = some e → ∃ v, l.lookup x = some v ∧ Rp g H v e)

/-- what is told of a value: the heap at the start; slots, heap, its still part behind -/
abbrev Psi := Hp → Sx → L2.St → Hp → Hp → V → D → Prop
def isCont : D → Bool
  | .lst _ => true
  | .dct _ => true
  | .ins _ _ => true
  | _ => false
/-- strong: it stands still -/
def Ps (g : G) : Psi := fun _ _ _ _ Hf v d => Rp g Hf v d
/-- an operand -/
def Po (g : G) : Psi := fun _ _ _ H' Hf v d => Ro g H' Hf v d
/-- new, if it is a container -/
def Pw (g : G) : Psi := fun H S' σ H' Hf v d => (isCont d = false ∧ Rp g Hf v d) ∨ ∃ a, v = .ref a ∧ H a = none ∧ Hf a = none ∧ Cell g H' Hf a d ∧ ∀ (i : Nat) (e : D), S'[i]? = some (.ow e) → σ[i]? ≠ some (some (.ref a))
class Anti (Ψ : Psi) : Prop where
  anti : ∀ {H H1 H' Hf : Hp} {S' : Sx} {σ : L2.St} {v : V} {d : D}, Sub H H1 → Ψ H1 S' σ H' Hf v d → Ψ H S' σ H' Hf v d
instance (g : G) : Anti (Ps g) := ⟨fun _ h => h⟩
instance (g : G) : Anti (Po g) := ⟨fun _ h => h⟩
instance (g : G) : Anti (Pw g) := ⟨fun e h => by
  rcases h with h | ⟨a, h1, h2, h3⟩
  · exact .inl h
  · exact .inr ⟨a, h1, e.free h2, h3⟩⟩

section
variable (g : G) (W : WX) (pr : Addr → Prop)
/-- what is wanted behind a piece of code that ends as o -/
def AfX (c : Nat) (fs : List (Str × D)) (S' : Sx) (σ : L2.St) (H Hf : Hp) : Prop :=
  ∀ cls dd H' Hf', Sub H H' → Sub Hf Hf' → SRep g pr S' Hf' σ H' → ExR g H' cls dd c fs → W cls dd σ H'
def Af (Ψ : Psi) (o : Ou D) (σ : L2.St) (H Hf : Hp) (Q : VK) : Prop := match o with
  | .ok d S' => ∀ v H' Hf', Sub H H' → Sub Hf Hf' → SRep g pr S' Hf' σ H' → Ψ H S' σ H' Hf' v d → Q v H'
  | .ex c fs S' => AfX g W pr c fs S' σ H Hf
  | .no => False
def AfT (o : Ou Bool) (σ : L2.St) (H Hf : Hp) (Q : Bool → Hp → Prop) : Prop := match o with
  | .ok b S' => ∀ H' Hf', Sub H H' → Sub Hf Hf' → SRep g pr S' Hf' σ H' → Q b H'
  | .ex c fs S' => AfX g W pr c fs S' σ H Hf
  | .no => False
end
variable {g : G} {W : WX} {pr : Addr → Prop} {S : Sx} {σ : L2.St} {H H1 Hf Hf1 : Hp} {Ψ : Psi}
theorem AfX.mono {c : Nat} {fs : List (Str × D)} {S' : Sx} (h : AfX g W pr c fs S' σ H Hf) (e : Sub H H1) (f : Sub Hf Hf1) : AfX g W pr c fs S' σ H1 Hf1 :=
  fun cls dd H' Hf' a b R x => h cls dd H' Hf' (e.trans a) (f.trans b) R x
theorem Af.mono [Anti Ψ] {o : Ou D} {Q : VK} (h : Af g W pr Ψ o σ H Hf Q) (e : Sub H H1) (f : Sub Hf Hf1) : Af g W pr Ψ o σ H1 Hf1 Q := by
  cases o with
  | ok d S' => exact fun v H' Hf' a b R x => h v H' Hf' (e.trans a) (f.trans b) R (Anti.anti e x)
  | ex c fs S' => exact AfX.mono h e f
  | no => exact h
theorem AfT.mono {o : Ou Bool} {Q : Bool → Hp → Prop} (h : AfT g W pr o σ H Hf Q) (e : Sub H H1) (f : Sub Hf Hf1) : AfT g W pr o σ H1 Hf1 Q := by
  cases o with
  | ok d S' => exact fun H' Hf' a b R => h H' Hf' (e.trans a) (f.trans b) R
  | ex c fs S' => exact AfX.mono h e f
  | no => exact h

variable (g W)
/-- the reading of an expression by f -/
def Te (Ψ : Psi) (f : M D) : TE := fun σ H Q => ∃ pr S Hf, SRep g pr S Hf σ H ∧ Af g W pr Ψ (f S) σ H Hf Q
def Tt (f : M Bool) : TT := fun σ H Q => ∃ pr S Hf, SRep g pr S Hf σ H ∧ AfT g W pr (f S) σ H Hf Q
variable {g W}
theorem _root_.L2.PE.imp {X : Cx} {e : Expr} {t t' : TE} (h : PE X e t) (hi : ∀ σ H Q, t' σ H Q → t σ H Q) : PE X e t' := ⟨fun pins s σ H Q I q => h.run pins s σ H Q I (hi σ H Q q)⟩
theorem _root_.L2.PT.imp {X : Cx} {e : Expr} {t t' : TT} (h : PT X e t) (hi : ∀ σ H Q, t' σ H Q → t σ H Q) : PT X e t' := ⟨fun pins s σ H Q I q => h.run pins s σ H Q I (hi σ H Q q)⟩
theorem _root_.L2.PW.imp {X : Cx} {e : Expr} {t t' : TT} (h : PW X e t) (hi : ∀ σ H Q, t' σ H Q → t σ H Q) : PW X e t' := ⟨fun wh pins s σ H Q I q => h.run wh pins s σ H Q I (hi σ H Q q)⟩
theorem _root_.L2.PS.imp {X : Cx} {e : Stmt} {t t' : TS} (h : PS X e t) (hi : ∀ D σ H, t' D σ H → t D σ H) : PS X e t' := ⟨fun pins s σ H Q I q => h.run pins s σ H Q I (hi Q σ H q)⟩
theorem _root_.L2.PSs.imp {X : Cx} {e : List Stmt} {t t' : TS} (h : PSs X e t) (hi : ∀ D σ H, t' D σ H → t D σ H) : PSs X e t' := ⟨fun pins s σ H Q I q => h.run pins s σ H Q I (hi Q σ H q)⟩
theorem Te.of (R : SRep g pr S Hf σ H) {f : M D} {Q : VK} (h : Af g W pr Ψ (f S) σ H Hf Q) : Te g W Ψ f σ H Q := ⟨pr, S, Hf, R, h⟩

/-- a container that no slot holds as its own, and that is not private, may be frozen -/
theorem SRep.frz {a : Addr} {o : HO} (R : SRep g pr S Hf σ H) (hp : ¬ pr a) (hs : ∀ (i : Nat) (d : D), S[i]? = some (.ow d) → σ[i]? ≠ some (some (.ref a)))
    (hn : Hf a = none) (ho : H a = some o) : SRep g pr S (upd Hf a o) σ H := by
  have e : Sub Hf (upd Hf a o) := Sub.upd hn
  refine ⟨R.len, fun b u hb => ?_, fun b hb => ?_, fun i d h => ?_, fun i d h' => ?_, R.dis⟩
  · by_cases q : b = a
    · subst q; rw [upd_same] at hb; cases hb; exact ho
    · rw [upd_ne q] at hb; exact R.sub _ _ hb
  · have q : b ≠ a := fun q => hp (q ▸ hb)
    rw [upd_ne q]; exact R.priv b hb
  · obtain ⟨v, h1, h2⟩ := R.va i d h
    exact ⟨v, h1, h2.mono e⟩
  · obtain ⟨b, h1, h2, h3, h4⟩ := R.ow i d h'
    have q : b ≠ a := fun q => hs i d h' (q ▸ h1)
    exact ⟨b, h1, by rw [upd_ne q]; exact h2, h3, h4.mono (fun _ h => h) e⟩
/-- a new thing is held by no slot and is not private -/
theorem SRep.new_free {a : Addr} (R : SRep g pr S Hf σ H) (h : H a = none) : ¬ pr a ∧ Hf a = none ∧ ∀ (i : Nat) (d : D), S[i]? = some (.ow d) → σ[i]? ≠ some (some (.ref a)) := by
  refine ⟨fun hp => ?_, R.sub.free h, fun i d hi hs => ?_⟩
  · obtain ⟨_, o, ho⟩ := R.priv a hp
    rw [h] at ho; cases ho
  · obtain ⟨b, h1, _, _, h4⟩ := R.ow i d hi
    rw [hs] at h1; cases h1
    obtain ⟨o, ho⟩ := h4.there
    rw [h] at ho; cases ho
theorem Te.of_o {f : M D} {Q : VK} (h : Te g W (Po g) f σ H Q) : Te g W (Pw g) f σ H Q := by
  obtain ⟨pr, S, Hf, R, q⟩ := h
  refine ⟨pr, S, Hf, R, ?_⟩
  revert q
  cases f S with
  | ok d S' =>
    intro q v H' Hf' a b R' x
    refine q v H' Hf' a b R' ?_
    rcases x with ⟨_, x⟩ | ⟨a, rfl, _, _, c, _⟩
    · exact .of x
    · exact c.op
  | ex c fs S' => exact id
  | no => exact id
theorem te_wo {X : Cx} {e : Expr} {f : M D} (h : PE X e (Te g W (Pw g) f)) : PE X e (Te g W (Po g) f) := h.imp fun σ H Q q => q.of_o
theorem te_so {X : Cx} {e : Expr} {f : M D} (h : PE X e (Te g W (Ps g) f)) : PE X e (Te g W (Po g) f) := h.imp fun σ H Q ⟨pr, S, Hf, R, q⟩ => ⟨pr, S, Hf, R, by
  revert q
  cases f S with
  | ok d S' => exact fun q v H' Hf' a b R' x => q v H' Hf' a b R' (.of x)
  | ex c fs S' => exact id
  | no => exact id⟩
theorem te_ws {X : Cx} {e : Expr} {f : M D} (h : PE X e (Te g W (Pw g) f)) : PE X e (Te g W (Ps g) f) := h.imp fun σ H Q ⟨pr, S, Hf, R, q⟩ => ⟨pr, S, Hf, R, by
  revert q
  cases f S with
  | ok d S' =>
    intro q v H' Hf' a b R' x
    rcases x with ⟨_, x⟩ | ⟨p, rfl, h0, hn, c, hu⟩
    · exact q v H' Hf' a b R' x
    · obtain ⟨o, ho⟩ := c.there
      have np : ¬ pr p := fun hp => by
        obtain ⟨_, u, hu⟩ := R.priv p hp
        rw [h0] at hu; cases hu
      exact q _ H' (upd Hf' p o) a (b.trans (Sub.upd hn)) (R'.frz np hu hn ho) (c.frz ho hn)
  | ex c fs S' => exact id
  | no => exact id⟩

/-! ### operands in a row -/
/-- one operand, then the rest -/
theorem op1 [Anti Ψ] {fa : M D} {k : D → M D} {Q : VK} (R : SRep g pr S Hf σ H) (h : Af g W pr Ψ ((fa >>= k) S) σ H Hf Q) :
    Te g W (Po g) fa σ H fun v H1 => ∃ S1 Hf1 d, Sub H H1 ∧ Sub Hf Hf1 ∧ SRep g pr S1 Hf1 σ H1 ∧ Ro g H1 Hf1 v d ∧ Af g W pr Ψ (k d S1) σ H1 Hf1 Q := by
  refine ⟨pr, S, Hf, R, ?_⟩
  rw [M.bind_def] at h
  revert h
  cases fa S with
  | ok d S' => exact fun h v H' Hf' a b R' x => ⟨S', Hf', d, a, b, R', x, Af.mono (σ := σ) (H := H) (Hf := Hf) h a b⟩
  | ex c fs S' => exact id
  | no => exact id
theorem op1s [Anti Ψ] {fa : M D} {k : D → M D} {Q : VK} (R : SRep g pr S Hf σ H) (h : Af g W pr Ψ ((fa >>= k) S) σ H Hf Q) :
    Te g W (Ps g) fa σ H fun v H1 => ∃ S1 Hf1 d, Sub H H1 ∧ Sub Hf Hf1 ∧ SRep g pr S1 Hf1 σ H1 ∧ Rp g Hf1 v d ∧ Af g W pr Ψ (k d S1) σ H1 Hf1 Q := by
  refine ⟨pr, S, Hf, R, ?_⟩
  rw [M.bind_def] at h
  revert h
  cases fa S with
  | ok d S' => exact fun h v H' Hf' a b R' x => ⟨S', Hf', d, a, b, R', x, Af.mono (σ := σ) (H := H) (Hf := Hf) h a b⟩
  | ex c fs S' => exact id
  | no => exact id
theorem Te.weak {f : M D} {Q Q' : VK} (h : Te g W Ψ f σ H Q) (q : ∀ v H', Q v H' → Q' v H') : Te g W Ψ f σ H Q' := by
  obtain ⟨pr, S, Hf, R, h⟩ := h
  refine ⟨pr, S, Hf, R, ?_⟩
  revert h
  cases f S with
  | ok d S' => exact fun h v H' Hf' a b R' x => q _ _ (h v H' Hf' a b R' x)
  | ex c fs S' => exact id
  | no => exact id
/-- two operands, then the rest -/
theorem op2 [Anti Ψ] {fa fb : M D} {k : D → D → M D} {Q : VK} (R : SRep g pr S Hf σ H) (h : Af g W pr Ψ ((fa >>= fun x => fb >>= fun y => k x y) S) σ H Hf Q) :
    Te g W (Po g) fa σ H fun v H1 => Te g W (Po g) fb σ H1 fun u H2 => ∃ S2 Hf2 d e, Sub H H2 ∧ Sub Hf Hf2 ∧ SRep g pr S2 Hf2 σ H2 ∧ Ro g H2 Hf2 v d ∧ Ro g H2 Hf2 u e ∧ Af g W pr Ψ (k d e S2) σ H2 Hf2 Q :=
  (op1 R h).weak fun v H1 ⟨S1, Hf1, d, a, b, R1, x, h1⟩ => (op1 R1 h1).weak fun u H2 ⟨S2, Hf2, e, a', b', R2, y, h2⟩ => ⟨S2, Hf2, d, e, a.trans a', b.trans b', R2, x.mono a' b', y, h2⟩
theorem op3 [Anti Ψ] {fa fb fc : M D} {k : D → D → D → M D} {Q : VK} (R : SRep g pr S Hf σ H) (h : Af g W pr Ψ ((fa >>= fun x => fb >>= fun y => fc >>= fun z => k x y z) S) σ H Hf Q) :
    Te g W (Po g) fa σ H fun v H1 => Te g W (Po g) fb σ H1 fun u H2 => Te g W (Po g) fc σ H2 fun t H3 =>
      ∃ S3 Hf3 d e c, Sub H H3 ∧ Sub Hf Hf3 ∧ SRep g pr S3 Hf3 σ H3 ∧ Ro g H3 Hf3 v d ∧ Ro g H3 Hf3 u e ∧ Ro g H3 Hf3 t c ∧ Af g W pr Ψ (k d e c S3) σ H3 Hf3 Q :=
  (op2 R h).weak fun v H1 h => h.weak fun u H2 ⟨S2, Hf2, d, e, a, b, R2, x, y, h2⟩ => (op1 R2 h2).weak fun t H3 ⟨S3, Hf3, c, a', b', R3, z, h3⟩ => ⟨S3, Hf3, d, e, c, a.trans a', b.trans b', R3, x.mono a' b', y.mono a' b', z, h3⟩

end MP

/-! MP3: operators on data, and that the machine's operators do the same. -/
namespace MP
open PySem PySem.Spec PyProof.Rows L2

/-! ### data without objects and dicts, of bounded depth; == -/
mutual
/-- plain data (no dict, no object) of depth n at most -/
def fit (n : Nat) : D → Bool
  | .non => true
  | .bl _ => true
  | .int _ => true
  | .str _ => true
  | .tup xs => match n with
    | 0 => false
    | n + 1 => fits n xs
  | .lst xs => match n with
    | 0 => false
    | n + 1 => fits n xs
  | .dct _ => false
  | .ins _ _ => false
def fits (n : Nat) : List D → Bool
  | [] => true
  | x :: xs => fit n x && fits n xs
end
mutual
def py : D → PyData
  | .non => .none
  | .bl b => .bool b
  | .int i => .int i
  | .str x => .str ⟨x.toArray⟩
  | .tup xs => .tuple (pys xs)
  | .lst xs => .list (pys xs)
  | .dct _ => .none
  | .ins _ _ => .none
def pys : List D → List PyData
  | [] => []
  | x :: xs => py x :: pys xs
end
mutual
/-- == of plain data -/
def deq : D → D → Bool
  | .non, .non => true
  | .bl a, .bl b => a == b
  | .bl a, .int j => decide ((if a = true then 1 else 0) = j)
  | .int i, .bl b => decide (i = (if b = true then 1 else 0))
  | .int i, .int j => decide (i = j)
  | .str x, .str y => decide (x = y)
  | .tup xs, .tup ys => deqs xs ys
  | .lst xs, .lst ys => deqs xs ys
  | _, _ => false
def deqs : List D → List D → Bool
  | [], [] => true
  | x :: xs, y :: ys => deq x y && deqs xs ys
  | _, _ => false
end
mutual
theorem plain_py {n : Nat} : ∀ {d : D}, fit n d = true → (py d).plain = true ∧ (py d).depth ≤ n
  | .non, _ => ⟨by simp only [py, PyData.plain], by simp only [py, PyData.depth]; omega⟩
  | .bl _, _ => ⟨by simp only [py, PyData.plain], by simp only [py, PyData.depth]; omega⟩
  | .int _, _ => ⟨by simp only [py, PyData.plain], by simp only [py, PyData.depth]; omega⟩
  | .str _, _ => ⟨by simp only [py, PyData.plain], by simp only [py, PyData.depth]; omega⟩
  | .tup xs, h => by
    cases n with
    | zero => simp [fit] at h
    | succ n =>
      have h' : fits n xs = true := by simpa [fit] using h
      obtain ⟨a, b⟩ := plain_pys h'
      exact ⟨by simp only [py, PyData.plain]; exact a, by simp only [py, PyData.depth]; omega⟩
  | .lst xs, h => by
    cases n with
    | zero => simp [fit] at h
    | succ n =>
      have h' : fits n xs = true := by simpa [fit] using h
      obtain ⟨a, b⟩ := plain_pys h'
      exact ⟨by simp only [py, PyData.plain]; exact a, by simp only [py, PyData.depth]; omega⟩
  | .dct _, h => by simp [fit] at h
  | .ins _ _, h => by simp [fit] at h
theorem plain_pys {n : Nat} : ∀ {ds : List D}, fits n ds = true → PyData.plainAll (pys ds) = true ∧ PyData.depthAll (pys ds) ≤ n
  | [], _ => ⟨by simp only [pys, PyData.plainAll], by simp only [pys, PyData.depthAll]; omega⟩
  | d :: ds, h => by
    have h' : fit n d = true ∧ fits n ds = true := by simpa [fits] using h
    obtain ⟨a, b⟩ := plain_py h'.1
    obtain ⟨a', b'⟩ := plain_pys h'.2
    exact ⟨by simp only [pys, PyData.plainAll, a, a', Bool.and_self], by simp only [pys, PyData.depthAll]; omega⟩
end
theorem str_eq_iff (x y : List Nat) : ((⟨x.toArray⟩ : Str) == ⟨y.toArray⟩) = decide (x = y) := by
  rw [Bool.eq_iff_iff, beq_iff_eq, decide_eq_true_eq]
  constructor
  · intro e
    have := congrArg (fun z => z.cps.toList) e
    simpa using this
  · intro e; rw [e]
mutual
theorem eqv_py {n m : Nat} : ∀ {d e : D}, fit n d = true → fit m e = true → PyData.eqv (py d) (py e) = deq d e
  | .non, e, _, h => by cases e <;> first | (simp only [py, PyData.eqv, deq]; done) | (simp [fit] at h; done)
  | .bl a, e, _, h => by
    cases e <;> first | (simp only [py, PyData.eqv, deq]; done) | (simp only [py, PyData.eqv, deq]; exact Bool.beq_eq_decide_eq _ _) | (simp only [py, PyData.eqv, deq]; first | done | (rw [Bool.eq_iff_iff]; simp) ) | (simp [fit] at h; done)
  | .int a, e, _, h => by
    cases e <;> first | (simp only [py, PyData.eqv, deq]; done) | (simp only [py, PyData.eqv, deq]; rw [Bool.eq_iff_iff]; simp; done) | (simp [fit] at h; done)
  | .str a, e, _, h => by
    cases e <;> first | (simp only [py, PyData.eqv, deq]; done) | (simp only [py, PyData.eqv, deq]; exact str_eq_iff _ _) | (simp [fit] at h; done)
  | .tup xs, e, hd, h => by
    cases n with
    | zero => simp [fit] at hd
    | succ n =>
      have hd' : fits n xs = true := by simpa [fit] using hd
      cases e with
      | tup ys =>
        cases m with
        | zero => simp [fit] at h
        | succ m =>
          have h' : fits m ys = true := by simpa [fit] using h
          simp only [py, PyData.eqv, deq]; exact eqv_pys hd' h'
      | dct _ => simp [fit] at h
      | ins _ _ => simp [fit] at h
      | _ => simp only [py, PyData.eqv, deq]
  | .lst xs, e, hd, h => by
    cases n with
    | zero => simp [fit] at hd
    | succ n =>
      have hd' : fits n xs = true := by simpa [fit] using hd
      cases e with
      | lst ys =>
        cases m with
        | zero => simp [fit] at h
        | succ m =>
          have h' : fits m ys = true := by simpa [fit] using h
          simp only [py, PyData.eqv, deq]; exact eqv_pys hd' h'
      | dct _ => simp [fit] at h
      | ins _ _ => simp [fit] at h
      | _ => simp only [py, PyData.eqv, deq]
  | .dct _, _, h, _ => by simp [fit] at h
  | .ins _ _, _, h, _ => by simp [fit] at h
theorem eqv_pys {n m : Nat} : ∀ {ds es : List D}, fits n ds = true → fits m es = true → PyData.eqvAll (pys ds) (pys es) = deqs ds es
  | [], [], _, _ => by simp only [pys, PyData.eqvAll, deqs]
  | [], _ :: _, _, _ => by simp only [pys, PyData.eqvAll, deqs]
  | _ :: _, [], _, _ => by simp only [pys, PyData.eqvAll, deqs]
  | d :: ds, e :: es, h, h' => by
    have h1 : fit n d = true ∧ fits n ds = true := by simpa [fits] using h
    have h2 : fit m e = true ∧ fits m es = true := by simpa [fits] using h'
    simp only [pys, PyData.eqvAll, deqs, eqv_py h1.1 h2.1, eqv_pys h1.2 h2.2]
end
mutual
theorem Rp.dp {g : G} {H : Hp} {n : Nat} {v : V} {d : D} (h : fit n d = true) (r : Rp g H v d) : Dp g.K H v (py d) := by
  match r with
  | .non => simp only [py]; exact .non
  | .bl b => simp only [py]; exact .bl b
  | .int i => simp only [py]; exact .int i
  | .str x => simp only [py]; exact .str _
  | .tup q r =>
    cases n with
    | zero => simp [fit] at h
    | succ n =>
      simp only [py]; exact .tup q (RpA.dp (n := n) (by simpa [fit] using h) r)
  | .lst q r =>
    cases n with
    | zero => simp [fit] at h
    | succ n =>
      simp only [py]; exact .lst q (RpA.dp (n := n) (by simpa [fit] using h) r)
  | .dct _ _ _ _ => simp [fit] at h
  | .ins _ _ => simp [fit] at h
theorem RpA.dp {g : G} {H : Hp} {n : Nat} {vs : List V} {ds : List D} (h : fits n ds = true) (r : RpA g H vs ds) : DpAll g.K H vs (pys ds) := by
  match r with
  | .nil => simp only [pys]; exact .nil
  | .cons q r =>
    simp only [fits, Bool.and_eq_true] at h
    simp only [pys]; exact .cons (Rp.dp h.1 q) (RpA.dp h.2 r)
end

/-! ### where a frame stands -/
/-- the context X runs over g, its exceptions are W's -/
structure At (g : G) (W : WX) (X : Cx) : Prop where
  p : X.prog = g.P
  w : X.w = g.w
  k : X.K = g.K
  hu : X.A.units + 200 < cLine
  tk : Takes X W
theorem At.dpR {g : G} {W : WX} {X : Cx} (a : At g W X) {pins : List (Addr × Obj)} {σ : L2.St} {H : Hp} {s : Shared} (I : Inv X pins σ H s) {n : Nat} {v : V} {d : D} {u : Value} (hf : fit n d = true) (r : Rp g H v d) (rv : RelV v u) :
    ∃ as, Reads s.heap u (py d) as := by
  have := r.dp hf
  rw [← a.k] at this
  exact Dp.reads I _ _ _ this rv

/-! ### the operators' ends: value r of plain make, from operands -/
/-- a binary operation of the machine does h on data -/
def Op2 (g : G) (X : Cx) (f : Value → Value → Sem Value) (Ψ : Psi) (h : D → D → Option D) : Prop :=
  ∀ (pins : List (Addr × Obj)) (s : Shared) (σ0 : L2.St) (H : Hp) (v u : V) (vv uu : Value) (Q : VK) (σ : L2.St) (pr : Addr → Prop) (S : Sx) (Hf : Hp) (d e r : D), Inv X pins σ0 H s → RelV v vv → RelV u uu → SRep g pr S Hf σ H → Ro g H Hf v d → Ro g H Hf u e → h d e = some r →
    (∀ v H' Hf', Sub H H' → Sub Hf Hf' → SRep g pr S Hf' σ H' → Ψ H S σ H' Hf' v r → Q v H') → wpAny (model X.prog X.w) X.A (f vv uu) (EP X pins σ0 Q) X.xe s
section
variable {g : G} {W : WX} {X : Cx} {Ψ : Psi}
/-- by a rule of the layer -/
theorem Op2.of {f : Value → Value → Sem Value} {r2 : R2} {h : D → D → Option D} (o : OpR X f r2)
    (q : ∀ (σ : L2.St) (H : Hp) (v u : V) (Q : VK) (pr : Addr → Prop) (S : Sx) (Hf : Hp) (d e r : D), SRep g pr S Hf σ H → Ro g H Hf v d → Ro g H Hf u e → h d e = some r →
      (∀ v H' Hf', Sub H H' → Sub Hf Hf' → SRep g pr S Hf' σ H' → Ψ H S σ H' Hf' v r → Q v H') → r2 v u H Q) : Op2 g X f Ψ h :=
  fun pins s σ0 H v u vv uu Q σ pr S Hf d e r I rv ru R rd re hr k => o pins s σ0 H v u vv uu Q I rv ru (q σ H v u Q pr S Hf d e r R rd re hr k)
theorem Op2.or {f : Value → Value → Sem Value} {h h' : D → D → Option D} (a : Op2 g X f Ψ h) (b : Op2 g X f Ψ h') : Op2 g X f Ψ (fun d e => (h d e).or (h' d e)) :=
  fun pins s σ0 H v u vv uu Q σ pr S Hf d e r I rv ru R rd re hr k => by
    cases q : h d e with
    | some r' =>
      simp only [q, Option.some_or, Option.some.injEq] at hr
      subst hr
      exact a pins s σ0 H v u vv uu Q σ pr S Hf d e _ I rv ru R rd re q k
    | none =>
      simp only [q, Option.none_or] at hr
      exact b pins s σ0 H v u vv uu Q σ pr S Hf d e _ I rv ru R rd re hr k
theorem Op2.imp {f : Value → Value → Sem Value} {h h' : D → D → Option D} (a : Op2 g X f Ψ h) (e : ∀ d e r, h' d e = some r → h d e = some r) : Op2 g X f Ψ h' :=
  fun pins s σ0 H v u vv uu Q σ pr S Hf d e' r I rv ru R rd re hr k => a pins s σ0 H v u vv uu Q σ pr S Hf d e' r I rv ru R rd re (e _ _ _ hr) k
/-- a flat value, the heap as it is -/
theorem flatK {σ : L2.St} {H : Hp} {Q : VK} {pr : Addr → Prop} {S : Sx} {Hf : Hp} {r : D} (R : SRep g pr S Hf σ H) (k : ∀ v H' Hf', Sub H H' → Sub Hf Hf' → SRep g pr S Hf' σ H' → Pw g H S σ H' Hf' v r → Q v H') {v : V} (h : Rp g Hf v r) (hc : isCont r = false) : Q v H :=
  k v H Hf (Sub.refl _) (Sub.refl _) R (.inl ⟨hc, h⟩)
/-- a new tuple -/
theorem tupK {σ : L2.St} {H : Hp} {Q : VK} {pr : Addr → Prop} {S : Sx} {Hf : Hp} {vs : List V} {ds : List D} (R : SRep g pr S Hf σ H) (k : ∀ v H' Hf', Sub H H' → Sub Hf Hf' → SRep g pr S Hf' σ H' → Pw g H S σ H' Hf' v (.tup ds) → Q v H') (h : RpA g Hf vs ds) {p : Addr} (hp : H p = none) :
    Q (.ref p) (upd H p (.tup vs)) :=
  k _ _ (upd Hf p (.tup vs)) (Sub.upd hp) (Sub.upd (R.sub.free hp)) (R.new hp) (.inl ⟨rfl, .tup (SqT.of upd_same) (h.mono (Sub.upd (R.sub.free hp)))⟩)
/-- a new list -/
theorem lstK {σ : L2.St} {H : Hp} {Q : VK} {pr : Addr → Prop} {S : Sx} {Hf : Hp} {vs : List V} {ds : List D} (R : SRep g pr S Hf σ H) (k : ∀ v H' Hf', Sub H H' → Sub Hf Hf' → SRep g pr S Hf' σ H' → Pw g H S σ H' Hf' v (.lst ds) → Q v H') (h : RpA g Hf vs ds) {p : Addr} (hp : H p = none) :
    Q (.ref p) (upd H p (.lst vs)) := by
  obtain ⟨_, hn, hu⟩ := R.new_free hp
  exact k _ _ Hf (Sub.upd hp) (Sub.refl _) (R.growH (Sub.upd hp)) (.inr ⟨p, rfl, hp, hn, .lst upd_same h, hu⟩)
end

/-! ### + - * // % ** << >> & -/
def addI : D → D → Option D
  | .int i, .int j => some (.int (i + j))
  | _, _ => none
def addS : D → D → Option D
  | .str x, .str y => if x.length + y.length ≤ sizeLine then some (.str (x ++ y)) else none
  | _, _ => none
def addT : D → D → Option D
  | .tup x, .tup y => if x.length + y.length ≤ sizeLine then some (.tup (x ++ y)) else none
  | _, _ => none
def addL : D → D → Option D
  | .lst x, .lst y => if x.length + y.length ≤ sizeLine then some (.lst (x ++ y)) else none
  | _, _ => none
/-- a + b -/
def addD : D → D → Option D
  | .int i, .int j => some (.int (i + j))
  | .str x, .str y => if x.length + y.length ≤ sizeLine then some (.str (x ++ y)) else none
  | .tup x, .tup y => if x.length + y.length ≤ sizeLine then some (.tup (x ++ y)) else none
  | .lst x, .lst y => if x.length + y.length ≤ sizeLine then some (.lst (x ++ y)) else none
  | _, _ => none
def subD : D → D → Option D
  | .int i, .int j => some (.int (i - j))
  | _, _ => none
def smallI (i : Int) : Bool := Nat.ble i.natAbs 18446744073709551615
def mulI : D → D → Option D
  | .int i, .int j => if smallI i || smallI j then some (.int (i * j)) else none
  | _, _ => none
def mulS : D → D → Option D
  | .str x, .int j => if Nat.ble j.natAbs 999 && Nat.ble x.length 999 then some (.str (List.replicate j.toNat x).flatten) else none
  | _, _ => none
/-- a * b -/
def mulD : D → D → Option D
  | .int i, .int j => if smallI i || smallI j then some (.int (i * j)) else none
  | .str x, .int j => if Nat.ble j.natAbs 999 && Nat.ble x.length 999 then some (.str (List.replicate j.toNat x).flatten) else none
  | _, _ => none
def fdivD : D → D → Option D
  | .int i, .int j => if 0 < j ∧ j.natAbs.log2 < 9000 then some (.int (i / j)) else none
  | _, _ => none
def modD : D → D → Option D
  | .int i, .int j => if 0 < j then some (.int (i % j)) else none
  | _, _ => none
def powD : D → D → Option D
  | .int i, .int j => if 0 ≤ j ∧ j ≤ 1000000 ∧ i.natAbs < 2 ^ 64 then some (.int (i ^ j.toNat)) else none
  | _, _ => none
def shlD : D → D → Option D
  | .int i, .int j => if 0 ≤ j ∧ j ≤ 1000000 ∧ i.natAbs < 2 ^ 64 then some (.int (i * 2 ^ j.toNat)) else none
  | _, _ => none
def shrD : D → D → Option D
  | .int i, .int j => if 0 ≤ j then some (.int (i / 2 ^ j.toNat)) else none
  | _, _ => none
def andD : D → D → Option D
  | .int i, .int j => some (.int (Builtin.bitAnd i j))
  | _, _ => none
def opD : Operator → D → D → Option D
  | .Add => addD
  | .Sub => subD
  | .Mult => mulD
  | .FloorDiv => fdivD
  | .Mod => modD
  | .Pow => powD
  | .LShift => shlD
  | .RShift => shrD
  | .BitAnd => andD
  | _ => fun _ _ => none
theorem _root_.PySem.Str.mk_append (x y : List Nat) : ((⟨x.toArray⟩ : Str) ++ (⟨y.toArray⟩ : Str)) = ⟨(x ++ y).toArray⟩ := by
  show (⟨x.toArray ++ y.toArray⟩ : Str) = _
  simp
theorem _root_.PySem.Str.mk_length (x : List Nat) : (⟨x.toArray⟩ : Str).length = x.length := by
  show x.toArray.size = _
  simp
section
variable {g : G} {W : WX} {X : Cx}
theorem op_catL : OpR X (binaryOp .Add) (fun x y H Q => ∃ a b xs ys, x = .ref a ∧ y = .ref b ∧ SqL X.K H a xs ∧ SqL X.K H b ys ∧ xs.length + ys.length ≤ sizeLine ∧ ∀ p, H p = none → Q (.ref p) (upd H p (.lst (xs ++ ys)))) := by
  intro pins s σ H x y v u Q I rx ry h
  obtain ⟨a, b, xs, ys, rfl, rfl, ha, hb, hz, q⟩ := h
  cases rx
  cases ry
  obtain ⟨its, r, ⟨⟨cls, dd, data, sl⟩, n, ho, hc, hdn, hd⟩, z⟩ := I.list ha
  obtain ⟨its2, r2, ⟨⟨cls2, dd2, data2, sl2⟩, n2, ho2, hc2, hdn2, hd2⟩, z2⟩ := I.list hb
  simp only at hc hd hc2 hd2
  subst hc hd hc2 hd2
  refine concat_meets ⟨_, ho, rfl⟩ ⟨_, ho2, rfl⟩ noFill_list_add seq_list_add PySem.F.slot_list_add PySem.F.entry_list_add (PySem.F.args_list_add_2 _ _) (list_addW a b its.toArray its2.toArray n n2 dd dd2 sl sl2 (by rw [List.size_toArray, List.size_toArray, ← r.length, ← r2.length]; omega)) ⟨ho, ho2, ?_⟩
  have ea : its.toArray ++ its2.toArray = (its ++ its2).toArray := by simp
  rw [ea]
  exact ⟨.ref _, _, I.lnew (t' := s.toks) (r.append r2) (by rw [List.length_append]; omega), rfl, q _ I.fresh⟩
theorem op2_add (a : At g W X) : Op2 g X (binaryOp .Add) (Pw g) addD := by
  have h1 : Op2 g X (binaryOp .Add) (Pw g) addI := .of op_add fun σ H v u Q pr S Hf d e r R rd re hr k => by
    cases d <;> cases e <;> simp only [addI, Option.some.injEq, reduceCtorEq] at hr
    subst hr
    cases rd.int; cases re.int
    exact ⟨_, _, rfl, rfl, flatK R k (.int _) rfl⟩
  have h2 : Op2 g X (binaryOp .Add) (Pw g) addS := .of op_add_str fun σ H v u Q pr S Hf d e r R rd re hr k => by
    cases d <;> cases e <;> simp only [addS, Option.ite_none_right_eq_some, Option.some.injEq, reduceCtorEq] at hr
    obtain ⟨hz, rfl⟩ := hr
    cases rd.str; cases re.str
    refine ⟨_, _, rfl, rfl, by rw [Str.mk_length, Str.mk_length]; exact hz, ?_⟩
    rw [Str.mk_append]
    exact flatK R k (.str _) rfl
  have h3 : Op2 g X (binaryOp .Add) (Pw g) addT := .of op_catA fun σ H v u Q pr S Hf d e r R rd re hr k => by
    cases d <;> cases e <;> simp only [addT, Option.ite_none_right_eq_some, Option.some.injEq, reduceCtorEq] at hr
    obtain ⟨hz, rfl⟩ := hr
    obtain ⟨p, vs, rfl, q1, q2, r1⟩ := rd.tuple R.sub
    obtain ⟨p', vs', rfl, q1', q2', r1'⟩ := re.tuple R.sub
    rw [← a.k] at q2 q2'
    refine ⟨_, _, _, _, rfl, rfl, q2, q2', by rw [r1.length, r1'.length]; exact hz, fun e => ?_, fun _ e => ?_, fun _ _ p hp => tupK R k (r1.append r1') hp⟩
    · subst e
      cases r1
      exact flatK R k (.tup q1' r1') rfl
    · subst e
      cases r1'
      rw [List.append_nil] at k
      exact flatK R k (.tup q1 r1) rfl
  have h4 : Op2 g X (binaryOp .Add) (Pw g) addL := .of op_catL fun σ H v u Q pr S Hf d e r R rd re hr k => by
    cases d <;> cases e <;> simp only [addL, Option.ite_none_right_eq_some, Option.some.injEq, reduceCtorEq] at hr
    obtain ⟨hz, rfl⟩ := hr
    obtain ⟨p, vs, rfl, q2, r1⟩ := rd.list R.sub
    obtain ⟨p', vs', rfl, q2', r1'⟩ := re.list R.sub
    rw [← a.k] at q2 q2'
    exact ⟨_, _, _, _, rfl, rfl, q2, q2', by rw [r1.length, r1'.length]; exact hz, fun p hp => lstK R k (r1.append r1') hp⟩
  refine ((h1.or h2).or (h3.or h4)).imp fun d e r h => ?_
  cases d <;> cases e <;> simp_all [addD, addI, addS, addT, addL]
theorem op2_sub : Op2 g X (binaryOp .Sub) (Pw g) subD := .of op_sub fun σ H v u Q pr S Hf d e r R rd re hr k => by
  cases d <;> cases e <;> simp only [subD, Option.some.injEq, reduceCtorEq] at hr
  subst hr
  cases rd.int; cases re.int
  exact ⟨_, _, rfl, rfl, flatK R k (.int _) rfl⟩
theorem op2_fdiv : Op2 g X (binaryOp .FloorDiv) (Pw g) fdivD := .of op_fdivW fun σ H v u Q pr S Hf d e r R rd re hr k => by
  cases d <;> cases e <;> simp only [fdivD, Option.ite_none_right_eq_some, Option.some.injEq, reduceCtorEq] at hr
  obtain ⟨hz, rfl⟩ := hr
  cases rd.int; cases re.int
  exact ⟨_, _, rfl, rfl, hz, flatK R k (.int _) rfl⟩
theorem op2_mod : Op2 g X (binaryOp .Mod) (Pw g) modD := .of op_mod fun σ H v u Q pr S Hf d e r R rd re hr k => by
  cases d <;> cases e <;> simp only [modD, Option.ite_none_right_eq_some, Option.some.injEq, reduceCtorEq] at hr
  obtain ⟨hz, rfl⟩ := hr
  cases rd.int; cases re.int
  exact ⟨_, _, rfl, rfl, hz, flatK R k (.int _) rfl⟩
theorem op2_pow : Op2 g X (binaryOp .Pow) (Pw g) powD := .of op_pow fun σ H v u Q pr S Hf d e r R rd re hr k => by
  cases d <;> cases e <;> simp only [powD, Option.ite_none_right_eq_some, Option.some.injEq, reduceCtorEq] at hr
  obtain ⟨hz, rfl⟩ := hr
  cases rd.int; cases re.int
  exact ⟨_, _, rfl, rfl, hz, flatK R k (.int _) rfl⟩
theorem op2_shl : Op2 g X (binaryOp .LShift) (Pw g) shlD := .of op_shl fun σ H v u Q pr S Hf d e r R rd re hr k => by
  cases d <;> cases e <;> simp only [shlD, Option.ite_none_right_eq_some, Option.some.injEq, reduceCtorEq] at hr
  obtain ⟨hz, rfl⟩ := hr
  cases rd.int; cases re.int
  exact ⟨_, _, rfl, rfl, hz, flatK R k (.int _) rfl⟩
theorem op2_shr : Op2 g X (binaryOp .RShift) (Pw g) shrD := .of op_shr fun σ H v u Q pr S Hf d e r R rd re hr k => by
  cases d <;> cases e <;> simp only [shrD, Option.ite_none_right_eq_some, Option.some.injEq, reduceCtorEq] at hr
  obtain ⟨hz, rfl⟩ := hr
  cases rd.int; cases re.int
  exact ⟨_, _, rfl, rfl, hz, flatK R k (.int _) rfl⟩
theorem op2_and : Op2 g X (binaryOp .BitAnd) (Pw g) andD := .of op_and fun σ H v u Q pr S Hf d e r R rd re hr k => by
  cases d <;> cases e <;> simp only [andD, Option.some.injEq, reduceCtorEq] at hr
  subst hr
  cases rd.int; cases re.int
  exact ⟨_, _, rfl, rfl, flatK R k (.int _) rfl⟩
end
end MP

/-! MP4: products, comparisons, membership. -/
namespace MP
open PySem PySem.Spec PyProof.Rows L2

section
variable {g : G} {W : WX} {X : Cx}
theorem smallI_of {i : Int} (h : smallI i = true) : -(2 ^ 64) < i ∧ i < 2 ^ 64 := by
  have h := Nat.le_of_ble_eq_true h
  omega
theorem foldl_rep (x : Array Nat) : ∀ (n : Nat) (acc : Array Nat), ((List.replicate n x).foldl (· ++ ·) acc).toList = acc.toList ++ (List.replicate n x.toList).flatten
  | 0, acc => by simp
  | n + 1, acc => by
    rw [List.replicate_succ, List.foldl_cons, foldl_rep x n, List.replicate_succ, List.flatten_cons]
    simp
theorem op_mulS {X : Cx} : OpR X (binaryOp .Mult) (fun x y H Q => ∃ (z : List Nat) (j : Int), x = .str ⟨z.toArray⟩ ∧ y = .int j ∧ j < 1000 ∧ -1000 < j ∧ z.length < 1000 ∧ Q (.str ⟨(List.replicate j.toNat z).flatten.toArray⟩) H) := by
  intro pins s σ H x y v u Q I rx ry h
  obtain ⟨z, j, rfl, rfl, h1, h2, h3, q⟩ := h
  obtain ⟨t, rfl⟩ := rx
  obtain ⟨t', rfl⟩ := ry
  have hz : (⟨z.toArray⟩ : Str).length = z.length := Str.mk_length z
  refine PySem.P.mul_str (by rw [decide_eq_false (by omega), decide_eq_false (by omega)]; rfl) (fun h4 _ => ?_) (fun h4 _ => ?_) ?_
  · rw [hz]
    have : (1000 : Int) ≤ (2 ^ 63 - 1) / j := by
      rw [Int.le_ediv_iff_mul_le (by omega)]
      omega
    omega
  · rw [hz]
    unfold Builtin.Str.tooLong
    have : z.length * j.toNat ≤ 1000 * 1000 := Nat.mul_le_mul (by omega) (by omega)
    rw [sizeLine_eq]
    simp
    omega
  · by_cases c1 : j < 1
    · rw [if_pos c1]
      have : j.toNat = 0 := by omega
      rw [this] at q
      exact ⟨by decide, .str _, H, I.tok _, ⟨_, rfl⟩, q⟩
    · rw [if_neg c1]
      by_cases c2 : (j == 1 || (⟨z.toArray⟩ : Str).length == 0) = true
      · rw [if_pos c2]
        have e : (List.replicate j.toNat z).flatten = z := by
          rw [hz] at c2
          simp only [Bool.or_eq_true, beq_iff_eq] at c2
          rcases c2 with c2 | c2
          · subst c2; simp
          · have : z = [] := List.eq_nil_of_length_eq_zero c2
            subst this; simp
        rw [e] at q
        exact ⟨.str _, H, I, ⟨_, rfl⟩, q⟩
      · rw [if_neg c2]
        have e : (⟨(List.replicate j.toNat (z.toArray)).foldl (· ++ ·) #[]⟩ : Str) = ⟨(List.replicate j.toNat z).flatten.toArray⟩ := by
          congr 1
          apply Array.ext'
          rw [foldl_rep]
          simp
        rw [e]
        refine ⟨?_, .str _, H, I.tok _, ⟨_, rfl⟩, q⟩
        rw [Str.mk_length, sizeLine_eq]
        have e2 : (List.replicate j.toNat z).flatten.length = j.toNat * z.length := by simp
        rw [e2]
        have : j.toNat * z.length ≤ 1000 * 1000 := Nat.mul_le_mul (by omega) (by omega)
        omega
theorem op2_mul (a : At g W X) : Op2 g X (binaryOp .Mult) (Pw g) mulD := by
  have h1 : Op2 g X (binaryOp .Mult) (Pw g) mulI := .of op_mul fun σ H v u Q pr S Hf d e r R rd re hr k => by
    cases d <;> cases e <;> simp only [mulI, Option.ite_none_right_eq_some, Option.some.injEq, reduceCtorEq] at hr
    obtain ⟨hz, rfl⟩ := hr
    cases rd.int; cases re.int
    refine ⟨_, _, rfl, rfl, ?_, flatK R k (.int _) rfl⟩
    rw [Bool.or_eq_true] at hz
    exact hz.imp smallI_of smallI_of
  have h2 : Op2 g X (binaryOp .Mult) (Pw g) mulS := .of op_mulS fun σ H v u Q pr S Hf d e r R rd re hr k => by
    cases d <;> cases e <;> simp only [mulS, Option.ite_none_right_eq_some, Option.some.injEq, reduceCtorEq] at hr
    obtain ⟨hz, rfl⟩ := hr
    cases rd.str; cases re.int
    rw [Bool.and_eq_true] at hz
    have h1 := Nat.le_of_ble_eq_true hz.1
    have h2 := Nat.le_of_ble_eq_true hz.2
    exact ⟨_, _, rfl, rfl, by omega, by omega, by omega, flatK R k (.str _) rfl⟩
  refine (h1.or h2).imp fun d e r h => ?_
  cases d <;> cases e <;> simp_all [mulD, mulI, mulS]

/-! ### comparisons -/
def eqD (d e : D) : Option D := if fit 60 d && fit 60 e then some (.bl (deq d e)) else none
def neD (d e : D) : Option D := if fit 60 d && fit 60 e then some (.bl (!deq d e)) else none
end
def ltD : D → D → Option D
  | .int i, .int j => some (.bl (decide (i < j)))
  | .str i, .str j => some (.bl (decide (i < j)))
  | _, _ => none
def leD : D → D → Option D
  | .int i, .int j => some (.bl (decide (i ≤ j)))
  | _, _ => none
def gtD : D → D → Option D
  | .int i, .int j => some (.bl (decide (j < i)))
  | _, _ => none
def geD : D → D → Option D
  | .int i, .int j => some (.bl (decide (j ≤ i)))
  | _, _ => none
def isNon : D → Bool
  | .non => true
  | _ => false
def isD : D → D → Option D
  | d, .non => some (.bl (isNon d))
  | .bl a, .bl b => some (.bl (decide (a = b)))
  | _, _ => none
def notD : D → Option D
  | .bl a => some (.bl (!a))
  | _ => none
def isNotD (d e : D) : Option D := (isD d e).bind notD
/-- the item that a dict has at a key -/
def dget (kvs : List (D × D)) (x : D) : Option D := (kvs.find? fun p => decide (keyOf p.1 = keyOf x)).map (·.2)
/-- x in c -/
def inD : D → D → Option D
  | x, .lst ys => if fit 60 x && fits 60 ys then some (.bl (ys.any fun y => deq y x)) else none
  | x, .tup ys => if fit 60 x && fits 60 ys then some (.bl (ys.any fun y => deq y x)) else none
  | .str [c], .str z => some (.bl (decide (c ∈ z)))
  | _, _ => none
def notInD (d e : D) : Option D := (inD d e).bind notD
section
variable {g : G} {W : WX} {X : Cx}
theorem pys_any {n m : Nat} {x : D} (hx : fit m x = true) : ∀ {ys : List D}, fits n ys = true → ((pys ys).any fun y => PyData.eqv y (py x)) = ys.any fun y => deq y x
  | [], _ => rfl
  | y :: ys, h => by
    have h' : fit n y = true ∧ fits n ys = true := by simpa [fits] using h
    simp only [pys, List.any_cons, eqv_py h'.1 hx, pys_any hx h'.2]
theorem op2_eq (a : At g W X) : Op2 g X (compareOp .Eq) (Pw g) eqD := fun pins s σ0 H v u vv uu Q σ pr S Hf d e r I rv ru R rd re hr k => by
  simp only [eqD, Option.ite_none_right_eq_some, Option.some.injEq, Bool.and_eq_true] at hr
  obtain ⟨⟨f1, f2⟩, rfl⟩ := hr
  obtain ⟨as, r1⟩ := a.dpR I f1 (rd.all R.sub) rv
  obtain ⟨bs, r2⟩ := a.dpR I f2 (re.all R.sub) ru
  obtain ⟨p1, d1⟩ := plain_py f1
  obtain ⟨p2, d2⟩ := plain_py f2
  have hu := a.hu
  refine PySem.SeqAt.eq_plain r1 r2 p1 p2 (by omega) ?_
  rw [eqv_py f1 f2]
  exact ⟨.bl _, H, I, rfl, flatK R k (.bl _) rfl⟩
theorem op2_ne (a : At g W X) : Op2 g X (compareOp .NotEq) (Pw g) neD := fun pins s σ0 H v u vv uu Q σ pr S Hf d e r I rv ru R rd re hr k => by
  simp only [neD, Option.ite_none_right_eq_some, Option.some.injEq, Bool.and_eq_true] at hr
  obtain ⟨⟨f1, f2⟩, rfl⟩ := hr
  obtain ⟨as, r1⟩ := a.dpR I f1 (rd.all R.sub) rv
  obtain ⟨bs, r2⟩ := a.dpR I f2 (re.all R.sub) ru
  obtain ⟨p1, d1⟩ := plain_py f1
  obtain ⟨p2, d2⟩ := plain_py f2
  have hu := a.hu
  refine PySem.SeqAt.ne_plain r1 r2 p1 p2 (by omega) ?_
  rw [eqv_py f1 f2]
  exact ⟨.bl _, H, I, rfl, flatK R k (.bl _) rfl⟩
theorem op2_lt : Op2 g X (compareOp .Lt) (Pw g) ltD := by
  have h1 : Op2 g X (compareOp .Lt) (Pw g) (fun d e => match d, e with | .int i, .int j => some (.bl (decide (i < j))) | _, _ => none) := .of op_lt fun σ H v u Q pr S Hf d e r R rd re hr k => by
    cases d <;> cases e <;> simp only [Option.some.injEq, reduceCtorEq] at hr
    subst hr
    cases rd.int; cases re.int
    exact ⟨_, _, rfl, rfl, flatK R k (.bl _) rfl⟩
  have h2 : Op2 g X (compareOp .Lt) (Pw g) (fun d e => match d, e with | .str i, .str j => some (.bl (decide (i < j))) | _, _ => none) := .of op_lt_str fun σ H v u Q pr S Hf d e r R rd re hr k => by
    cases d <;> cases e <;> simp only [Option.some.injEq, reduceCtorEq] at hr
    subst hr
    cases rd.str; cases re.str
    exact ⟨_, _, rfl, rfl, flatK R k (.bl _) rfl⟩
  refine (h1.or h2).imp fun d e r h => ?_
  cases d <;> cases e <;> simp_all [ltD]
theorem op2_le : Op2 g X (compareOp .LtE) (Pw g) leD := .of op_le fun σ H v u Q pr S Hf d e r R rd re hr k => by
  cases d <;> cases e <;> simp only [leD, Option.some.injEq, reduceCtorEq] at hr
  subst hr
  cases rd.int; cases re.int
  exact ⟨_, _, rfl, rfl, flatK R k (.bl _) rfl⟩
theorem op2_gt : Op2 g X (compareOp .Gt) (Pw g) gtD := .of op_gt fun σ H v u Q pr S Hf d e r R rd re hr k => by
  cases d <;> cases e <;> simp only [gtD, Option.some.injEq, reduceCtorEq] at hr
  subst hr
  cases rd.int; cases re.int
  exact ⟨_, _, rfl, rfl, flatK R k (.bl _) rfl⟩
theorem op2_ge : Op2 g X (compareOp .GtE) (Pw g) geD := .of op_ge fun σ H v u Q pr S Hf d e r R rd re hr k => by
  cases d <;> cases e <;> simp only [geD, Option.some.injEq, reduceCtorEq] at hr
  subst hr
  cases rd.int; cases re.int
  exact ⟨_, _, rfl, rfl, flatK R k (.bl _) rfl⟩
theorem Ro.isN {H Hf : Hp} {v : V} {d : D} (h : Ro g H Hf v d) : decide (v = .non) = isNon d := by
  cases h with
  | of h => cases h <;> rfl
  | lst => rfl
  | dct => rfl
  | ins => rfl
theorem op2_is : Op2 g X (compareOp .Is) (Pw g) isD := by
  have h1 : Op2 g X (compareOp .Is) (Pw g) (fun d e => match e with | .non => some (.bl (isNon d)) | _ => none) := .of op_isN fun σ H v u Q pr S Hf d e r R rd re hr k => by
    cases e <;> simp only [Option.some.injEq, reduceCtorEq] at hr
    subst hr
    cases re.non
    refine ⟨rfl, ?_⟩
    rw [rd.isN]
    exact flatK R k (.bl _) rfl
  have h2 : Op2 g X (compareOp .Is) (Pw g) (fun d e => match d, e with | .bl i, .bl j => some (.bl (decide (i = j))) | _, _ => none) := .of op_isBl fun σ H v u Q pr S Hf d e r R rd re hr k => by
    cases d <;> cases e <;> simp only [Option.some.injEq, reduceCtorEq] at hr
    subst hr
    cases rd.bl; cases re.bl
    exact ⟨_, _, rfl, rfl, flatK R k (.bl _) rfl⟩
  refine (h1.or h2).imp fun d e r h => ?_
  cases d <;> cases e <;> simp_all [isD]
theorem op2_isNot : Op2 g X (compareOp .IsNot) (Pw g) isNotD := by
  have h1 : Op2 g X (compareOp .IsNot) (Pw g) (fun d e => match e with | .non => some (.bl (!isNon d)) | _ => none) := .of op_notN fun σ H v u Q pr S Hf d e r R rd re hr k => by
    cases e <;> simp only [Option.some.injEq, reduceCtorEq] at hr
    subst hr
    cases re.non
    refine ⟨rfl, ?_⟩
    rw [rd.isN]
    exact flatK R k (.bl _) rfl
  have h2 : Op2 g X (compareOp .IsNot) (Pw g) (fun d e => match d, e with | .bl i, .bl j => some (.bl (!decide (i = j))) | _, _ => none) := .of op_notBl fun σ H v u Q pr S Hf d e r R rd re hr k => by
    cases d <;> cases e <;> simp only [Option.some.injEq, reduceCtorEq] at hr
    subst hr
    cases rd.bl; cases re.bl
    exact ⟨_, _, rfl, rfl, flatK R k (.bl _) rfl⟩
  refine (h1.or h2).imp fun d e r h => ?_
  cases d <;> cases e <;> simp_all [isNotD, isD, notD]
theorem op2_in (a : At g W X) : Op2 g X (compareOp .In) (Pw g) inD := by
  have h0 : Op2 g X (compareOp .In) (Pw g) (fun d e => match d, e with | .str [c], .str z => some (.bl (decide (c ∈ z))) | _, _ => none) := .of op_in_sign fun σ H v u Q pr S Hf d e r R rd re hr k => by
    split at hr <;> simp only [Option.some.injEq, reduceCtorEq] at hr
    subst hr
    cases rd.str; cases re.str
    exact ⟨_, _, rfl, rfl, flatK R k (.bl _) rfl⟩
  have h1 : Op2 g X (compareOp .In) (Pw g) (fun x e => match e with | .lst ys => if fit 60 x && fits 60 ys then some (.bl (ys.any fun y => deq y x)) else none | _ => none) := fun pins s σ0 H v u vv uu Q σ pr S Hf d e r I rv ru R rd re hr k => by
    cases e <;> simp only [Option.ite_none_right_eq_some, Option.some.injEq, Bool.and_eq_true, reduceCtorEq] at hr
    obtain ⟨⟨f1, f2⟩, rfl⟩ := hr
    obtain ⟨as, r1⟩ := a.dpR I f1 (rd.all R.sub) rv
    obtain ⟨bs, r2⟩ := a.dpR (n := 61) I (by simp only [fit]; exact f2) (re.all R.sub) ru
    obtain ⟨p1, d1⟩ := plain_py f1
    obtain ⟨p2, d2⟩ := plain_pys f2
    have hu := a.hu
    simp only [py] at r2
    refine PySem.SeqAt.in_list_data r2 r1 p2 p1 (by omega) ?_
    rw [pys_any f1 f2]
    exact ⟨.bl _, H, I, rfl, flatK R k (.bl _) rfl⟩
  have h2 : Op2 g X (compareOp .In) (Pw g) (fun x e => match e with | .tup ys => if fit 60 x && fits 60 ys then some (.bl (ys.any fun y => deq y x)) else none | _ => none) := fun pins s σ0 H v u vv uu Q σ pr S Hf d e r I rv ru R rd re hr k => by
    cases e <;> simp only [Option.ite_none_right_eq_some, Option.some.injEq, Bool.and_eq_true, reduceCtorEq] at hr
    obtain ⟨⟨f1, f2⟩, rfl⟩ := hr
    obtain ⟨as, r1⟩ := a.dpR I f1 (rd.all R.sub) rv
    obtain ⟨bs, r2⟩ := a.dpR (n := 61) I (by simp only [fit]; exact f2) (re.all R.sub) ru
    obtain ⟨p1, d1⟩ := plain_py f1
    obtain ⟨p2, d2⟩ := plain_pys f2
    have hu := a.hu
    simp only [py] at r2
    refine PySem.SeqAt.in_tuple_data r2 r1 p2 p1 (by omega) ?_
    rw [pys_any f1 f2]
    exact ⟨.bl _, H, I, rfl, flatK R k (.bl _) rfl⟩
  refine (h0.or (h1.or h2)).imp fun d e r h => ?_
  unfold inD at h
  split at h
  · simp_all
  · simp_all
  · simp_all
  · simp_all
theorem op2_notIn (a : At g W X) : Op2 g X (compareOp .NotIn) (Pw g) notInD := by
  have h0 : Op2 g X (compareOp .NotIn) (Pw g) (fun d e => match d, e with | .str [c], .str z => some (.bl (!decide (c ∈ z))) | _, _ => none) := .of op_notIn_sign fun σ H v u Q pr S Hf d e r R rd re hr k => by
    split at hr <;> simp only [Option.some.injEq, reduceCtorEq] at hr
    subst hr
    cases rd.str; cases re.str
    exact ⟨_, _, rfl, rfl, flatK R k (.bl _) rfl⟩
  have h1 : Op2 g X (compareOp .NotIn) (Pw g) (fun x e => match e with | .lst ys => if fit 60 x && fits 60 ys then some (.bl (!ys.any fun y => deq y x)) else none | _ => none) := fun pins s σ0 H v u vv uu Q σ pr S Hf d e r I rv ru R rd re hr k => by
    cases e <;> simp only [Option.ite_none_right_eq_some, Option.some.injEq, Bool.and_eq_true, reduceCtorEq] at hr
    obtain ⟨⟨f1, f2⟩, rfl⟩ := hr
    obtain ⟨as, r1⟩ := a.dpR I f1 (rd.all R.sub) rv
    obtain ⟨bs, r2⟩ := a.dpR (n := 61) I (by simp only [fit]; exact f2) (re.all R.sub) ru
    obtain ⟨p1, d1⟩ := plain_py f1
    obtain ⟨p2, d2⟩ := plain_pys f2
    have hu := a.hu
    simp only [py] at r2
    refine PySem.SeqAt.notIn_list_data r2 r1 p2 p1 (by omega) ?_
    rw [pys_any f1 f2]
    exact ⟨.bl _, H, I, rfl, flatK R k (.bl _) rfl⟩
  have h2 : Op2 g X (compareOp .NotIn) (Pw g) (fun x e => match e with | .tup ys => if fit 60 x && fits 60 ys then some (.bl (!ys.any fun y => deq y x)) else none | _ => none) := fun pins s σ0 H v u vv uu Q σ pr S Hf d e r I rv ru R rd re hr k => by
    cases e <;> simp only [Option.ite_none_right_eq_some, Option.some.injEq, Bool.and_eq_true, reduceCtorEq] at hr
    obtain ⟨⟨f1, f2⟩, rfl⟩ := hr
    obtain ⟨as, r1⟩ := a.dpR I f1 (rd.all R.sub) rv
    obtain ⟨bs, r2⟩ := a.dpR (n := 61) I (by simp only [fit]; exact f2) (re.all R.sub) ru
    obtain ⟨p1, d1⟩ := plain_py f1
    obtain ⟨p2, d2⟩ := plain_pys f2
    have hu := a.hu
    simp only [py] at r2
    refine PySem.SeqAt.notIn_tuple_data r2 r1 p2 p1 (by omega) ?_
    rw [pys_any f1 f2]
    exact ⟨.bl _, H, I, rfl, flatK R k (.bl _) rfl⟩
  refine (h0.or (h1.or h2)).imp fun d e r h => ?_
  unfold notInD at h
  obtain ⟨b, h, hb⟩ := Option.bind_eq_some_iff.mp h
  unfold inD at h
  split at h
  · simp only [Option.ite_none_right_eq_some, Option.some.injEq] at h
    obtain ⟨hc, rfl⟩ := h
    simp_all [notD]
  · simp only [Option.ite_none_right_eq_some, Option.some.injEq] at h
    obtain ⟨hc, rfl⟩ := h
    simp_all [notD]
  · simp only [Option.some.injEq] at h
    subst h
    simp_all [notD]
  · cases h
end
end MP

/-! MP5: the pure readings of expressions and tests, and that the machine does so. -/
namespace MP
open PySem PySem.Spec PyProof.Rows L2

/-! ### pure readings -/
def eC (d : D) : M D := fun s => .ok d s
/-- a name whose value goes on: a container of the frame's own is frozen -/
def eVar (i : Nat) : M D := fun s => match s[i]? with
  | some (.va d) => .ok d s
  | some (.ow d) => .ok d (s.set i (.va d))
  | _ => .no
/-- a name that is only looked at -/
def oVar (i : Nat) : M D := fun s => match s[i]? with
  | some (.va d) => .ok d s
  | some (.ow d) => .ok d s
  | _ => .no
def eBin (h : D → D → Option D) (fa fb : M D) : M D := fa >>= fun x => fb >>= fun y => Mo (h x y)
def eUn (h : D → Option D) (fa : M D) : M D := fa >>= fun x => Mo (h x)
def negD : D → Option D
  | .int i => some (.int (-i))
  | _ => none
def truthD : D → Option Bool
  | .non => some false
  | .bl b => some b
  | .int i => some (i != 0)
  | .str x => if x.length ≤ sizeLine then some (!x.isEmpty) else none
  | .tup xs => some (!xs.isEmpty)
  | .lst xs => some (!xs.isEmpty)
  | _ => none
def notV : D → Option D := fun d => (truthD d).map fun b => .bl (!b)
def eNot (fa : M D) : M D := eUn notV fa
def eAnd (fa fb : M D) : M D := fa >>= fun x => Mo (truthD x) >>= fun k => if k = true then fb else pure x
def eOr (fa fb : M D) : M D := fa >>= fun x => Mo (truthD x) >>= fun k => if k = true then pure x else fb
def eIf (t : M Bool) (fa fb : M D) : M D := t >>= fun k => if k = true then fa else fb
def tVal (fa : M D) : M Bool := fa >>= fun x => Mo (truthD x)
def blOf : D → Option Bool
  | .bl b => some b
  | _ => none
def tNot (t : M Bool) : M Bool := t >>= fun k => pure (!k)
def tAnd (t u : M Bool) : M Bool := t >>= fun k => if k = true then u else pure false
def tOr (t u : M Bool) : M Bool := t >>= fun k => if k = true then pure true else u
/-- a chain of two comparisons -/
def eCh2 (h h' : D → D → Option D) (fa fb fc : M D) : M D := fa >>= fun x => fb >>= fun y => Mo ((h x y).bind blOf) >>= fun k => if k = true then fc >>= fun z => Mo (h' y z) else pure (.bl false)
/-- .. of three -/
def eCh3 (h h' h'' : D → D → Option D) (fa fb fc fd : M D) : M D := fa >>= fun x => fb >>= fun y => Mo ((h x y).bind blOf) >>= fun k => if k = true then
    (fc >>= fun z => Mo ((h' y z).bind blOf) >>= fun k => if k = true then fd >>= fun u => Mo (h'' z u) else pure (.bl false)) else pure (.bl false)
def evs : List (M D) → M (List D)
  | [] => pure []
  | f :: fs => f >>= fun d => evs fs >>= fun ds => pure (d :: ds)
def tupD (ds : List D) : Option D := if ds.length ≤ 1000 then some (.tup ds) else none
def lstD (ds : List D) : Option D := if ds.length ≤ 1000 then some (.lst ds) else none
def eTup (fs : List (M D)) : M D := evs fs >>= fun ds => Mo (tupD ds)
def eLst (fs : List (M D)) : M D := evs fs >>= fun ds => Mo (lstD ds)
def ixD : D → D → Option D
  | .lst xs, .int i => L2.atI xs i
  | .tup xs, .int i => L2.atI xs i
  | .str x, .int i => if x.length ≤ sizeLine then (L2.atI x i).map fun c => .str [c] else none
  | _, _ => none
def cut {α : Type} (xs : List α) (lo hi : Option Int) : List α := (xs.drop (HT.sIx xs.length 0 lo)).take (HT.sIx xs.length xs.length hi - HT.sIx xs.length 0 lo)
def slD (lo hi : Option Int) : D → Option D
  | .lst xs => some (.lst (cut xs lo hi))
  | .tup xs => some (.tup (cut xs lo hi))
  | .str x => if x.length ≤ sizeLine then some (.str (cut x lo hi)) else none
  | _ => none
def intOf : D → Option Int
  | .int i => some i
  | _ => none
/-- a part of a slice -/
def ePart : Option (M D) → M (Option Int)
  | none => pure none
  | some f => f >>= fun x => Mo (intOf x) >>= fun i => pure (some i)
def eSl (fa : M D) (lo hi : Option (M D)) : M D := fa >>= fun x => ePart lo >>= fun l => ePart hi >>= fun h => Mo (slD l h x)
def fldD (f : Str) : D → Option D
  | .ins _ fs => fs.lookup f
  | _ => none
def eFld (f : Str) (fa : M D) : M D := eUn (fldD f) fa

section
variable {g : G} {W : WX} {X : Cx} {pr : Addr → Prop} {S : Sx} {σ : L2.St} {H H1 Hf Hf1 : Hp} {Ψ : Psi}
theorem te_mono {e : Expr} {f : M D} {Ψ' : Psi} (h : PE X e (Te g W Ψ f)) (q : ∀ {H S' σ H' Hf v d}, Ψ H S' σ H' Hf v d → Ψ' H S' σ H' Hf v d) : PE X e (Te g W Ψ' f) := h.imp fun σ H Q ⟨pr, S, Hf, R, z⟩ => ⟨pr, S, Hf, R, by
  revert z
  cases f S with
  | ok d S' => exact fun z v H' Hf' a b R' x => z v H' Hf' a b R' (q x)
  | ex c fs S' => exact id
  | no => exact id⟩
theorem Af.done [Anti Ψ] {d : D} {v : V} {Q : VK} (h : Af g W pr Ψ (.ok d S) σ H Hf Q) (R : SRep g pr S Hf σ H) (x : Ψ H S σ H Hf v d) : Q v H := h v H Hf (Sub.refl _) (Sub.refl _) R x
theorem Mo_cases {α β : Type} {x : Option α} {k : α → M β} {S : Sx} {P : Ou β → Prop} (h : P ((Mo x >>= k) S)) (hn : ¬ P .no) : ∃ a, x = some a ∧ P (k a S) := by
  cases x with
  | some a => exact ⟨a, rfl, h⟩
  | none => exact absurd h hn
theorem Mo_af {x : Option D} {Q : VK} (h : Af g W pr Ψ (Mo x S) σ H Hf Q) : ∃ r, x = some r ∧ Af g W pr Ψ (.ok r S) σ H Hf Q := by
  cases x with
  | some a => exact ⟨a, rfl, h⟩
  | none => exact h.elim
theorem Mo_bind_af {α : Type} {x : Option α} {k : α → M D} {Q : VK} (h : Af g W pr Ψ ((Mo x >>= k) S) σ H Hf Q) : ∃ r, x = some r ∧ Af g W pr Ψ (k r S) σ H Hf Q := by
  cases x with
  | some a => exact ⟨a, rfl, h⟩
  | none => exact h.elim
theorem Mo_aft {x : Option Bool} {Q : Bool → Hp → Prop} (h : AfT g W pr (Mo x S) σ H Hf Q) (R : SRep g pr S Hf σ H) : ∃ r, x = some r ∧ Q r H := by
  cases x with
  | some a => exact ⟨a, rfl, h H Hf (Sub.refl _) (Sub.refl _) R⟩
  | none => exact h.elim
/-- constants -/
theorem se_non {j : Nat} {pos : Pos} : PE X (.Constant .none j pos) (Te g W (Pw g) (eC .non)) := pe_non.imp fun σ H Q ⟨pr, S, Hf, R, h⟩ => Af.done h R (.inl ⟨rfl, .non⟩)
theorem se_bl {b : Bool} {j : Nat} {pos : Pos} : PE X (.Constant (.bool b) j pos) (Te g W (Pw g) (eC (.bl b))) := pe_bl.imp fun σ H Q ⟨pr, S, Hf, R, h⟩ => Af.done h R (.inl ⟨rfl, .bl b⟩)
theorem se_int {i : Int} {j : Nat} {pos : Pos} : PE X (.Constant (.int i) j pos) (Te g W (Pw g) (eC (.int i))) := pe_int.imp fun σ H Q ⟨pr, S, Hf, R, h⟩ => Af.done h R (.inl ⟨rfl, .int i⟩)
theorem Rp.str' {H : Hp} (x : Str) : Rp g H (.str x) (.str x.cps.toList) := by
  have := Rp.str (g := g) (H := H) x.cps.toList
  have e : (⟨x.cps.toList.toArray⟩ : Str) = x := by cases x; simp
  rw [e] at this
  exact this
theorem se_str {x : Str} {j : Nat} {pos : Pos} : PE X (.Constant (.str x) j pos) (Te g W (Pw g) (eC (.str x.cps.toList))) := pe_str.imp fun σ H Q ⟨pr, S, Hf, R, h⟩ => Af.done h R (.inl ⟨rfl, .str' x⟩)
/-- a constant of the module -/
theorem se_glob {x : Str} {v : V} {u : Value} {d : D} {pos : Pos} (hg : Gl X x) (hm : X.mg x = some u) (r : RelV v u) (hd : (x == ("__debug__" : Str)) = false) (q : ∀ Hf, Rp g Hf v d) : PE X (.Name x pos) (Te g W (Ps g) (eC d)) :=
  (pe_glob hg hm r hd).imp fun σ H Q ⟨pr, S, Hf, R, h⟩ => Af.done h R (q Hf)
/-- names -/
theorem se_var {x : Str} {pos : Pos} {i : Nat} (hN : X.N[i]? = some x) (hv : Vis X.env.scope x) (hd : (x == ("__debug__" : Str)) = false) (hcd : (x == ("__classdict__" : Str)) = false) : PE X (.Name x pos) (Te g W (Ps g) (eVar i)) :=
  (pe_var hN hv hd hcd).imp fun σ H Q ⟨pr, S, Hf, R, h⟩ => by
    unfold eVar at h
    split at h
    · rename_i d hd
      obtain ⟨v, h1, h2⟩ := R.va i d hd
      exact ⟨v, h1, Af.done h R h2⟩
    · rename_i d hd
      obtain ⟨Hf', e, R'⟩ := R.frzAt i
      have ef : frzAt S i = S.set i (.va d) := by unfold frzAt; rw [hd]
      rw [ef] at R'
      have hi : i < S.length := (List.getElem?_eq_some_iff.mp hd).1
      obtain ⟨v, h1, h2⟩ := R'.va i d (List.getElem?_set_self hi)
      exact ⟨v, h1, h v H Hf' (Sub.refl _) e R' h2⟩
    · exact h.elim
theorem so_var {x : Str} {pos : Pos} {i : Nat} (hN : X.N[i]? = some x) (hv : Vis X.env.scope x) (hd : (x == ("__debug__" : Str)) = false) (hcd : (x == ("__classdict__" : Str)) = false) : PE X (.Name x pos) (Te g W (Po g) (oVar i)) :=
  (pe_var hN hv hd hcd).imp fun σ H Q ⟨pr, S, Hf, R, h⟩ => by
    unfold oVar at h
    split at h
    · rename_i d hd
      obtain ⟨v, h1, h2⟩ := R.va i d hd
      exact ⟨v, h1, Af.done h R (.of h2)⟩
    · rename_i d hd
      obtain ⟨a, h1, _, _, h2⟩ := R.ow i d hd
      exact ⟨_, h1, Af.done h R h2.op⟩
    · exact h.elim

/-! ### operators -/
def R2D (g : G) (W : WX) (Ψ : Psi) (k : D → D → M D) : R2 := fun x y H Q => ∃ σ pr S Hf d e, SRep g pr S Hf σ H ∧ Ro g H Hf x d ∧ Ro g H Hf y e ∧ Af g W pr Ψ (k d e S) σ H Hf Q
theorem Op2.opR {f : Value → Value → Sem Value} {h : D → D → Option D} (o : Op2 g X f Ψ h) : OpR X f (R2D g W Ψ fun x y => Mo (h x y)) := fun pins s σ0 H x y v u Q I rx ry ⟨σ, pr, S, Hf, d, e, R, rd, re, h⟩ => by
  obtain ⟨r, hr, h⟩ := Mo_af h
  exact o pins s σ0 H x y v u Q σ pr S Hf d e r I rx ry R rd re hr h
theorem to_op [Anti Ψ] {fa fb : M D} {k : D → D → M D} {Q : VK} (h : Te g W Ψ (fa >>= fun x => fb >>= fun y => k x y) σ H Q) : tOp (R2D g W Ψ k) (Te g W (Po g) fa) (Te g W (Po g) fb) σ H Q := by
  obtain ⟨pr, S, Hf, R, h⟩ := h
  exact (op2 R h).weak fun v H1 h => h.weak fun u H2 ⟨S2, Hf2, d, e, _, _, R2, rd, re, h2⟩ => ⟨σ, pr, S2, Hf2, d, e, R2, rd, re, h2⟩
theorem se_bin [Anti Ψ] {a b : Expr} {op : Operator} {pos : Pos} {fa fb : M D} {h : D → D → Option D} (o : Op2 g X (binaryOp op) Ψ h) (ha : PE X a (Te g W (Po g) fa)) (hb : PE X b (Te g W (Po g) fb)) :
    PE X (.BinOp a op b pos) (Te g W Ψ (eBin h fa fb)) := (pe_op (Op2.opR o) ha hb).imp fun σ H Q h => to_op h
theorem se_cmp [Anti Ψ] {a b : Expr} {op : CmpOp} {pos : Pos} {fa fb : M D} {h : D → D → Option D} (o : Op2 g X (compareOp op) Ψ h) (ha : PE X a (Te g W (Po g) fa)) (hb : PE X b (Te g W (Po g) fb)) (hm : behindInMarks op b = false) :
    PE X (.Compare a [op] [b] pos) (Te g W Ψ (eBin h fa fb)) := (pe_cmpR (Op2.opR o) ha hb hm).imp fun σ H Q h => to_op h
/-- a test by a value -/
theorem Te.test {f : M D} {Q : Bool → Hp → Prop} (h : Tt g W (f >>= fun x => Mo (blOf x)) σ H Q) : Te g W (Po g) f σ H fun z H' => ∃ k, z = .bl k ∧ Q k H' := by
  obtain ⟨pr, S, Hf, R, h⟩ := h
  refine ⟨pr, S, Hf, R, ?_⟩
  rw [M.bind_def] at h
  revert h
  cases f S with
  | ok d S' =>
    intro h v H' Hf' a b R' x
    have h : AfT g W pr (Mo (blOf d) S') σ H Hf Q := h
    obtain ⟨r, hr, q⟩ := Mo_aft (AfT.mono h a b) R'
    cases d <;> simp only [blOf, Option.some.injEq, reduceCtorEq] at hr
    subst hr
    cases x.bl
    exact ⟨_, rfl, q⟩
  | ex c fs S' => exact id
  | no => exact id
def tCmp (h : D → D → Option D) (fa fb : M D) : M Bool := eBin h fa fb >>= fun x => Mo (blOf x)
theorem st_cmp {a b : Expr} {op : CmpOp} {pos : Pos} {fa fb : M D} {h : D → D → Option D} (o : Op2 g X (compareOp op) (Pw g) h) (ha : PE X a (Te g W (Po g) fa)) (hb : PE X b (Te g W (Po g) fb)) (hm : behindInMarks op b = false) :
    PT X (.Compare a [op] [b] pos) (Tt g W (MP.tCmp h fa fb)) := (pt_cmpR (Op2.opR (Ψ := Pw g) (W := W) o) ha hb hm).imp fun σ H Q h => by
  exact to_op (Ψ := Pw g) (Te.of_o (Te.test h))

/-! ### truth -/
theorem Ro.truth {v : V} {d : D} {k : Bool} (a : At g W X) (sub : Sub Hf H) (h : Ro g H Hf v d) (hk : truthD d = some k) : TruV X.K v H k := by
  cases d with
  | non => cases h.non; simp only [truthD, Option.some.injEq] at hk; exact hk.symm
  | bl b => cases h.bl; simp only [truthD, Option.some.injEq] at hk; exact hk.symm
  | int i => cases h.int; simp only [truthD, Option.some.injEq] at hk; exact hk.symm
  | str x =>
    cases h.str
    simp only [truthD, Option.ite_none_right_eq_some, Option.some.injEq] at hk
    obtain ⟨hz, rfl⟩ := hk
    refine ⟨by rw [Str.mk_length]; exact hz, ?_⟩
    rw [Str.mk_length]
    cases x with
    | nil => rfl
    | cons c x => simp; omega
  | tup xs =>
    obtain ⟨p, vs, rfl, _, q, r⟩ := h.tuple sub
    simp only [truthD, Option.some.injEq] at hk
    rw [← a.k] at q
    refine .inr (.inl ⟨vs, q, ?_⟩)
    rw [← hk]
    cases r <;> rfl
  | lst xs =>
    obtain ⟨p, vs, rfl, q, r⟩ := h.list sub
    simp only [truthD, Option.some.injEq] at hk
    rw [← a.k] at q
    refine .inl ⟨vs, q, ?_⟩
    rw [← hk]
    cases r <;> rfl
  | dct _ => simp [truthD] at hk
  | ins _ _ => simp [truthD] at hk
theorem st_val (at_ : At g W X) {a : Expr} {fa : M D} (ha : PE X a (Te g W (Po g) fa)) (he : ∀ whole, isTrue a X.env whole = (do let v ← whole; standAt a.pos; holding [v] (truthy v))) :
    PT X a (Tt g W (tVal fa)) := (pt_truth ha he).imp fun σ H Q ⟨pr, S, Hf, R, h⟩ => by
  refine ⟨pr, S, Hf, R, ?_⟩
  unfold tVal at h
  rw [M.bind_def] at h
  revert h
  cases fa S with
  | ok d S' =>
    intro h v H' Hf' a b R' x
    have h : AfT g W pr (Mo (truthD d) S') σ H Hf Q := h
    obtain ⟨r, hr, q⟩ := Mo_aft (AfT.mono h a b) R'
    exact ⟨r, Ro.truth at_ R'.sub x hr, q⟩
  | ex c fs S' => exact id
  | no => exact id
theorem Tt.bind {t : M Bool} {k : Bool → M Bool} {Q : Bool → Hp → Prop} (h : Tt g W (t >>= k) σ H Q) : Tt g W t σ H fun b H1 => ∃ pr S1 Hf1, SRep g pr S1 Hf1 σ H1 ∧ AfT g W pr (k b S1) σ H1 Hf1 Q := by
  obtain ⟨pr, S, Hf, R, h⟩ := h
  refine ⟨pr, S, Hf, R, ?_⟩
  rw [M.bind_def] at h
  revert h
  cases t S with
  | ok d S' => exact fun h H' Hf' a b R' => ⟨pr, S', Hf', R', AfT.mono (H := H) (Hf := Hf) h a b⟩
  | ex c fs S' => exact id
  | no => exact id
theorem Tt.weak {t : M Bool} {Q Q' : Bool → Hp → Prop} (h : Tt g W t σ H Q) (q : ∀ b H', Q b H' → Q' b H') : Tt g W t σ H Q' := by
  obtain ⟨pr, S, Hf, R, h⟩ := h
  refine ⟨pr, S, Hf, R, ?_⟩
  revert h
  cases t S with
  | ok d S' => exact fun h H' Hf' a b R' => q _ _ (h H' Hf' a b R')
  | ex c fs S' => exact id
  | no => exact id
theorem st_not {a : Expr} {pos : Pos} {t : M Bool} (ha : PT X a (Tt g W t)) : PT X (.UnaryOp .Not a pos) (Tt g W (MP.tNot t)) := (pt_not ha).imp fun σ H Q h =>
  (Tt.bind h).weak fun b H' ⟨pr, S, Hf, R, h⟩ => h H' Hf (Sub.refl _) (Sub.refl _) R
theorem sw_and1 {a : Expr} {pos : Pos} {t : M Bool} (ha : PT X a (Tt g W t)) : PW X (.BoolOp .And [a] pos) (Tt g W t) := pw_and1 ha
theorem sw_or1 {a : Expr} {pos : Pos} {t : M Bool} (ha : PT X a (Tt g W t)) : PW X (.BoolOp .Or [a] pos) (Tt g W t) := pw_or1 ha
theorem sw_and {a b : Expr} {rest : List Expr} {pos : Pos} {t u : M Bool} (ha : PT X a (Tt g W t)) (hb : PW X (.BoolOp .And (b :: rest) pos) (Tt g W u)) : PW X (.BoolOp .And (a :: b :: rest) pos) (Tt g W (MP.tAnd t u)) :=
  (pw_and ha hb).imp fun σ H Q h => (Tt.bind h).weak fun k H' ⟨pr, S, Hf, R, h⟩ => by
    cases k with
    | true => exact iteT ⟨pr, S, Hf, R, h⟩
    | false => exact iteF (h H' Hf (Sub.refl _) (Sub.refl _) R)
theorem sw_or {a b : Expr} {rest : List Expr} {pos : Pos} {t u : M Bool} (ha : PT X a (Tt g W t)) (hb : PW X (.BoolOp .Or (b :: rest) pos) (Tt g W u)) : PW X (.BoolOp .Or (a :: b :: rest) pos) (Tt g W (MP.tOr t u)) :=
  (pw_or ha hb).imp fun σ H Q h => (Tt.bind h).weak fun k H' ⟨pr, S, Hf, R, h⟩ => by
    cases k with
    | true => exact iteT (h H' Hf (Sub.refl _) (Sub.refl _) R)
    | false => exact iteF ⟨pr, S, Hf, R, h⟩
theorem TtE.bind [Anti Ψ] {t : M Bool} {k : Bool → M D} {Q : VK} (h : Te g W Ψ (t >>= k) σ H Q) : Tt g W t σ H fun b H1 => ∃ pr S1 Hf1, SRep g pr S1 Hf1 σ H1 ∧ Af g W pr Ψ (k b S1) σ H1 Hf1 Q := by
  obtain ⟨pr, S, Hf, R, h⟩ := h
  refine ⟨pr, S, Hf, R, ?_⟩
  rw [M.bind_def] at h
  revert h
  cases t S with
  | ok d S' => exact fun h H' Hf' a b R' => ⟨pr, S', Hf', R', Af.mono (H := H) (Hf := Hf) h a b⟩
  | ex c fs S' => exact id
  | no => exact id
theorem se_if [Anti Ψ] {c a b : Expr} {pos : Pos} {t : M Bool} {fa fb : M D} (hc : PT X c (Tt g W t)) (ha : PE X a (Te g W Ψ fa)) (hb : PE X b (Te g W Ψ fb)) : PE X (.IfExp c a b pos) (Te g W Ψ (eIf t fa fb)) :=
  (pe_ifExp hc ha hb).imp fun σ H Q h => (TtE.bind h).weak fun k H' ⟨pr, S, Hf, R, h⟩ => by
    cases k with
    | true => exact iteT ⟨pr, S, Hf, R, h⟩
    | false => exact iteF ⟨pr, S, Hf, R, h⟩
/-- values by truth -/
theorem se_and (at_ : At g W X) {a b : Expr} {rest : List Expr} {pos : Pos} {fa fb : M D} (ha : PE X a (Te g W (Ps g) fa)) (hb : PE X (.BoolOp .And (b :: rest) pos) (Te g W (Ps g) fb)) : PE X (.BoolOp .And (a :: b :: rest) pos) (Te g W (Ps g) (eAnd fa fb)) :=
  (pe_andT ha hb).imp fun σ H Q ⟨pr, S, Hf, R, h⟩ => (op1s R h).weak fun v H1 ⟨S1, Hf1, d, e1, e2, R1, x, h⟩ => by
    obtain ⟨k, hk, h⟩ := Mo_bind_af h
    refine ⟨k, Ro.truth at_ R1.sub (.of x) hk, ?_⟩
    cases k with
    | true => exact iteT ⟨pr, S1, Hf1, R1, h⟩
    | false => exact iteF (Af.done (Ψ := Ps g) h R1 x)
theorem se_or (at_ : At g W X) {a b : Expr} {rest : List Expr} {pos : Pos} {fa fb : M D} (ha : PE X a (Te g W (Ps g) fa)) (hb : PE X (.BoolOp .Or (b :: rest) pos) (Te g W (Ps g) fb)) : PE X (.BoolOp .Or (a :: b :: rest) pos) (Te g W (Ps g) (eOr fa fb)) :=
  (pe_orT ha hb).imp fun σ H Q ⟨pr, S, Hf, R, h⟩ => (op1s R h).weak fun v H1 ⟨S1, Hf1, d, e1, e2, R1, x, h⟩ => by
    obtain ⟨k, hk, h⟩ := Mo_bind_af h
    refine ⟨k, Ro.truth at_ R1.sub (.of x) hk, ?_⟩
    cases k with
    | true => exact iteT (Af.done (Ψ := Ps g) h R1 x)
    | false => exact iteF ⟨pr, S1, Hf1, R1, h⟩
theorem se_one {op : BoolOp} {a : Expr} {pos : Pos} {fa : M D} (ha : PE X a (Te g W Ψ fa)) : PE X (.BoolOp op [a] pos) (Te g W Ψ fa) := pe_one ha
theorem se_not (at_ : At g W X) {a : Expr} {pos : Pos} {fa : M D} (ha : PE X a (Te g W (Po g) fa)) : PE X (.UnaryOp .Not a pos) (Te g W (Pw g) (eNot fa)) :=
  (pe_notT ha).imp fun σ H Q ⟨pr, S, Hf, R, h⟩ => (op1 R h).weak fun v H1 ⟨S1, Hf1, d, e1, e2, R1, x, h⟩ => by
    obtain ⟨r, hr, h⟩ := Mo_af h
    unfold notV at hr
    obtain ⟨k, hk, rfl⟩ := Option.map_eq_some_iff.mp hr
    exact ⟨k, Ro.truth at_ R1.sub x hk, Af.done h R1 (.inl ⟨rfl, .bl _⟩)⟩
theorem se_neg {a : Expr} {pos : Pos} {fa : M D} (ha : PE X a (Te g W (Po g) fa)) : PE X (.UnaryOp .USub a pos) (Te g W (Pw g) (eUn negD fa)) :=
  (pe_un un_neg ha).imp fun σ H Q ⟨pr, S, Hf, R, h⟩ => (op1 R h).weak fun v H1 ⟨S1, Hf1, d, e1, e2, R1, x, h⟩ => by
    obtain ⟨r, hr, h⟩ := Mo_af h
    cases d <;> simp only [negD, Option.some.injEq, reduceCtorEq] at hr
    subst hr
    cases x.int
    exact ⟨_, rfl, Af.done h R1 (.inl ⟨rfl, .int _⟩)⟩
end
end MP

/-! MP6: displays, subscripts, slices, built-in functions. -/
namespace MP
open PySem PySem.Spec PyProof.Rows L2

inductive RoA (g : G) (H Hf : Hp) : List V → List D → Prop
  | nil : RoA g H Hf [] []
  | cons {v : V} {d : D} {vs : List V} {ds : List D} : Ro g H Hf v d → RoA g H Hf vs ds → RoA g H Hf (v :: vs) (d :: ds)
theorem RoA.mono {g : G} {H H' Hf Hf' : Hp} (e : Sub H H') (f : Sub Hf Hf') : ∀ {vs : List V} {ds : List D}, RoA g H Hf vs ds → RoA g H' Hf' vs ds
  | _, _, .nil => .nil
  | _, _, .cons h r => .cons (h.mono e f) (RoA.mono e f r)
theorem RoA.of {g : G} {H Hf : Hp} : ∀ {vs : List V} {ds : List D}, RpA g Hf vs ds → RoA g H Hf vs ds
  | _, _, .nil => .nil
  | _, _, .cons h r => .cons (.of h) (RoA.of r)

section
variable (g : G) (W : WX)
/-- the reading of a row of expressions: items that stand still -/
def Tas (f : M (List D)) : TA := fun σ H Q => ∃ pr S Hf, SRep g pr S Hf σ H ∧ match f S with
  | .ok ds S' => ∀ vs H' Hf', Sub H H' → Sub Hf Hf' → SRep g pr S' Hf' σ H' → RpA g Hf' vs ds → Q vs H'
  | .ex c fs S' => AfX g W pr c fs S' σ H Hf
  | .no => False
/-- .. operands -/
def Tao (f : M (List D)) : TA := fun σ H Q => ∃ pr S Hf, SRep g pr S Hf σ H ∧ match f S with
  | .ok ds S' => ∀ vs H' Hf', Sub H H' → Sub Hf Hf' → SRep g pr S' Hf' σ H' → RoA g H' Hf' vs ds → Q vs H'
  | .ex c fs S' => AfX g W pr c fs S' σ H Hf
  | .no => False
end
theorem _root_.L2.PA.imp {X : Cx} {e : List Expr} {t t' : TA} (h : PA X e t) (hi : ∀ σ H Q, t' σ H Q → t σ H Q) : PA X e t' := ⟨fun pos pins s σ H Q I q => h.run pos pins s σ H Q I (hi σ H Q q)⟩
def notStar : Expr → Bool
  | .Starred .. => false
  | _ => true
theorem starEach_plain {e : Expr} {es : List Expr} {env : Env} (h : notStar e = true) : starEach (e :: es) env = (false, eval e env) :: starEach es env := by
  cases e <;> first | rfl | (simp [notStar] at h)
theorem star_any : ∀ {es : List Expr} {env : Env} {pos : Pos}, es.all notStar = true → ((backTo pos (starEach es env)).any fun x => x.fst) = false
  | [], _, _, _ => rfl
  | e :: es, env, pos, h => by
    rw [List.all_cons, Bool.and_eq_true] at h
    rw [starEach_plain h.1]
    show (false || (backTo pos (starEach es env)).any fun x => x.fst) = false
    rw [star_any h.2]; rfl
section
variable {g : G} {W : WX} {X : Cx} {pr : Addr → Prop} {S : Sx} {σ : L2.St} {H H1 Hf Hf1 : Hp} {Ψ : Psi}
theorem sas_nil : PA X [] (Tas g W (evs [])) := pa_nil.imp fun σ H Q ⟨pr, S, Hf, R, h⟩ => h [] H Hf (Sub.refl _) (Sub.refl _) R .nil
theorem sao_nil : PA X [] (Tao g W (evs [])) := pa_nil.imp fun σ H Q ⟨pr, S, Hf, R, h⟩ => h [] H Hf (Sub.refl _) (Sub.refl _) R .nil
theorem sas_cons {e : Expr} {es : List Expr} {f : M D} {fs : List (M D)} (h1 : PE X e (Te g W (Ps g) f)) (h2 : PA X es (Tas g W (evs fs))) (hs : notStar e = true) : PA X (e :: es) (Tas g W (evs (f :: fs))) :=
  (pa_cons h1 h2 (starEach_plain hs)).imp fun σ H Q ⟨pr, S, Hf, R, h⟩ => by
    refine ⟨pr, S, Hf, R, ?_⟩
    rw [evs, M.bind_def] at h
    revert h
    cases f S with
    | ok d S1 =>
      intro h v H1 Hf1 a b R1 x
      refine ⟨pr, S1, Hf1, R1, ?_⟩
      dsimp only at h
      rw [M.bind_def] at h
      revert h
      cases evs fs S1 with
      | ok ds S2 => exact fun h vs H2 Hf2 a' b' R2 xs => h (v :: vs) H2 Hf2 (a.trans a') (b.trans b') R2 (.cons (x.mono b') xs)
      | ex c fs S2 => exact fun h => AfX.mono h a b
      | no => exact id
    | ex c fs S1 => exact id
    | no => exact id
theorem sao_cons {e : Expr} {es : List Expr} {f : M D} {fs : List (M D)} (h1 : PE X e (Te g W (Po g) f)) (h2 : PA X es (Tao g W (evs fs))) (hs : notStar e = true) : PA X (e :: es) (Tao g W (evs (f :: fs))) :=
  (pa_cons h1 h2 (starEach_plain hs)).imp fun σ H Q ⟨pr, S, Hf, R, h⟩ => by
    refine ⟨pr, S, Hf, R, ?_⟩
    rw [evs, M.bind_def] at h
    revert h
    cases f S with
    | ok d S1 =>
      intro h v H1 Hf1 a b R1 x
      refine ⟨pr, S1, Hf1, R1, ?_⟩
      dsimp only at h
      rw [M.bind_def] at h
      revert h
      cases evs fs S1 with
      | ok ds S2 => exact fun h vs H2 Hf2 a' b' R2 xs => h (v :: vs) H2 Hf2 (a.trans a') (b.trans b') R2 (.cons (x.mono a' b') xs)
      | ex c fs S2 => exact fun h => AfX.mono h a b
      | no => exact id
    | ex c fs S1 => exact id
    | no => exact id
theorem le_line {n : Nat} (h : n ≤ 1000) : n ≤ sizeLine := Nat.le_of_lt (small1000 h)
/-- displays -/
theorem se_tup {es : List Expr} {k : Nat} {pos : Pos} {fs : List (M D)} (h : PA X es (Tas g W (evs fs))) : PE X (.Tuple es k pos) (Te g W (Pw g) (eTup fs)) := (pe_tup h).imp fun σ H Q ⟨pr, S, Hf, R, h⟩ => by
  refine ⟨pr, S, Hf, R, ?_⟩
  rw [eTup, M.bind_def] at h
  revert h
  cases evs fs S with
  | ok ds S1 =>
    intro h vs H' Hf' a b R' x
    dsimp only at h
    obtain ⟨r, hr, h⟩ := Mo_af h
    simp only [tupD, Option.ite_none_right_eq_some, Option.some.injEq] at hr
    obtain ⟨hz, rfl⟩ := hr
    exact ⟨by rw [x.length]; exact le_line hz, fun p hp => tupK R' (Af.mono h a b) x hp⟩
  | ex c fs S1 => exact id
  | no => exact id
theorem se_lst {es : List Expr} {pos : Pos} {fs : List (M D)} (h : PA X es (Tas g W (evs fs))) : PE X (.List es pos) (Te g W (Pw g) (eLst fs)) := (pe_lst h).imp fun σ H Q ⟨pr, S, Hf, R, h⟩ => by
  refine ⟨pr, S, Hf, R, ?_⟩
  rw [eLst, M.bind_def] at h
  revert h
  cases evs fs S with
  | ok ds S1 =>
    intro h vs H' Hf' a b R' x
    dsimp only at h
    obtain ⟨r, hr, h⟩ := Mo_af h
    simp only [lstD, Option.ite_none_right_eq_some, Option.some.injEq] at hr
    obtain ⟨hz, rfl⟩ := hr
    exact ⟨by rw [x.length]; exact le_line hz, fun p hp => lstK R' (Af.mono h a b) x hp⟩
  | ex c fs S1 => exact id
  | no => exact id

/-! ### subscripts -/
theorem RpA.atI {vs : List V} {ds : List D} (r : RpA g Hf vs ds) {i : Int} {d : D} (h : L2.atI ds i = some d) : ∃ v, L2.atI vs i = some v ∧ Rp g Hf v d := by
  unfold L2.atI at h ⊢
  rw [r.length]
  cases q : ixN ds.length i with
  | none => rw [q] at h; cases h
  | some j =>
    rw [q] at h
    obtain ⟨v, h1, h2⟩ := r.get (i := j) h
    exact ⟨v, h1, h2⟩
def ix0 : D → D → Option D
  | .lst xs, .int i => L2.atI xs i
  | .tup xs, .int i => L2.atI xs i
  | .str x, .int i => if x.length ≤ sizeLine then (L2.atI x i).map fun c => .str [c] else none
  | _, _ => none
def IxD (g : G) (W : WX) (X : Cx) (k : D → D → M D) : Prop := IxR X (R2D g W (Ps g) k)
theorem ix0_ok (at_ : At g W X) : IxD g W X (fun x y => Mo (ix0 x y)) := fun value slice pins s σ0 H x y v u Q I rx ry ⟨σ, pr, S, Hf, d, e, R, rd, re, h⟩ hs => by
  obtain ⟨r, hr, h'⟩ := Mo_af h
  clear h
  refine ix_seq value slice pins s σ0 H x y v u Q I rx ry ?_ hs
  cases e <;> cases d <;> simp only [ix0, reduceCtorEq] at hr
  · rename_i i z
    simp only [Option.ite_none_right_eq_some] at hr
    obtain ⟨hz, hr⟩ := hr
    obtain ⟨c, hc, rfl⟩ := Option.map_eq_some_iff.mp hr
    cases rd.str; cases re.int
    exact .inr (.inr ⟨_, _, c, rfl, rfl, by rw [Str.mk_length]; exact hz, by simpa using hc, Af.done (Ψ := Ps g) h' R (Rp.str [c])⟩)
  · rename_i i xs
    obtain ⟨p, vs, rfl, _, q, ra⟩ := rd.tuple R.sub
    cases re.int
    obtain ⟨w, h1, h2⟩ := ra.atI hr
    rw [← at_.k] at q
    exact .inr (.inl ⟨p, vs, i, w, rfl, rfl, q, h1, Af.done (Ψ := Ps g) h' R h2⟩)
  · rename_i i xs
    obtain ⟨p, vs, rfl, q, ra⟩ := rd.list R.sub
    cases re.int
    obtain ⟨w, h1, h2⟩ := ra.atI hr
    rw [← at_.k] at q
    exact .inl ⟨p, vs, i, w, rfl, rfl, q, h1, Af.done (Ψ := Ps g) h' R h2⟩
def noSlice : Expr → Bool
  | .Slice .. => false
  | _ => true
theorem plainIx {e : Expr} (h : noSlice e = true) : PlainIx e := fun o i => by
  cases e <;> first | rfl | (simp [noSlice] at h)
theorem se_ix {a b : Expr} {pos : Pos} {fa fb : M D} {k : D → D → M D} (hk : IxD g W X k) (ha : PE X a (Te g W (Po g) fa)) (hb : PE X b (Te g W (Po g) fb)) (hs : noSlice b = true) :
    PE X (.Subscript a b pos) (Te g W (Ps g) (fa >>= fun x => fb >>= fun y => k x y)) := (pe_ix hk ha hb (plainIx hs)).imp fun σ H Q h => to_op h
/-- slices -/
def Top (g : G) (W : WX) (f : M (Option Int)) : TO := fun σ H Q => ∃ pr S Hf, SRep g pr S Hf σ H ∧ match f S with
  | .ok o S' => ∀ H' Hf', Sub H H' → Sub Hf Hf' → SRep g pr S' Hf' σ H' → Q o H'
  | .ex c fs S' => AfX g W pr c fs S' σ H Hf
  | .no => False
theorem _root_.L2.PO.imp {X : Cx} {e : Option Expr} {t t' : TO} (h : PO X e t) (hi : ∀ σ H Q, t' σ H Q → t σ H Q) : PO X e t' := ⟨fun pins s σ H Q I q => h.run pins s σ H Q I (hi σ H Q q)⟩
theorem sp_none : PO X none (Top g W (ePart none)) := po_none.imp fun σ H Q ⟨pr, S, Hf, R, h⟩ => h H Hf (Sub.refl _) (Sub.refl _) R
theorem sp_some {e : Expr} {f : M D} (h : PE X e (Te g W (Po g) f)) : PO X (some e) (Top g W (ePart (some f))) := (po_some h).imp fun σ H Q ⟨pr, S, Hf, R, h⟩ => by
  refine ⟨pr, S, Hf, R, ?_⟩
  rw [ePart, M.bind_def] at h
  revert h
  cases f S with
  | ok d S1 =>
    intro h v H1 Hf1 a b R1 x
    dsimp only at h
    rw [M.bind_def] at h
    cases d with
    | int i =>
      cases x.int
      exact ⟨i, rfl, h H1 Hf1 a b R1⟩
    | _ => exact h.elim
  | ex c fs S1 => exact id
  | no => exact id
theorem RpA.cut {vs : List V} {ds : List D} (r : RpA g Hf vs ds) (lo hi : Option Int) : RpA g Hf (cutV vs lo hi) (MP.cut ds lo hi) := by
  unfold cutV MP.cut
  rw [r.length]
  exact (r.drop _).take _
theorem sl_ok (at_ : At g W X) : SlR X (fun x lo hi H Q => ∃ σ pr S Hf d, SRep g pr S Hf σ H ∧ Ro g H Hf x d ∧ Af g W pr (Pw g) (Mo (slD lo hi d) S) σ H Hf Q) := fun pins s σ0 H x v vl vu lo hi sl Q I rx hs pl pu ⟨σ, pr, S, Hf, d, R, rd, h⟩ => by
  obtain ⟨r, hr, h⟩ := Mo_af h
  cases d <;> simp only [slD, reduceCtorEq, Option.some.injEq] at hr
  · rename_i z
    simp only [Option.ite_none_right_eq_some, Option.some.injEq] at hr
    obtain ⟨hz, rfl⟩ := hr
    cases rd.str
    refine sl_str pins s σ0 H _ v vl vu lo hi sl Q I rx hs pl pu ⟨_, rfl, by rw [Str.mk_length]; exact hz, ?_⟩
    have e : cutS ⟨z.toArray⟩ lo hi = ⟨(cut z lo hi).toArray⟩ := by
      unfold cutS cut
      rw [Str.mk_length]
    rw [e]
    exact flatK R h (.str _) rfl
  · rename_i xs
    subst hr
    obtain ⟨p, vs, rfl, q0, q, ra⟩ := rd.tuple R.sub
    rw [← at_.k] at q
    refine sl_tupA pins s σ0 H _ v vl vu lo hi sl Q I rx hs pl pu ⟨p, vs, rfl, q, fun hw => ?_, fun _ p hp => tupK R h (ra.cut lo hi) hp⟩
    have e : cut xs lo hi = xs := by
      unfold cut
      rw [← ra.length, hw.1, hw.2, List.drop_zero, ra.length, Nat.sub_zero, List.take_length]
    rw [e] at h
    exact flatK R h (.tup q0 ra) rfl
  · rename_i xs
    subst hr
    obtain ⟨p, vs, rfl, q, ra⟩ := rd.list R.sub
    rw [← at_.k] at q
    exact sl_list pins s σ0 H _ v vl vu lo hi sl Q I rx hs pl pu ⟨p, vs, rfl, q, fun p hp => lstK R h (ra.cut lo hi) hp⟩
theorem se_sl (at_ : At g W X) {a : Expr} {lo hi : Option Expr} {pos p2 : Pos} {fa : M D} {fl fh : Option (M D)} (ha : PE X a (Te g W (Po g) fa)) (hl : PO X lo (Top g W (ePart fl))) (hh : PO X hi (Top g W (ePart fh))) :
    PE X (.Subscript a (.Slice lo hi none p2) pos) (Te g W (Pw g) (eSl fa fl fh)) := (pe_slice (sl_ok at_) ha hl hh).imp fun σ H Q ⟨pr, S, Hf, R, h⟩ => (op1 R h).weak fun v H1 ⟨S1, Hf1, d, e1, e2, R1, x, h⟩ => by
  refine ⟨pr, S1, Hf1, R1, ?_⟩
  rw [M.bind_def] at h
  revert h
  cases ePart fl S1 with
  | ok l S2 =>
    intro h H2 Hf2 a b R2
    refine ⟨pr, S2, Hf2, R2, ?_⟩
    dsimp only at h
    rw [M.bind_def] at h
    revert h
    cases ePart fh S2 with
    | ok u S3 => exact fun h H3 Hf3 a' b' R3 => ⟨σ, pr, S3, Hf3, d, R3, x.mono (a.trans a') (b.trans b'), Af.mono h (a.trans a') (b.trans b')⟩
    | ex c fs S3 => exact fun h => AfX.mono h a b
    | no => exact id
  | ex c fs S2 => exact id
  | no => exact id

/-! ### built-in functions -/
def RaD (g : G) (W : WX) (Ψ : Psi) (k : List D → M D) : List V → Hp → VK → Prop := fun xs H Q => ∃ σ pr S Hf ds, SRep g pr S Hf σ H ∧ RoA g H Hf xs ds ∧ Af g W pr Ψ (k ds S) σ H Hf Q
/-- the built-in f does h -/
def CalD (g : G) (W : WX) (X : Cx) (f : Value) (h : List D → Option D) : Prop := CallR X f (RaD g W (Pw g) fun ds => Mo (h ds))
def eCal (h : List D → Option D) (fs : List (M D)) : M D := evs fs >>= fun ds => Mo (h ds)
theorem to_ra [Anti Ψ] {fs : List (M D)} {k : List D → M D} {Q : VK} (h : Te g W Ψ (evs fs >>= k) σ H Q) : tCB (RaD g W Ψ k) (Tao g W (evs fs)) σ H Q := by
  obtain ⟨pr, S, Hf, R, h⟩ := h
  refine ⟨pr, S, Hf, R, ?_⟩
  rw [M.bind_def] at h
  revert h
  cases evs fs S with
  | ok ds S1 => exact fun h vs H' Hf' a b R' x => ⟨σ, pr, S1, Hf', ds, R', x, Af.mono h a b⟩
  | ex c fs S1 => exact id
  | no => exact id
theorem se_callB {x : Str} {id : String} {p pos : Pos} {e : Expr} {es : List Expr} {fs : List (M D)} {h : List D → Option D} (hc : CalD g W X (.builtin id) h) (hg : Gl X x) (hm : X.mg x = none) (hv : bootBuiltins x = some (.builtin id)) (ha : PA X (e :: es) (Tao g W (evs fs)))
    (hn : x ≠ "__name__") (hd : (x == ("__debug__" : Str)) = false) (hs : notStar e = true) (hs' : es.all notStar = true) : PE X (.Call (.Name x p) (e :: es) [] pos) (Te g W (Pw g) (eCal h fs)) :=
  (pe_callB hc hg hm hv ha hn hd (starEach_plain hs) (star_any hs')).imp fun σ H Q h => to_ra h
theorem se_callTy {x : Str} {id : String} {p pos : Pos} {e : Expr} {es : List Expr} {fs : List (M D)} {h : List D → Option D} (hc : CalD g W X (.type id) h) (hg : Gl X x) (hm : X.mg x = none) (hv : bootBuiltins x = some (.type id)) (ha : PA X (e :: es) (Tao g W (evs fs)))
    (hn : x ≠ "__name__") (hd : (x == ("__debug__" : Str)) = false) (hs : notStar e = true) (hs' : es.all notStar = true) : PE X (.Call (.Name x p) (e :: es) [] pos) (Te g W (Pw g) (eCal h fs)) :=
  (pe_callTy hc hg hm hv ha hn hd (starEach_plain hs) (star_any hs')).imp fun σ H Q h => to_ra h
end
end MP

/-! MP7: the built-in functions, one by one. -/
namespace MP
open PySem PySem.Spec PyProof.Rows L2

def absB : List D → Option D
  | [.int i] => some (.int (if i < 0 then -i else i))
  | _ => none
def intB : List D → Option D
  | [.int i] => some (.int i)
  | [.bl b] => some (.int (if b = true then 1 else 0))
  | _ => none
def strB : List D → Option D
  | [.int i] => if i.natAbs.log2 < 1920 then some (.str (toString i : Str).cps.toList) else none
  | [.str x] => some (.str x)
  | _ => none
def lenB : List D → Option D
  | [.str x] => if x.length ≤ sizeLine then some (.int x.length) else none
  | [.tup x] => some (.int x.length)
  | [.lst x] => some (.int x.length)
  | _ => none
def tupleB : List D → Option D
  | [.tup x] => some (.tup x)
  | [.lst x] => some (.tup x)
  | _ => none
def listB : List D → Option D
  | [.tup x] => some (.lst x)
  | [.lst x] => some (.lst x)
  | _ => none
def bls : List D → Option (List Bool)
  | [] => some []
  | d :: ds => match blOf d, bls ds with
    | some b, some bs => some (b :: bs)
    | _, _ => none
def izs : List D → Option (List Int)
  | [] => some []
  | d :: ds => match intOf d, izs ds with
    | some b, some bs => some (b :: bs)
    | _, _ => none
def anyB : List D → Option D
  | [.lst x] => (bls x).map fun bs => .bl (bs.any id)
  | _ => none
def allB : List D → Option D
  | [.lst x] => (bls x).map fun bs => .bl (bs.all id)
  | _ => none
def sumB : List D → Option D
  | [.lst x] => (izs x).map fun bs => .int bs.sum
  | _ => none
def maxB : List D → Option D
  | [.int i, .int j] => some (.int (if j > i then j else i))
  | _ => none
def minB : List D → Option D
  | [.int i, .int j] => some (.int (if j < i then j else i))
  | _ => none
def reprOk (d : D) : Bool := fit 60 d && (py d).showable && decide ((py d).shown.length ≤ sizeLine)
def reprB : List D → Option D
  | [d] => if reprOk d then some (.str (py d).shown.cps.toList) else none
  | _ => none
/-- what sorted may take -/
def sortOk (ds : List D) : Bool := fits 60 ds && decide (ds.length ≤ sizeLine) && ((pys ds).all fun a => (pys ds).all fun b => PySem.W.alike a b) &&
  ((ds.all fun d => match d with | .tup (_ :: _) => true | _ => false) || (ds.all fun d => match d with | .tup _ => false | .non => false | _ => true))
def sortedB : List D → Option D
  | [.lst x] => if sortOk x then some (.lst (x.mergeSort (PySem.W.dataLe false py))) else none
  | [.tup x] => if sortOk x then some (.lst (x.mergeSort (PySem.W.dataLe false py))) else none
  | _ => none
section
variable {g : G} {W : WX} {X : Cx}
theorem RoA.one {H Hf : Hp} {xs : List V} {d : D} (h : RoA g H Hf xs [d]) : ∃ x, xs = [x] ∧ Ro g H Hf x d := by
  cases h with
  | cons h r => cases r; exact ⟨_, rfl, h⟩
theorem RoA.two {H Hf : Hp} {xs : List V} {d e : D} (h : RoA g H Hf xs [d, e]) : ∃ x y, xs = [x, y] ∧ Ro g H Hf x d ∧ Ro g H Hf y e := by
  cases h with
  | cons h r => cases r with | cons h' r' => cases r'; exact ⟨_, _, rfl, h, h'⟩
/-- by a rule of the layer -/
theorem CalD.of {f : Value} {r : List V → Hp → VK → Prop} {h : List D → Option D} (o : CallR X f r)
    (q : ∀ (σ : L2.St) (H : Hp) (xs : List V) (Q : VK) (pr : Addr → Prop) (S : Sx) (Hf : Hp) (ds : List D) (e : D), SRep g pr S Hf σ H → RoA g H Hf xs ds → h ds = some e →
      (∀ v H' Hf', Sub H H' → Sub Hf Hf' → SRep g pr S Hf' σ H' → Pw g H S σ H' Hf' v e → Q v H') → r xs H Q) : CalD g W X f h :=
  fun pins s σ0 H xs us Q I rv ⟨σ, pr, S, Hf, ds, R, ra, h⟩ => by
    obtain ⟨e, he, h⟩ := Mo_af h
    exact o pins s σ0 H xs us Q I rv (q σ H xs Q pr S Hf ds e R ra he h)
theorem cal_abs : CalD g W X (.builtin "abs") absB := .of call_abs fun σ H xs Q pr S Hf ds e R ra he k => by
  unfold absB at he
  split at he <;> simp only [Option.some.injEq, reduceCtorEq] at he
  subst he
  obtain ⟨x, rfl, rx⟩ := ra.one
  cases rx.int
  exact ⟨_, rfl, flatK R k (.int _) rfl⟩
theorem cal_int : CalD g W X (.type "int") intB := .of call_int1 fun σ H xs Q pr S Hf ds e R ra he k => by
  unfold intB at he
  split at he <;> simp only [Option.some.injEq, reduceCtorEq] at he
  · subst he
    obtain ⟨x, rfl, rx⟩ := ra.one
    cases rx.int
    exact .inl ⟨_, rfl, flatK R k (.int _) rfl⟩
  · subst he
    obtain ⟨x, rfl, rx⟩ := ra.one
    cases rx.bl
    exact .inr ⟨_, rfl, flatK R k (.int _) rfl⟩
theorem cal_str : CalD g W X (.type "str") strB := .of (CallR.or call_str_int SkE.call_str_str) fun σ H xs Q pr S Hf ds e R ra he k => by
  unfold strB at he
  split at he <;> simp only [Option.some.injEq, Option.ite_none_right_eq_some, reduceCtorEq] at he
  · obtain ⟨hz, rfl⟩ := he
    obtain ⟨x, rfl, rx⟩ := ra.one
    cases rx.int
    exact .inl ⟨_, rfl, hz, flatK R k (.str' _) rfl⟩
  · subst he
    obtain ⟨x, rfl, rx⟩ := ra.one
    cases rx.str
    exact .inr ⟨_, rfl, flatK R k (.str _) rfl⟩
theorem cal_len (a : At g W X) : CalD g W X (.builtin "len") lenB := .of call_len fun σ H xs Q pr S Hf ds e R ra he k => by
  unfold lenB at he
  split at he <;> simp only [Option.some.injEq, Option.ite_none_right_eq_some, reduceCtorEq] at he
  · obtain ⟨hz, rfl⟩ := he
    obtain ⟨x, rfl, rx⟩ := ra.one
    cases rx.str
    exact ⟨_, _, rfl, ⟨by rw [Str.mk_length]; exact hz, (Str.mk_length _).symm⟩, flatK R k (.int _) rfl⟩
  · subst he
    obtain ⟨x, rfl, rx⟩ := ra.one
    obtain ⟨p, vs, rfl, _, q, r⟩ := rx.tuple R.sub
    rw [← a.k] at q
    exact ⟨_, _, rfl, .inr ⟨vs, q, r.length.symm⟩, flatK R k (.int _) rfl⟩
  · subst he
    obtain ⟨x, rfl, rx⟩ := ra.one
    obtain ⟨p, vs, rfl, q, r⟩ := rx.list R.sub
    rw [← a.k] at q
    exact ⟨_, _, rfl, .inl ⟨vs, q, r.length.symm⟩, flatK R k (.int _) rfl⟩
theorem cal_tuple (a : At g W X) : CalD g W X (.type "tuple") tupleB := .of call_tuple_of fun σ H xs Q pr S Hf ds e R ra he k => by
  unfold tupleB at he
  split at he <;> simp only [Option.some.injEq, reduceCtorEq] at he
  · subst he
    obtain ⟨x, rfl, rx⟩ := ra.one
    obtain ⟨p, vs, rfl, q0, q, r⟩ := rx.tuple R.sub
    rw [← a.k] at q
    exact ⟨p, vs, rfl, .inr ⟨q, flatK R k (.tup q0 r) rfl⟩⟩
  · subst he
    obtain ⟨x, rfl, rx⟩ := ra.one
    obtain ⟨p, vs, rfl, q, r⟩ := rx.list R.sub
    rw [← a.k] at q
    exact ⟨p, vs, rfl, .inl ⟨q, fun l hl => tupK R k r hl⟩⟩
theorem cal_list (a : At g W X) : CalD g W X (.type "list") listB := .of call_list_of fun σ H xs Q pr S Hf ds e R ra he k => by
  unfold listB at he
  split at he <;> simp only [Option.some.injEq, reduceCtorEq] at he
  · subst he
    obtain ⟨x, rfl, rx⟩ := ra.one
    obtain ⟨p, vs, rfl, q0, q, r⟩ := rx.tuple R.sub
    rw [← a.k] at q
    exact ⟨p, vs, rfl, .inr q, fun l hl => lstK R k r hl⟩
  · subst he
    obtain ⟨x, rfl, rx⟩ := ra.one
    obtain ⟨p, vs, rfl, q, r⟩ := rx.list R.sub
    rw [← a.k] at q
    exact ⟨p, vs, rfl, .inl q, fun l hl => lstK R k r hl⟩
theorem RpA.bls {H : Hp} : ∀ {vs : List V} {ds : List D} {bs : List Bool}, RpA g H vs ds → MP.bls ds = some bs → vs = bs.map V.bl
  | _, _, _, .nil, h => by simp only [MP.bls, Option.some.injEq] at h; subst h; rfl
  | _, _, bs, .cons (d := d) (ds := ds) h r, e => by
    rw [MP.bls] at e
    cases q : blOf d with
    | none => rw [q] at e; cases e
    | some b =>
      cases q' : MP.bls ds with
      | none => rw [q, q'] at e; cases e
      | some bs' =>
        rw [q, q'] at e
        simp only [Option.some.injEq] at e
        subst e
        cases d <;> simp only [blOf, Option.some.injEq, reduceCtorEq] at q
        subst q
        cases h
        rw [RpA.bls r q']; rfl
theorem RpA.izs {H : Hp} : ∀ {vs : List V} {ds : List D} {bs : List Int}, RpA g H vs ds → MP.izs ds = some bs → vs = bs.map V.int
  | _, _, _, .nil, h => by simp only [MP.izs, Option.some.injEq] at h; subst h; rfl
  | _, _, bs, .cons (d := d) (ds := ds) h r, e => by
    rw [MP.izs] at e
    cases q : intOf d with
    | none => rw [q] at e; cases e
    | some b =>
      cases q' : MP.izs ds with
      | none => rw [q, q'] at e; cases e
      | some bs' =>
        rw [q, q'] at e
        simp only [Option.some.injEq] at e
        subst e
        cases d <;> simp only [intOf, Option.some.injEq, reduceCtorEq] at q
        subst q
        cases h
        rw [RpA.izs r q']; rfl
theorem cal_any (a : At g W X) (hc : X.calm = true) : CalD g W X (.builtin "any") anyB := .of (cr_any hc) fun σ H xs Q pr S Hf ds e R ra he k => by
  unfold anyB at he
  split at he
  · obtain ⟨bs, hb, rfl⟩ := Option.map_eq_some_iff.mp he
    obtain ⟨x, rfl, rx⟩ := ra.one
    obtain ⟨p, vs, rfl, q, r⟩ := rx.list R.sub
    rw [← a.k, r.bls hb] at q
    exact ⟨p, bs, rfl, q, flatK R k (.bl _) rfl⟩
  · cases he
theorem cal_all (a : At g W X) (hc : X.calm = true) : CalD g W X (.builtin "all") allB := .of (cr_all hc) fun σ H xs Q pr S Hf ds e R ra he k => by
  unfold allB at he
  split at he
  · obtain ⟨bs, hb, rfl⟩ := Option.map_eq_some_iff.mp he
    obtain ⟨x, rfl, rx⟩ := ra.one
    obtain ⟨p, vs, rfl, q, r⟩ := rx.list R.sub
    rw [← a.k, r.bls hb] at q
    exact ⟨p, bs, rfl, q, flatK R k (.bl _) rfl⟩
  · cases he
theorem cal_sum (a : At g W X) (hc : X.calm = true) : CalD g W X (.builtin "sum") sumB := .of (cr_sum hc) fun σ H xs Q pr S Hf ds e R ra he k => by
  unfold sumB at he
  split at he
  · obtain ⟨bs, hb, rfl⟩ := Option.map_eq_some_iff.mp he
    obtain ⟨x, rfl, rx⟩ := ra.one
    obtain ⟨p, vs, rfl, q, r⟩ := rx.list R.sub
    rw [← a.k, r.izs hb] at q
    exact ⟨p, bs, rfl, q, flatK R k (.int _) rfl⟩
  · cases he
theorem cal_max (hc : X.calm = true) : CalD g W X (.builtin "max") maxB := .of (call_max2 hc) fun σ H xs Q pr S Hf ds e R ra he k => by
  unfold maxB at he
  split at he <;> simp only [Option.some.injEq, reduceCtorEq] at he
  subst he
  obtain ⟨x, y, rfl, rx, ry⟩ := ra.two
  cases rx.int; cases ry.int
  exact ⟨_, _, rfl, flatK R k (.int _) rfl⟩
theorem cal_min (hc : X.calm = true) : CalD g W X (.builtin "min") minB := .of (call_min2 hc) fun σ H xs Q pr S Hf ds e R ra he k => by
  unfold minB at he
  split at he <;> simp only [Option.some.injEq, reduceCtorEq] at he
  subst he
  obtain ⟨x, y, rfl, rx, ry⟩ := ra.two
  cases rx.int; cases ry.int
  exact ⟨_, _, rfl, flatK R k (.int _) rfl⟩
mutual
theorem noDict_plain : ∀ d : PyData, d.plain = true → d.hasDict = false
  | .none, _ => by simp only [PyData.hasDict]
  | .bool _, _ => by simp only [PyData.hasDict]
  | .int _, _ => by simp only [PyData.hasDict]
  | .str _, _ => by simp only [PyData.hasDict]
  | .list xs, h => by
    simp only [PyData.hasDict]
    exact noDict_plainAll xs (by simpa [PyData.plain] using h)
  | .tuple xs, h => by
    simp only [PyData.hasDict]
    exact noDict_plainAll xs (by simpa [PyData.plain] using h)
  | .dict _, h => by simp [PyData.plain] at h
theorem noDict_plainAll : ∀ ds : List PyData, PyData.plainAll ds = true → PyData.hasDictAll ds = false
  | [], _ => by simp only [PyData.hasDictAll]
  | d :: ds, h => by
    have h' : d.plain = true ∧ PyData.plainAll ds = true := by simpa [PyData.plainAll] using h
    simp only [PyData.hasDictAll, noDict_plain d h'.1, noDict_plainAll ds h'.2, Bool.or_self]
end
theorem cal_repr (a : At g W X) (hg : X.A.guards = some []) : CalD g W X (.builtin "repr") reprB := fun pins s σ0 H xs us Q I rv ⟨σ, pr, S, Hf, ds, R, ra, h⟩ => by
  obtain ⟨e, he, h'⟩ := Mo_af h
  clear h
  unfold reprB at he
  split at he
  · rename_i d
    simp only [Option.ite_none_right_eq_some, Option.some.injEq] at he
    obtain ⟨hk, rfl⟩ := he
    obtain ⟨x, rfl, rx⟩ := ra.one
    cases rv with
    | cons r1 r2 =>
      rename_i u us
      cases r2
      simp only [reprOk, Bool.and_eq_true, decide_eq_true_eq] at hk
      obtain ⟨⟨hf, hs⟩, hz⟩ := hk
      obtain ⟨as, rd⟩ := a.dpR I hf (rx.all R.sub) r1
      have fin : ∀ (h' : Heap) t tk, (∀ b o, s.heap.get? b = some o → h'.get? b = some o) → EP X pins σ0 Q (.str (py d).shown t) { s with heap := h', toks := tk } := fun h1 t tk hk => by
        refine ⟨.str (py d).shown, H, I.kept (t' := tk) hk, ⟨t, rfl⟩, flatK R h' ?_ rfl⟩
        exact Rp.str' _
      cases d with
      | non =>
        simp only [py] at rd hz fin
        cases rd
        exact PySem.P.repr_of_none (fin s.heap _ _ fun _ _ h => h)
      | bl b =>
        simp only [py] at rd hz fin
        cases rd
        exact PySem.P.repr_of_bool (fin s.heap _ _ fun _ _ h => h)
      | int i =>
        simp only [py] at rd hz hs fin
        cases rd
        exact PySem.P.repr_of_int (by simpa [PyData.showable] using hs) (fin s.heap _ _ fun _ _ h => h)
      | str z =>
        simp only [py] at rd hz fin
        cases rd
        exact PySem.P.repr_of_str (hsz := by simpa [PyData.shown] using hz) (fin s.heap _ _ fun _ _ h => h)
      | tup zs =>
        obtain ⟨p1, p2⟩ := plain_py hf
        have hd : (py (D.tup zs)).hasDict = false := noDict_plain _ p1
        have hu := a.hu
        simp only [py] at rd hz hs fin p2 hd
        cases rd with
        | tuple h1 h2 h3 h4 =>
          exact PySem.repr_of_reads' (hsz := hz) (.tuple h1 h2 h3 h4) hs (PyData.noDict_hsm hd) hg (by omega) (fun _ _ h => h) fin
      | lst zs =>
        obtain ⟨p1, p2⟩ := plain_py hf
        have hd : (py (D.lst zs)).hasDict = false := noDict_plain _ p1
        have hu := a.hu
        simp only [py] at rd hz hs fin p2 hd
        cases rd with
        | list h1 h2 h3 h4 =>
          exact PySem.repr_of_reads' (hsz := hz) (.list h1 h2 h3 h4) hs (PyData.noDict_hsm hd) hg (by omega) (fun _ _ h => h) fin
      | dct _ => simp [fit] at hf
      | ins _ _ => simp [fit] at hf
  · cases he
end
end MP

/-! MP8: statements, loops. -/
namespace MP
open PySem PySem.Spec PyProof.Rows L2

/-- how a statement goes on -/
inductive Fl where
  | nx | bk | ct | rt (d : D)
abbrev MS := M Fl
def mNx : MS := pure .nx
def mBk : MS := pure .bk
def mCt : MS := pure .ct
def mSeq (f k : MS) : MS := f >>= fun o => match o with
  | .nx => k
  | o => pure o
def mIf (t : M Bool) (a b : MS) : MS := t >>= fun k => if k = true then a else b
def mRt (f : M D) : MS := f >>= fun d => pure (.rt d)
def mDrop (f : M D) : MS := f >>= fun _ => pure .nx
def whileN (c : M Bool) (b : MS) : Nat → MS
  | 0 => fun _ => .no
  | n + 1 => c >>= fun k => if k = true then (b >>= fun o => match o with
      | .nx => whileN c b n
      | .ct => whileN c b n
      | .bk => pure .nx
      | .rt d => pure (.rt d)) else pure .nx
open Classical in
noncomputable def mWhile (c : M Bool) (b : MS) : MS := fun S => if h : ∃ n, whileN c b n S ≠ .no then whileN c b (Classical.choose h) S else .no
def forGo (tg : D → M Unit) (b : MS) : List D → MS
  | [] => pure .nx
  | d :: ds => tg d >>= fun _ => b >>= fun o => match o with
    | .nx => forGo tg b ds
    | .ct => forGo tg b ds
    | .bk => pure .nx
    | .rt e => pure (.rt e)
def mFor (src : M (List D)) (tg : D → M Unit) (b : MS) : MS := src >>= fun ds => forGo tg b ds

/-- what stays -/
abbrev Prv (pr : Addr → Prop) (H H' : Hp) : Prop := ∀ a, pr a → H' a = H a
theorem Prv.refl (pr : Addr → Prop) (H : Hp) : Prv pr H H := fun _ _ => rfl
theorem Prv.trans {pr : Addr → Prop} {H H1 H2 : Hp} (e : Prv pr H H1) (f : Prv pr H1 H2) : Prv pr H H2 := fun a h => (f a h).trans (e a h)
theorem SRep.prv {g : G} {pr : Addr → Prop} {S : Sx} {Hf H H' : Hp} {σ : L2.St} (R : SRep g pr S Hf σ H) (e : Sub H H') : Prv pr H H' := fun a h => by
  obtain ⟨_, o, ho⟩ := R.priv a h
  rw [ho, e _ _ ho]

section
variable (g : G) (W : WX) (pr : Addr → Prop)
/-- what is wanted behind a statement that ends as o -/
def AfS (o : Ou Fl) (H Hf : Hp) (D : Ends) : Prop := match o with
  | .ok .nx S' => ∀ σ' H' Hf', Prv pr H H' → Sub Hf Hf' → SRep g pr S' Hf' σ' H' → D.nx σ' H'
  | .ok .bk S' => ∀ σ' H' Hf', Prv pr H H' → Sub Hf Hf' → SRep g pr S' Hf' σ' H' → D.bk σ' H'
  | .ok .ct S' => ∀ σ' H' Hf', Prv pr H H' → Sub Hf Hf' → SRep g pr S' Hf' σ' H' → D.ct σ' H'
  | .ok (.rt d) S' => ∀ v σ' H' Hf', Prv pr H H' → Sub Hf Hf' → SRep g pr S' Hf' σ' H' → Rp g Hf' v d → D.rt v H'
  | .ex c fs S' => ∀ cls dd σ' H' Hf', Prv pr H H' → Sub Hf Hf' → SRep g pr S' Hf' σ' H' → ExR g H' cls dd c fs → W cls dd σ' H'
  | .no => False
/-- the reading of statements -/
def Ts (f : MS) : TS := fun D σ H => ∃ pr S Hf, SRep g pr S Hf σ H ∧ AfS g W pr (f S) H Hf D
end
section
variable {g : G} {W : WX} {X : Cx} {pr : Addr → Prop} {S : Sx} {σ : L2.St} {H H1 Hf Hf1 : Hp} {Ψ : Psi} {En : Ends}
theorem AfS.mono {o : Ou Fl} (h : AfS g W pr o H Hf En) (e : Prv pr H H1) (f : Sub Hf Hf1) : AfS g W pr o H1 Hf1 En := by
  cases o with
  | ok k S' => cases k with
    | nx => exact fun σ' H' Hf' a b R => h σ' H' Hf' (e.trans a) (f.trans b) R
    | bk => exact fun σ' H' Hf' a b R => h σ' H' Hf' (e.trans a) (f.trans b) R
    | ct => exact fun σ' H' Hf' a b R => h σ' H' Hf' (e.trans a) (f.trans b) R
    | rt d => exact fun v σ' H' Hf' a b R x => h v σ' H' Hf' (e.trans a) (f.trans b) R x
  | ex c fs S' => exact fun cls dd σ' H' Hf' a b R x => h cls dd σ' H' Hf' (e.trans a) (f.trans b) R x
  | no => exact h
/-- an expression that ends in a exception, seen by a statement -/
theorem AfS.ofX {c : Nat} {fs : List (Str × D)} {S' : Sx} (R : SRep g pr S Hf σ H) (h : AfS g W pr (.ex c fs S') H Hf En) : AfX g W pr c fs S' σ H Hf :=
  fun cls dd H' Hf' a b R' x => h cls dd σ H' Hf' (R.prv a) b R' x
/-- an expression, then a statement -/
theorem Ts.expr {f : M D} {k : D → MS} (R : SRep g pr S Hf σ H) (h : AfS g W pr ((f >>= k) S) H Hf En) :
    Te g W Ψ f σ H fun v H1 => ∃ S1 Hf1 d, Sub H H1 ∧ SRep g pr S1 Hf1 σ H1 ∧ Ψ H S1 σ H1 Hf1 v d ∧ AfS g W pr (k d S1) H1 Hf1 En := by
  refine ⟨pr, S, Hf, R, ?_⟩
  rw [M.bind_def] at h
  revert h
  cases f S with
  | ok d S' => exact fun h v H' Hf' a b R' x => ⟨S', Hf', d, a, R', x, AfS.mono (H := H) (Hf := Hf) h (R.prv a) b⟩
  | ex c fs S' => exact fun h => AfS.ofX R h
  | no => exact id
theorem Ts.test {f : M Bool} {k : Bool → MS} (R : SRep g pr S Hf σ H) (h : AfS g W pr ((f >>= k) S) H Hf En) :
    Tt g W f σ H fun b H1 => ∃ S1 Hf1, SRep g pr S1 Hf1 σ H1 ∧ AfS g W pr (k b S1) H1 Hf1 En ∧ Prv pr H H1 ∧ Sub Hf Hf1 := by
  refine ⟨pr, S, Hf, R, ?_⟩
  rw [M.bind_def] at h
  revert h
  cases f S with
  | ok d S' => exact fun h H' Hf' a b R' => ⟨S', Hf', R', AfS.mono (H := H) (Hf := Hf) h (R.prv a) b, R.prv a, b⟩
  | ex c fs S' => exact fun h => AfS.ofX R h
  | no => exact id
/-- by another end -/
theorem AfS.ends {f : Ou Fl} {En' : Ends} (h : AfS g W pr f H Hf En) (h1 : ∀ σ H, En.nx σ H → En'.nx σ H) (h2 : ∀ v H, En.rt v H → En'.rt v H) (h3 : ∀ σ H, En.bk σ H → En'.bk σ H) (h4 : ∀ σ H, En.ct σ H → En'.ct σ H) : AfS g W pr f H Hf En' := by
  cases f with
  | ok k S' => cases k with
    | nx => exact fun σ' H' Hf' a b R => h1 _ _ (h σ' H' Hf' a b R)
    | bk => exact fun σ' H' Hf' a b R => h3 _ _ (h σ' H' Hf' a b R)
    | ct => exact fun σ' H' Hf' a b R => h4 _ _ (h σ' H' Hf' a b R)
    | rt d => exact fun v σ' H' Hf' a b R x => h2 _ _ (h v σ' H' Hf' a b R x)
  | ex c fs S' => exact h
  | no => exact h
/-- a statement, then the next: what the first is to reach -/
def Nxt (g : G) (W : WX) (pr : Addr → Prop) (Hf0 : Hp) (k : Fl → MS) (En : Ends) : Ends where
  nx := fun σ' H' => ∃ S' Hf', SRep g pr S' Hf' σ' H' ∧ Sub Hf0 Hf' ∧ AfS g W pr (k .nx S') H' Hf' En
  bk := fun σ' H' => ∃ S' Hf', SRep g pr S' Hf' σ' H' ∧ Sub Hf0 Hf' ∧ AfS g W pr (k .bk S') H' Hf' En
  ct := fun σ' H' => ∃ S' Hf', SRep g pr S' Hf' σ' H' ∧ Sub Hf0 Hf' ∧ AfS g W pr (k .ct S') H' Hf' En
  rt := fun v H' => ∃ d σ' S' Hf', SRep g pr S' Hf' σ' H' ∧ Rp g Hf' v d ∧ Sub Hf0 Hf' ∧ AfS g W pr (k (.rt d) S') H' Hf' En
theorem AfS.bind {f : MS} {k : Fl → MS} {Hf0 : Hp} (h : AfS g W pr ((f >>= k) S) H Hf En) (b0 : Sub Hf0 Hf) : AfS g W pr (f S) H Hf (Nxt g W pr Hf0 k En) := by
  rw [M.bind_def] at h
  revert h
  cases f S with
  | ok o S' => cases o with
    | nx => exact fun h σ' H' Hf' a b R => ⟨S', Hf', R, b0.trans b, AfS.mono (H := H) (Hf := Hf) h a b⟩
    | bk => exact fun h σ' H' Hf' a b R => ⟨S', Hf', R, b0.trans b, AfS.mono (H := H) (Hf := Hf) h a b⟩
    | ct => exact fun h σ' H' Hf' a b R => ⟨S', Hf', R, b0.trans b, AfS.mono (H := H) (Hf := Hf) h a b⟩
    | rt d => exact fun h v σ' H' Hf' a b R x => ⟨d, σ', S', Hf', R, x, b0.trans b, AfS.mono (H := H) (Hf := Hf) h a b⟩
  | ex c fs S' => exact id
  | no => exact id
theorem AfS.nx (R : SRep g pr S Hf σ H) (h : AfS g W pr (.ok .nx S) H Hf En) : En.nx σ H := h σ H Hf (Prv.refl _ _) (Sub.refl _) R
theorem AfS.bk (R : SRep g pr S Hf σ H) (h : AfS g W pr (.ok .bk S) H Hf En) : En.bk σ H := h σ H Hf (Prv.refl _ _) (Sub.refl _) R
theorem AfS.ct (R : SRep g pr S Hf σ H) (h : AfS g W pr (.ok .ct S) H Hf En) : En.ct σ H := h σ H Hf (Prv.refl _ _) (Sub.refl _) R
theorem AfS.rt {d : D} {v : V} (R : SRep g pr S Hf σ H) (x : Rp g Hf v d) (h : AfS g W pr (.ok (.rt d) S) H Hf En) : En.rt v H := h v σ H Hf (Prv.refl _ _) (Sub.refl _) R x

variable {pos : Pos}
theorem ss_nil : PSs X [] (Ts g W mNx) := pss_nil.imp fun D σ H ⟨pr, S, Hf, R, h⟩ => AfS.nx R h
theorem ss_one {s : Stmt} {f : MS} (h : PS X s (Ts g W f)) : PSs X [s] (Ts g W f) := pss_one h
theorem ss_cons {s : Stmt} {r : List Stmt} {f k : MS} (h : PS X s (Ts g W f)) (h2 : PSs X r (Ts g W k)) : PSs X (s :: r) (Ts g W (mSeq f k)) := (pss_cons h h2).imp fun D σ H ⟨pr, S, Hf, R, h⟩ => by
  refine ⟨pr, S, Hf, R, (AfS.bind h (Sub.refl _)).ends (fun σ' H' ⟨S', Hf', R', _, q⟩ => ?_) (fun v H' ⟨d, σ', S', Hf', R', x, _, q⟩ => ?_) (fun σ' H' ⟨S', Hf', R', _, q⟩ => ?_) (fun σ' H' ⟨S', Hf', R', _, q⟩ => ?_)⟩
  · exact ⟨pr, S', Hf', R', q⟩
  · exact AfS.rt (W := W) R' x q
  · exact AfS.bk (W := W) R' q
  · exact AfS.ct (W := W) R' q
theorem ss_pass : PS X (.Pass pos) (Ts g W mNx) := ps_pass.imp fun D σ H ⟨pr, S, Hf, R, h⟩ => AfS.nx R h
theorem ss_doc {x j p p'} : PS X (.Expr (.Constant (.str x) j p) p') (Ts g W mNx) := ps_doc.imp fun D σ H ⟨pr, S, Hf, R, h⟩ => AfS.nx R h
theorem ss_break : PS X (.Break pos) (Ts g W mBk) := ps_break.imp fun D σ H ⟨pr, S, Hf, R, h⟩ => AfS.bk R h
theorem ss_continue : PS X (.Continue pos) (Ts g W mCt) := ps_continue.imp fun D σ H ⟨pr, S, Hf, R, h⟩ => AfS.ct R h
theorem ss_ret {e : Expr} {f : M D} (he : PE X e (Te g W (Ps g) f)) : PS X (.Return (some e) pos) (Ts g W (mRt f)) := (ps_ret he).imp fun D σ H ⟨pr, S, Hf, R, h⟩ =>
  (Ts.expr (Ψ := Ps g) R h).weak fun v H1 ⟨S1, Hf1, d, _, R1, x, h1⟩ => AfS.rt R1 x h1
theorem ss_retN : PS X (.Return none pos) (Ts g W (mRt (eC .non))) := ps_retN.imp fun D σ H ⟨pr, S, Hf, R, h⟩ => AfS.rt R .non h
theorem ss_if {c : Expr} {a b : List Stmt} {t : M Bool} {f k : MS} (hc : PT X c (Tt g W t)) (ha : PSs X a (Ts g W f)) (hb : PSs X b (Ts g W k)) : PS X (.If c a b pos) (Ts g W (mIf t f k)) := (ps_if hc ha hb).imp fun D σ H ⟨pr, S, Hf, R, h⟩ =>
  (Ts.test R h).weak fun k H1 ⟨S1, Hf1, R1, h1, _, _⟩ => by
    cases k with
    | true => exact iteT ⟨pr, S1, Hf1, R1, h1⟩
    | false => exact iteF ⟨pr, S1, Hf1, R1, h1⟩
theorem ss_expr {e : Expr} {f : M D} (he : PE X e (Te g W (Po g) f)) (hs : swapsWith e none pos.line X.env = pure false := by rfl) : PS X (.Expr e pos) (Ts g W (mDrop f)) := (ps_expr he hs).imp fun D σ H ⟨pr, S, Hf, R, h⟩ =>
  (Ts.expr (Ψ := Po g) R h).weak fun v H1 ⟨S1, Hf1, d, _, R1, _, h1⟩ => AfS.nx R1 h1

/-! ### while -/
def afterW (w : MS) : Fl → MS
  | .nx => w
  | .ct => w
  | .bk => pure .nx
  | .rt d => pure (.rt d)
theorem whileN_succ (c : M Bool) (b : MS) (n : Nat) : whileN c b (n + 1) = (c >>= fun k => if k = true then b >>= afterW (whileN c b n) else pure .nx) := by
  rw [whileN]
  have e : (fun o : Fl => match o with
      | .nx => whileN c b n
      | .ct => whileN c b n
      | .bk => pure .nx
      | .rt d => pure (.rt d)) = afterW (whileN c b n) := by
    funext o; cases o <;> rfl
  rw [← e]
theorem ss_while {c : Expr} {body : List Stmt} {t : M Bool} {f : MS} (hp : PassesOwn (model X.prog X.w) X.A X.env X.xe) (hc : PT X c (Tt g W t)) (hb : PSs X body (Ts g W f)) : PS X (.While c body [] pos) (Ts g W (mWhile t f)) :=
  (ps_while hp hc hb).imp fun D σ H ⟨pr, S, Hf, R, h⟩ => by
    unfold mWhile at h
    split at h
    · rename_i hex
      generalize Classical.choose hex = n at h
      refine ⟨fun m σ' H' => ∃ S' Hf', SRep g pr S' Hf' σ' H' ∧ AfS g W pr (whileN t f m S') H' Hf' D, ⟨n, S, Hf, R, h⟩, ?_⟩
      rintro m σ1 H1 ⟨S1, Hf1, R1, h1⟩
      cases m with
      | zero => exact h1.elim
      | succ m =>
        rw [whileN_succ] at h1
        refine (Ts.test R1 h1).weak fun k H2 ⟨S2, Hf2, R2, h2, _, _⟩ => ?_
        cases k with
        | false => exact iteF (AfS.nx (W := W) R2 h2)
        | true =>
          refine iteT ⟨fun σ' H' => ∃ S' Hf', SRep g pr S' Hf' σ' H' ∧ AfS g W pr (whileN t f m S') H' Hf' D, fun σ' H' q => ⟨m, Nat.lt_succ_self m, q⟩, pr, S2, Hf2, R2, ?_⟩
          refine (AfS.bind (W := W) h2 (Sub.refl _)).ends (fun σ' H' ⟨S', Hf', R', _, q⟩ => ⟨S', Hf', R', q⟩) (fun v H' ⟨d, σ', S', Hf', R', x, _, q⟩ => ?_) (fun σ' H' ⟨S', Hf', R', _, q⟩ => ?_) (fun σ' H' ⟨S', Hf', R', _, q⟩ => ⟨S', Hf', R', q⟩)
          · exact AfS.rt (W := W) R' x q
          · exact AfS.nx (W := W) R' q
    · exact h.elim

/-! ### for -/
/-- J walks the items ds, which stand still in Hf0 -/
structure Wk (g : G) (Hf0 : Hp) (J : It) (ds : List D) : Prop where
  go : ∀ i H, Sub Hf0 H → i < ds.length → J.go i H
  stop : ∀ i H, Sub Hf0 H → i = ds.length → J.stop i H
  yld : ∀ (i : Nat) (d : D) (x : V) (H H' : Hp), ds[i]? = some d → J.yld i H x H' → ∀ (Hf : Hp) (pr : Addr → Prop) (S : Sx) (σ : L2.St), Sub Hf0 Hf → SRep g pr S Hf σ H →
    ∃ Hf', Sub H H' ∧ Sub Hf Hf' ∧ SRep g pr S Hf' σ H' ∧ Rp g Hf' x d
/-- the reading of what a loop walks -/
def Ti (g : G) (W : WX) (f : M (List D)) : TI := fun σ H R => ∃ pr S Hf, SRep g pr S Hf σ H ∧ match f S with
  | .ok ds S' => ∀ J H' Hf', Sub H H' → Sub Hf Hf' → SRep g pr S' Hf' σ H' → Wk g Hf' J ds → R J H'
  | .ex c fs S' => AfX g W pr c fs S' σ H Hf
  | .no => False
/-- a target: a name, or targets in a row -/
inductive Pt where
  | nm (i : Nat) | tp (ps : List Pt)
mutual
def Pt.go : Pt → D → Sx → Option Sx
  | .nm i, d, S => some (S.set i (.va d))
  | .tp ps, .tup ds, S => Pt.gos ps ds S
  | .tp ps, .lst ds, S => Pt.gos ps ds S
  | .tp _, _, _ => none
def Pt.gos : List Pt → List D → Sx → Option Sx
  | [], [], S => some S
  | p :: ps, d :: ds, S => match Pt.go p d S with
    | some S' => Pt.gos ps ds S'
    | none => none
  | _, _, _ => none
end
mutual
def Pt.at : Pt → List Nat
  | .nm i => [i]
  | .tp ps => Pt.ats ps
def Pt.ats : List Pt → List Nat
  | [] => []
  | p :: ps => Pt.at p ++ Pt.ats ps
end
def pTg (p : Pt) (d : D) : M Unit := fun S => match p.go d S with
  | some S' => .ok () S'
  | none => .no
/-- the reading of a target -/
def Gt (g : G) (p : Pt) : TG := fun x σ H Q => ∃ pr S Hf d S', SRep g pr S Hf σ H ∧ Rp g Hf x d ∧ p.go d S = some S' ∧
  ∀ σ', SRep g pr S' Hf σ' H → (∀ vs : List Nat, (∀ i ∈ p.at, i ∈ vs) → wipe σ' vs = wipe σ vs) → Q σ' H
def Gts (g : G) (ps : List Pt) : TGs := fun xs σ H Q => ∃ pr S Hf ds S', SRep g pr S Hf σ H ∧ RpA g Hf xs ds ∧ Pt.gos ps ds S = some S' ∧
  ∀ σ', SRep g pr S' Hf σ' H → (∀ vs : List Nat, (∀ i ∈ Pt.ats ps, i ∈ vs) → wipe σ' vs = wipe σ vs) → Q σ' H
theorem _root_.L2.PG.imp {X : Cx} {e : Expr} {t t' : TG} (h : PG X e t) (hi : ∀ x σ H Q, t' x σ H Q → t x σ H Q) : PG X e t' := ⟨fun pins s σ H x u Q I r q => h.run pins s σ H x u Q I r (hi x σ H Q q)⟩
theorem _root_.L2.PGs.imp {X : Cx} {e : List Expr} {t t' : TGs} (h : PGs X e t) (hi : ∀ x σ H Q, t' x σ H Q → t x σ H Q) : PGs X e t' := ⟨fun pins s σ H x u Q I r q => h.run pins s σ H x u Q I r (hi x σ H Q q)⟩
theorem wipe_get {σ : L2.St} {k : Nat} : ∀ {vs : List Nat}, (wipe σ vs)[k]? = if k ∈ vs then (if k < σ.length then some none else none) else σ[k]?
  | [] => by simp [wipe]
  | j :: vs => by
    unfold wipe
    by_cases q : k = j
    · subst q
      rw [List.getElem?_set, if_pos rfl, if_pos List.mem_cons_self, wipe_length]
    · rw [List.getElem?_set_ne (Ne.symm q), wipe_get]
      by_cases z : k ∈ vs
      · rw [if_pos z, if_pos (List.mem_cons_of_mem _ z)]
      · rw [if_neg z, if_neg (by simp [q, z])]
theorem wipe_set {σ : L2.St} {i : Nat} {v : Option V} {vs : List Nat} (h : i ∈ vs) : wipe (σ.set i v) vs = wipe σ vs := by
  apply List.ext_getElem?
  intro k
  rw [wipe_get, wipe_get, List.length_set]
  by_cases z : k ∈ vs
  · rw [if_pos z, if_pos z]
  · rw [if_neg z, if_neg z, List.getElem?_set_ne (fun e => z (by rw [← e]; exact h))]
theorem sg_name {i : Nat} {x : Str} (hN : X.N.Nodup) (hi : X.N[i]? = some x) (hx : Loc X.env.scope x) (hf : X.fn x = true ∨ X.env.scope.names.lookup x = some .local) : PG X (.Name x pos) (Gt g (.nm i)) :=
  (pg_name hN hi hx hf).imp fun x σ H Q ⟨pr, S, Hf, d, S', R, r, hs, q⟩ => by
    simp only [Pt.go, Option.some.injEq] at hs
    subst hs
    exact q _ (R.setV r) fun vs hv => wipe_set (hv i (by simp [Pt.at]))
theorem sgs_nil : PGs X [] (Gts g []) := pgs_nil.imp fun x σ H Q ⟨pr, S, Hf, d, S', R, r, hs, q⟩ => by
  cases r with
  | nil =>
    simp only [Pt.gos, Option.some.injEq] at hs
    subst hs
    exact ⟨rfl, q _ R fun _ _ => rfl⟩
  | cons _ _ => simp [Pt.gos] at hs
theorem sgs_cons {e : Expr} {es : List Expr} {p : Pt} {ps : List Pt} (h1 : PG X e (Gt g p)) (h2 : PGs X es (Gts g ps))
    (hs : (assignEach (e :: es) X.env).map (·.2) = assign e X.env :: (assignEach es X.env).map (·.2) := by rfl) : PGs X (e :: es) (Gts g (p :: ps)) :=
  (pgs_cons h1 h2 hs).imp fun x σ H Q ⟨pr, S, Hf, d, S', R, r, hs, q⟩ => by
    cases r with
    | nil => simp [Pt.gos] at hs
    | cons r1 r2 =>
      rename_i v d vs ds _
      simp only [Pt.gos] at hs
      cases hd : p.go d S with
      | none => rw [hd] at hs; cases hs
      | some S1 =>
        rw [hd] at hs
        refine ⟨v, vs, rfl, pr, S, Hf, d, S1, R, r1, hd, fun σ1 R1 w1 => ⟨pr, S1, Hf, ds, S', R1, r2, hs, fun σ2 R2 w2 => q σ2 R2 fun vs hv => ?_⟩⟩
        rw [w2 vs fun i hi => hv i (by simp [Pt.ats, hi]), w1 vs fun i hi => hv i (by simp [Pt.ats, hi])]
theorem Pt.gos_length : ∀ {ps : List Pt} {ds : List D} {S S' : Sx}, Pt.gos ps ds S = some S' → ds.length = ps.length
  | [], [], _, _, _ => rfl
  | [], _ :: _, _, _, h => by simp [Pt.gos] at h
  | _ :: _, [], _, _, h => by simp [Pt.gos] at h
  | p :: ps, d :: ds, S, S', h => by
    simp only [Pt.gos] at h
    cases hd : p.go d S with
    | none => rw [hd] at h; cases h
    | some S1 => rw [hd] at h; rw [List.length_cons, List.length_cons, Pt.gos_length h]
theorem PG.or {e : Expr} {t t' : TG} (h : PG X e t) (h' : PG X e t') : PG X e (fun x σ H Q => t x σ H Q ∨ t' x σ H Q) := ⟨fun pins s σ H x u Q I r q => by
  rcases q with q | q
  · exact h.run pins s σ H x u Q I r q
  · exact h'.run pins s σ H x u Q I r q⟩
theorem sg_tup (at_ : X.K = g.K) {es : List Expr} {k : Nat} {ps : List Pt} (hc : X.calm = true) (h : PGs X es (Gts g ps))
    (hn : (assignEach es X.env).length = ps.length := by rfl) (hst : (assignEach es X.env).findIdx? (·.1) = none := by rfl) : PG X (.Tuple es k pos) (Gt g (.tp ps)) :=
  (PG.or (pg_tup hc h hn hst) (pg_unl hc h hn hst)).imp fun x σ H Q ⟨pr, S, Hf, d, S', R, r, hs, q⟩ => by
    rw [at_]
    cases r <;> simp only [Pt.go, reduceCtorEq] at hs
    · rename_i a vs ds sq ra _
      exact .inl ⟨a, vs, rfl, Sub.sqT R.sub sq, by rw [ra.length, Pt.gos_length hs], pr, S, Hf, ds, S', R, ra, hs, fun σ1 R1 w1 => q σ1 R1 fun vs hv => w1 vs fun i hi => hv i (by simpa [Pt.at] using hi)⟩
    · rename_i a vs ds sq ra _
      exact .inr ⟨a, vs, rfl, Sub.sqL R.sub sq, by rw [ra.length, Pt.gos_length hs], pr, S, Hf, ds, S', R, ra, hs, fun σ1 R1 w1 => q σ1 R1 fun vs hv => w1 vs fun i hi => hv i (by simpa [Pt.at] using hi)⟩
theorem forGo_cons (tg : D → M Unit) (b : MS) (d : D) (ds : List D) : forGo tg b (d :: ds) = (tg d >>= fun _ => b >>= afterW (forGo tg b ds)) := by
  rw [forGo]
  have e : (fun o : Fl => match o with
    | .nx => forGo tg b ds
    | .ct => forGo tg b ds
    | .bk => pure .nx
    | .rt e => pure (.rt e)) = afterW (forGo tg b ds) := by
    funext o; cases o <;> rfl
  rw [← e]
theorem ss_for {tgt iter : Expr} {body : List Stmt} {src : M (List D)} {p : Pt} {f : MS} (hp : PassesOwn (model X.prog X.w) X.A X.env X.xe) (hc : X.calm = true) (hi : PI X tgt iter (Ti g W src)) (ht : PG X tgt (Gt g p)) (hb : PSs X body (Ts g W f))
    (hs : ∀ x, foldedSetIterable iter X.env x = pure x := by intro _; rfl) : PS X (.For tgt iter body [] pos) (Ts g W (mFor src (pTg p) f)) :=
  (ps_for hp hc hi ht hb hs).imp fun D σ H ⟨pr, S, Hf, R, h⟩ => by
    refine ⟨pr, S, Hf, R, ?_⟩
    unfold mFor at h
    rw [M.bind_def] at h
    revert h
    cases src S with
    | no => exact id
    | ex c fs S' => exact fun h => AfS.ofX R h
    | ok ds S' =>
      intro h J H1 Hf1 a b R1 wk
      have h := AfS.mono (H1 := H1) (Hf1 := Hf1) (g := g) (W := W) (pr := pr) h (R.prv a) b
      refine ⟨fun i m σ' H' => m = ds.length - i ∧ i ≤ ds.length ∧ ∃ S2 Hf2, SRep g pr S2 Hf2 σ' H' ∧ Sub Hf1 Hf2 ∧ AfS g W pr (forGo (pTg p) f (ds.drop i) S2) H' Hf2 D,
        ⟨ds.length, by simp, Nat.zero_le _, S', Hf1, R1, Sub.refl _, h⟩, ?_⟩
      rintro i m σ2 H2 ⟨rfl, hi, S2, Hf2, R2, b2, h2⟩
      by_cases hlt : i < ds.length
      · have hd : ds.drop i = ds[i] :: ds.drop (i + 1) := List.drop_eq_getElem_cons hlt
        rw [hd, forGo_cons] at h2
        refine .inr ⟨wk.go i H2 (b2.trans R2.sub) hlt, fun σ' H' => ∃ S3 Hf3, SRep g pr S3 Hf3 σ' H' ∧ Sub Hf1 Hf3 ∧ AfS g W pr (forGo (pTg p) f (ds.drop (i + 1)) S3) H' Hf3 D,
          fun σ' H' q => ⟨ds.length - (i + 1), by omega, rfl, hlt, q⟩, fun x H3 y => ?_⟩
        obtain ⟨Hf3, a3, b3, R3, r3⟩ := wk.yld i ds[i] x H2 H3 (by simp [hlt]) y Hf2 pr S2 σ2 b2 R2
        have h2 := AfS.mono (H1 := H3) (Hf1 := Hf3) (g := g) (W := W) (pr := pr) h2 (R2.prv a3) b3
        rw [M.bind_def] at h2
        cases hg : p.go ds[i] S2 with
        | none =>
          have e : pTg p ds[i] S2 = .no := by unfold pTg; rw [hg]
          rw [e] at h2; exact h2.elim
        | some S4 =>
          have e : pTg p ds[i] S2 = .ok () S4 := by unfold pTg; rw [hg]
          rw [e] at h2
          dsimp only at h2
          refine ⟨pr, S2, Hf3, ds[i], S4, R3, r3, hg, fun σ4 R4 _ => ⟨pr, S4, Hf3, R4, ?_⟩⟩
          refine (AfS.bind (W := W) h2 (b2.trans b3)).ends (fun σ' H' q => q) (fun v H' ⟨d, σ', S', Hf', R', x, _, q⟩ => ?_) (fun σ' H' ⟨S', Hf', R', _, q⟩ => ?_) (fun σ' H' q => q)
          · exact AfS.rt (W := W) R' x q
          · exact AfS.nx (W := W) R' q
      · have e : i = ds.length := by omega
        subst e
        rw [List.drop_length] at h2
        exact .inl ⟨wk.stop _ H2 (b2.trans R2.sub) rfl, AfS.nx (W := W) R2 h2⟩
end
end MP

/-! MP9: dicts. -/
namespace MP
open PySem PySem.Spec PyProof.Rows L2

def keyGood (k : D) : Bool := match keyOf k with
  | some nk => decide (nk.depth ≤ 8)
  | none => false
/-- the dict may be asked for the key -/
def askOk (kvs : List (D × D)) (k : D) : Bool := keyGood k && ((isTup k && kvs.all fun p => isTup p.1) || (isIS k && kvs.all fun p => isIS p.1))
def dput (kvs : List (D × D)) (k d : D) : List (D × D) :=
  if (dget kvs k).isSome then kvs.map fun p => if keyOf p.1 = keyOf k then (p.1, d) else p else kvs ++ [(k, d)]
def keyS : D → Option Key
  | .int i => some (.inl i)
  | .str x => some (.inr ⟨x.toArray⟩)
  | _ => none
theorem keyGood_some {k : D} (h : keyGood k = true) : ∃ nk, keyOf k = some nk ∧ nk.depth ≤ 8 := by
  unfold keyGood at h
  cases q : keyOf k with
  | none => rw [q] at h; cases h
  | some nk => rw [q] at h; exact ⟨nk, rfl, of_decide_eq_true h⟩

section
variable {g : G} {X : Cx} {pins : List (Addr × Obj)} {σ : L2.St} {H : Hp} {s : Shared}
mutual
theorem nested_of (hK : X.K = g.K) (I : Inv X pins σ H s) : ∀ (d : D) (k : NestedKey) (v : V) (u : Value), keyOf d = some k → Rp g H v d → RelV v u → NestedIs s.heap k u
  | .non, k, v, u, hk, r, rv => by
    simp only [keyOf, Option.some.injEq] at hk; subst hk
    cases r; cases rv; exact .none
  | .bl b, k, v, u, hk, r, rv => by
    simp only [keyOf, Option.some.injEq] at hk; subst hk
    cases r; cases rv; exact .bool rfl
  | .int i, k, v, u, hk, r, rv => by
    simp only [keyOf, Option.some.injEq] at hk; subst hk
    cases r; obtain ⟨t, rfl⟩ := rv; exact .int _ _
  | .str x, k, v, u, hk, r, rv => by
    simp only [keyOf, Option.some.injEq] at hk; subst hk
    cases r; obtain ⟨t, rfl⟩ := rv; exact .text _ _
  | .tup xs, k, v, u, hk, r, rv => by
    simp only [keyOf] at hk
    obtain ⟨ks, hks, rfl⟩ := Option.map_eq_some_iff.mp hk
    cases r with
    | tup sq ra =>
      cases rv
      rw [← hK] at sq
      obtain ⟨its, rv, ⟨o, h1, h2, n, h3⟩, hz⟩ := I.tuple sq
      refine .tup h1 h2 h3 ?_
      simpa using nested_all hK I xs ks _ _ hks ra rv
  | .lst _, k, v, u, hk, r, rv => by simp [keyOf] at hk
  | .dct _, k, v, u, hk, r, rv => by simp [keyOf] at hk
  | .ins _ _, k, v, u, hk, r, rv => by simp [keyOf] at hk
theorem nested_all (hK : X.K = g.K) (I : Inv X pins σ H s) : ∀ (ds : List D) (ks : List NestedKey) (vs : List V) (us : List Value), keysOf ds = some ks → RpA g H vs ds → Vals vs us → NestedAll s.heap ks us
  | [], ks, vs, us, hk, r, rv => by
    simp only [keysOf, Option.some.injEq] at hk; subst hk
    cases r; cases rv; exact .nil
  | d :: ds, ks, vs, us, hk, r, rv => by
    simp only [keysOf] at hk
    cases q : keyOf d with
    | none => rw [q] at hk; cases hk
    | some k =>
      cases q' : keysOf ds with
      | none => rw [q, q'] at hk; cases hk
      | some ks' =>
        rw [q, q'] at hk
        simp only [Option.some.injEq] at hk
        subst hk
        cases r with
        | cons r1 r2 =>
          cases rv with
          | cons v1 v2 => exact .cons (nested_of hK I d k _ _ q r1 v1) (nested_all hK I ds ks' _ _ q' r2 v2)
end
end
/-- entries of tuple keys -/
inductive XE (g : G) (H : Hp) : List (NestedKey × Addr × Value) → List (D × D) → Prop
  | nil : XE g H [] []
  | cons {dk d : D} {k : NestedKey} {a : Addr} {v : V} {u : Value} {xs : List (NestedKey × Addr × Value)} {kvs : List (D × D)} : keyOf dk = some k → k.depth ≤ 8 → isTup dk = true → Rp g H (.ref a) dk → RelV v u → Rp g H v d → XE g H xs kvs → XE g H ((k, a, u) :: xs) ((dk, d) :: kvs)
/-- .. of whole numbers and texts -/
inductive XL (g : G) (H : Hp) : List (Key × Value) → List (D × D) → Prop
  | nil : XL g H [] []
  | cons {dk d : D} {k : Key} {v : V} {u : Value} {xs : List (Key × Value)} {kvs : List (D × D)} : keyS dk = some k → RelV v u → Rp g H v d → XL g H xs kvs → XL g H ((k, u) :: xs) ((dk, d) :: kvs)
theorem isTup_ref {g : G} {H : Hp} {v : V} {d : D} (h : isTup d = true) (r : Rp g H v d) : ∃ a, v = .ref a := by
  cases r <;> simp [isTup] at h
  exact ⟨_, rfl⟩
theorem xe_of {g : G} {P : Program} {H : Hp} : ∀ {es : List DictEntry} {kvs : List (D × D)}, RpE g H es kvs → (∀ p ∈ kvs, isTup p.1 = true) → ∃ xs, es = xs.map (entryOfKey (nestedKind P g.w)) ∧ XE g H xs kvs
  | _, _, .nil, _ => ⟨[], rfl, .nil⟩
  | _, _, .cons (e := e) (dk := dk) (k := k) h1 h2 h3 h4 h5 h6 h7 r, ht => by
    obtain ⟨xs, e1, x⟩ := xe_of r fun p hp => ht p (List.mem_cons_of_mem _ hp)
    have t := ht _ List.mem_cons_self
    obtain ⟨a, rfl⟩ := isTup_ref t h5
    have h4 : e.key = Value.ref a := h4
    refine ⟨(k, a, e.val) :: xs, ?_, .cons h1 h2 t h5 h6 h7 x⟩
    rw [List.map_cons, ← e1]
    obtain ⟨eh, ek, ev⟩ := e
    have h3 : eh = k.hash g.w := h3
    have h4 : ek = Value.ref a := h4
    subst h3 h4
    rfl
theorem XE.rp {g : G} {P : Program} {H : Hp} : ∀ {xs : List (NestedKey × Addr × Value)} {kvs : List (D × D)}, XE g H xs kvs → RpE g H (xs.map (entryOfKey (nestedKind P g.w))) kvs
  | _, _, .nil => .nil
  | _, _, .cons h1 h2 h3 h4 h5 h6 r => .cons (vk := .ref _) h1 h2 rfl rfl h4 h5 h6 (XE.rp r)
theorem XE.keys {g : G} {H : Hp} : ∀ {xs : List (NestedKey × Addr × Value)} {kvs : List (D × D)}, XE g H xs kvs → kvs.map (fun p => keyOf p.1) = xs.map fun x => some x.1
  | _, _, .nil => rfl
  | _, _, .cons h1 h2 h3 h4 h5 h6 r => by rw [List.map_cons, List.map_cons, XE.keys r, h1]
theorem XE.length {g : G} {H : Hp} : ∀ {xs : List (NestedKey × Addr × Value)} {kvs : List (D × D)}, XE g H xs kvs → xs.length = kvs.length
  | _, _, .nil => rfl
  | _, _, .cons h1 h2 h3 h4 h5 h6 r => by rw [List.length_cons, List.length_cons, XE.length r]
theorem XE.tups {g : G} {H : Hp} : ∀ {xs : List (NestedKey × Addr × Value)} {kvs : List (D × D)}, XE g H xs kvs → ∀ p ∈ kvs, isTup p.1 = true
  | _, _, .nil => fun p h => nomatch h
  | _, _, .cons h1 h2 h3 h4 h5 h6 r => fun p h => by
    rcases List.mem_cons.mp h with e | h
    · subst e; exact h3
    · exact XE.tups r p h
theorem XE.get {g : G} {H : Hp} {dk : D} {k : NestedKey} (hk : keyOf dk = some k) : ∀ {xs : List (NestedKey × Addr × Value)} {kvs : List (D × D)}, XE g H xs kvs →
    (dget kvs dk = none ∧ atKey xs k = none) ∨ ∃ d p v, dget kvs dk = some d ∧ atKey xs k = some p ∧ RelV v p.2 ∧ Rp g H v d
  | _, _, .nil => .inl ⟨rfl, rfl⟩
  | _, _, .cons (dk := dk') (d := d) (k := k') (a := a) (v := v) (u := u) (xs := xs) (kvs := kvs) h1 h2 h3 h4 h5 h6 r => by
    by_cases q : k' = k
    · subst q
      refine .inr ⟨d, (a, u), v, ?_, ?_, h5, h6⟩
      · have z : decide (keyOf dk' = keyOf dk) = true := decide_eq_true (by rw [h1, hk])
        simp [dget, List.find?_cons, z]
      · simp [atKey, List.find?_cons]
    · have e1 : dget ((dk', d) :: kvs) dk = dget kvs dk := by
        unfold dget
        rw [List.find?_cons_of_neg]
        intro z
        have z := of_decide_eq_true z
        rw [h1, hk] at z
        exact q (Option.some.inj z)
      have e2 : atKey ((k', a, u) :: xs) k = atKey xs k := by
        unfold atKey
        rw [List.find?_cons_of_neg]
        intro z
        exact q (of_decide_eq_true z)
      rw [e1, e2]
      exact XE.get hk r
theorem XE.app {g : G} {H : Hp} : ∀ {xs ys : List (NestedKey × Addr × Value)} {kvs lvs : List (D × D)}, XE g H xs kvs → XE g H ys lvs → XE g H (xs ++ ys) (kvs ++ lvs)
  | _, _, _, _, .nil, q => q
  | _, _, _, _, .cons h1 h2 h3 h4 h5 h6 r, q => .cons h1 h2 h3 h4 h5 h6 (XE.app r q)
theorem XE.put {g : G} {H : Hp} {dk d : D} {k : NestedKey} {v : V} {u : Value} (hk : keyOf dk = some k) (rv : RelV v u) (rd : Rp g H v d) : ∀ {xs : List (NestedKey × Addr × Value)} {kvs : List (D × D)}, XE g H xs kvs →
    XE g H (xs.map (putAt k u)) (kvs.map fun p => if keyOf p.1 = keyOf dk then (p.1, d) else p)
  | _, _, .nil => .nil
  | _, _, .cons (dk := dk') (d := d') (k := k') (a := a) (u := u') h1 h2 h3 h4 h5 h6 r => by
    rw [List.map_cons, List.map_cons]
    by_cases q : k' = k
    · subst q
      have e1 : putAt k' u (k', a, u') = (k', a, u) := if_pos rfl
      have e2 : (if keyOf (dk', d').1 = keyOf dk then ((dk', d').1, d) else (dk', d')) = (dk', d) := if_pos (by rw [hk]; exact h1)
      rw [e1, e2]
      exact .cons h1 h2 h3 h4 rv rd (XE.put hk rv rd r)
    · have e1 : putAt k u (k', a, u') = (k', a, u') := if_neg q
      have e2 : (if keyOf (dk', d').1 = keyOf dk then ((dk', d').1, d) else (dk', d')) = (dk', d') := if_neg (by rw [hk]; show ¬ keyOf dk' = some k; rw [h1]; exact fun z => q (Option.some.inj z))
      rw [e1, e2]
      exact .cons h1 h2 h3 h4 h5 h6 (XE.put hk rv rd r)
theorem XE.sto {g : G} {H : Hp} {dk d : D} {k : NestedKey} {a : Addr} {v : V} {u : Value} (hk : keyOf dk = some k) (hd : k.depth ≤ 8) (ht : isTup dk = true) (ra : Rp g H (.ref a) dk) (rv : RelV v u) (rd : Rp g H v d) {xs : List (NestedKey × Addr × Value)} {kvs : List (D × D)} (r : XE g H xs kvs) :
    XE g H (storedH xs k a u) (dput kvs dk d) := by
  unfold dput
  rcases r.get hk with ⟨e1, e2⟩ | ⟨d', p, v', e1, e2, _, _⟩
  · rw [storedH_new e2, e1]
    exact r.app (.cons hk hd ht ra rv rd .nil)
  · rw [storedH_old e2, e1]
    exact r.put hk rv rd
/-! the same with whole numbers and texts -/
theorem keyS_of {d : D} (h : isIS d = true) : ∃ k, keyS d = some k := by
  cases d <;> simp [isIS] at h <;> exact ⟨_, rfl⟩
theorem keyS_nested {d : D} {k : Key} (h : keyS d = some k) : keyOf d = some (match k with | .inl i => .num i | .inr x => .text x) := by
  cases d <;> simp only [keyS, Option.some.injEq, reduceCtorEq] at h <;> subst h <;> rfl
theorem keyS_inj {d e : D} {k l : Key} (h : keyS d = some k) (h' : keyS e = some l) : keyOf d = keyOf e ↔ k = l := by
  rw [keyS_nested h, keyS_nested h']
  cases k <;> cases l <;> simp
theorem keyS_rp {g : G} {H : Hp} {d : D} {k : Key} {v : V} {u : Value} (h : keyS d = some k) (r : Rp g H v d) (rv : RelV v u) : keyIs k u = true := by
  cases d <;> simp only [keyS, Option.some.injEq, reduceCtorEq] at h <;> subst h
  · cases r
    obtain ⟨t, rfl⟩ := rv
    exact keyIs_int _ t
  · cases r
    obtain ⟨t, rfl⟩ := rv
    exact keyIs_str _ t
theorem keyS_back {g : G} {H : Hp} {d : D} {k : Key} {u : Value} (h : keyS d = some k) (q : keyIs k u = true) : ∃ v, RelV v u ∧ Rp g H v d := by
  cases d <;> simp only [keyS, Option.some.injEq, reduceCtorEq] at h <;> subst h
  · rcases keyIs_shape q with ⟨i, t, e, rfl⟩ | ⟨x, t, e, rfl⟩
    · cases e
      exact ⟨.int _, ⟨t, rfl⟩, .int _⟩
    · cases e
  · rcases keyIs_shape q with ⟨i, t, e, rfl⟩ | ⟨x, t, e, rfl⟩
    · cases e
    · cases e
      exact ⟨.str _, ⟨t, rfl⟩, .str _⟩
theorem keyS_hash {d : D} {k : Key} {nk : NestedKey} {w : World} (h : keyS d = some k) (h' : keyOf d = some nk) : nk.hash w = keyH w k := by
  rw [keyS_nested h] at h'
  cases k <;> (simp only [Option.some.injEq] at h'; subst h'; rfl)
theorem xl_of {g : G} {P : Program} {H : Hp} : ∀ {es : List DictEntry} {kvs : List (D × D)}, RpE g H es kvs → (∀ p ∈ kvs, isIS p.1 = true) →
    ∃ xs, Pairs (mixKind P g.w) es xs ∧ XL g H xs kvs ∧ ∀ e ∈ es, ∃ k, (mixKind P g.w).is k e.key = true ∧ e.hash = (mixKind P g.w).hash k
  | _, _, .nil, _ => ⟨[], .nil, .nil, fun e h => nomatch h⟩
  | _, _, .cons (e := e) (dk := dk) (k := nk) h1 h2 h3 h4 h5 h6 h7 r, ht => by
    obtain ⟨xs, e1, x, hs⟩ := xl_of (P := P) r fun p hp => ht p (List.mem_cons_of_mem _ hp)
    obtain ⟨k, hk⟩ := keyS_of (ht _ List.mem_cons_self)
    have ki : keyIs k e.key = true := keyS_rp hk h5 h4
    refine ⟨(k, e.val) :: xs, .cons ki rfl e1, .cons hk h6 h7 x, fun e' he => ?_⟩
    rcases List.mem_cons.mp he with z | he
    · subst z
      exact ⟨k, ki, by rw [h3]; exact keyS_hash hk h1⟩
    · exact hs e' he
theorem XL.rp {g : G} {P : Program} {H : Hp} {es : List DictEntry} {xs : List (Key × Value)} (p : Pairs (mixKind P g.w) es xs) : ∀ {kvs : List (D × D)}, XL g H xs kvs → (∀ e ∈ es, ∃ k, (mixKind P g.w).is k e.key = true ∧ e.hash = (mixKind P g.w).hash k) → RpE g H es kvs := by
  induction p with
  | nil => intro kvs x hs; cases x; exact .nil
  | @cons e kv es xs p1 p2 p3 ih =>
    intro kvs x hs
    cases x with
    | @cons dk d k v u _ kvs h1 h2 h3 r =>
      obtain ⟨k', q1, q2⟩ := hs _ List.mem_cons_self
      have ek : k' = k := (mixKind P g.w).inj _ _ _ q1 p1
      subst ek
      obtain ⟨vk, rk, rk'⟩ := keyS_back (g := g) (H := H) h1 p1
      have kn := keyS_nested h1
      refine .cons kn (by cases k' <;> (show 0 ≤ 8; omega)) ?_ rk rk' ?_ h3 (ih r fun e' he => hs e' (List.mem_cons_of_mem _ he))
      · rw [q2]; exact (keyS_hash h1 kn).symm
      · rw [p2]; exact h2
theorem XL.length {g : G} {H : Hp} : ∀ {xs : List (Key × Value)} {kvs : List (D × D)}, XL g H xs kvs → xs.length = kvs.length
  | _, _, .nil => rfl
  | _, _, .cons h1 h2 h3 r => by rw [List.length_cons, List.length_cons, XL.length r]
theorem XL.tups {g : G} {H : Hp} : ∀ {xs : List (Key × Value)} {kvs : List (D × D)}, XL g H xs kvs → ∀ p ∈ kvs, isIS p.1 = true
  | _, _, .nil => fun p h => nomatch h
  | _, _, .cons (dk := dk) h1 h2 h3 r => fun p h => by
    rcases List.mem_cons.mp h with e | h
    · subst e
      cases dk <;> first | rfl | simp [keyS] at h1
    · exact XL.tups r p h
def kN : Key → NestedKey
  | .inl i => .num i
  | .inr x => .text x
theorem kN_inj {a b : Key} (h : kN a = kN b) : a = b := by
  cases a <;> cases b <;> simp [kN] at h <;> rw [h]
theorem XL.keys {g : G} {H : Hp} : ∀ {xs : List (Key × Value)} {kvs : List (D × D)}, XL g H xs kvs → kvs.map (fun p => keyOf p.1) = (xs.map (·.1)).map fun x => some (kN x)
  | _, _, .nil => rfl
  | _, _, .cons (k := k) h1 h2 h3 r => by
    rw [List.map_cons, XL.keys r, keyS_nested h1]
    cases k <;> rfl
theorem XL.get {g : G} {H : Hp} {dk : D} {k : Key} (hk : keyS dk = some k) : ∀ {xs : List (Key × Value)} {kvs : List (D × D)}, XL g H xs kvs →
    (dget kvs dk = none ∧ valueAt xs k = none) ∨ ∃ d u v, dget kvs dk = some d ∧ valueAt xs k = some u ∧ RelV v u ∧ Rp g H v d
  | _, _, .nil => .inl ⟨rfl, rfl⟩
  | _, _, .cons (dk := dk') (d := d) (k := k') (v := v) (u := u) (xs := xs) (kvs := kvs) h1 h2 h3 r => by
    by_cases q : k' = k
    · refine .inr ⟨d, u, v, ?_, ?_, h2, h3⟩
      · have z : decide (keyOf dk' = keyOf dk) = true := decide_eq_true ((keyS_inj h1 hk).mpr q)
        simp [dget, List.find?_cons, z]
      · simp [valueAt, List.find?_cons, q]
    · have e1 : dget ((dk', d) :: kvs) dk = dget kvs dk := by
        unfold dget
        rw [List.find?_cons_of_neg]
        intro z
        exact q ((keyS_inj h1 hk).mp (of_decide_eq_true z))
      have e2 : valueAt ((k', u) :: xs) k = valueAt xs k := by
        unfold valueAt
        rw [List.find?_cons_of_neg]
        intro z
        exact q (of_decide_eq_true z)
      rw [e1, e2]
      exact XL.get hk r
theorem XL.app {g : G} {H : Hp} : ∀ {xs ys : List (Key × Value)} {kvs lvs : List (D × D)}, XL g H xs kvs → XL g H ys lvs → XL g H (xs ++ ys) (kvs ++ lvs)
  | _, _, _, _, .nil, q => q
  | _, _, _, _, .cons h1 h2 h3 r, q => .cons h1 h2 h3 (XL.app r q)
theorem XL.put {g : G} {H : Hp} {dk d : D} {k : Key} {v : V} {u : Value} (hk : keyS dk = some k) (rv : RelV v u) (rd : Rp g H v d) : ∀ {xs : List (Key × Value)} {kvs : List (D × D)}, XL g H xs kvs →
    XL g H (xs.map fun kv => if kv.1 = k then (kv.1, u) else kv) (kvs.map fun p => if keyOf p.1 = keyOf dk then (p.1, d) else p)
  | _, _, .nil => .nil
  | _, _, .cons (dk := dk') (d := d') (k := k') (u := u') h1 h2 h3 r => by
    rw [List.map_cons, List.map_cons]
    by_cases q : k' = k
    · have e1 : (if (k', u').1 = k then ((k', u').1, u) else (k', u')) = (k', u) := if_pos q
      have e2 : (if keyOf (dk', d').1 = keyOf dk then ((dk', d').1, d) else (dk', d')) = (dk', d) := if_pos ((keyS_inj h1 hk).mpr q)
      rw [e1, e2]
      exact .cons h1 rv rd (XL.put hk rv rd r)
    · have e1 : (if (k', u').1 = k then ((k', u').1, u) else (k', u')) = (k', u') := if_neg q
      have e2 : (if keyOf (dk', d').1 = keyOf dk then ((dk', d').1, d) else (dk', d')) = (dk', d') := if_neg fun z => q ((keyS_inj h1 hk).mp z)
      rw [e1, e2]
      exact .cons h1 h2 h3 (XL.put hk rv rd r)
theorem XL.sto {g : G} {H : Hp} {dk d : D} {k : Key} {v : V} {u : Value} (hk : keyS dk = some k) (rv : RelV v u) (rd : Rp g H v d) {xs : List (Key × Value)} {kvs : List (D × D)} (r : XL g H xs kvs) :
    XL g H (stored xs k u) (dput kvs dk d) := by
  unfold dput stored
  have e : (xs.any fun kv => kv.1 = k) = (valueAt xs k).isSome := by
    unfold valueAt
    rw [Option.isSome_map, List.isSome_find?]
  rw [e]
  rcases r.get hk with ⟨e1, e2⟩ | ⟨d', u', v', e1, e2, _, _⟩
  · rw [e1, e2]
    exact r.app (.cons hk rv rd .nil)
  · rw [e1, e2]
    exact r.put hk rv rd
end MP

/-! MP10: the machine's dicts: d[k], k in d, d.get(k, x), d[k] = v, {}. -/
namespace MP
open PySem PySem.Spec PyProof.Rows L2

section
variable {g : G} {W : WX} {X : Cx} {pins : List (Addr × Obj)} {σ : L2.St} {H : Hp} {s : Shared} {p : Addr} {es : List DictEntry} {kvs : List (D × D)}
theorem nodup_of_some {α β : Type} {f : α → β} (hf : ∀ a b, f a = f b → a = b) : ∀ {l : List α}, (l.map fun x => some (f x)).Nodup → l.Nodup
  | [], _ => List.nodup_nil
  | a :: l, h => by
    rw [List.map_cons, List.nodup_cons] at h
    refine List.nodup_cons.mpr ⟨fun z => h.1 (List.mem_map.mpr ⟨a, z, rfl⟩), nodup_of_some hf h.2⟩
theorem some_nodup {α β : Type} {f : α → β} (hf : ∀ a b, f a = f b → a = b) : ∀ {l : List α}, l.Nodup → (l.map fun x => some (f x)).Nodup
  | [], _ => List.nodup_nil
  | a :: l, h => by
    rw [List.nodup_cons] at h
    rw [List.map_cons, List.nodup_cons]
    refine ⟨fun z => ?_, some_nodup hf h.2⟩
    obtain ⟨b, hb, e⟩ := List.mem_map.mp z
    have := hf _ _ (Option.some.inj e)
    subst this
    exact h.1 hb
/-- a dict at p, seen in the heap -/
structure DctAt (g : G) (P : Program) (w : World) (H : Hp) (h : Heap) (p : Addr) (es : List DictEntry) (kvs : List (D × D)) : Prop where
  sys : (p == sysModules) = false
  le : kvs.length ≤ sizeLine
  ty : ∃ ob, h.get? p = some ob ∧ ob.cls = .type "dict" ∧ ob.dict = none
  tup : (∀ q ∈ kvs, isTup q.1 = true) → ∃ xs, h.DictOfH (nestedKind P w) p xs ∧ XE g H xs kvs
  is : (∀ q ∈ kvs, isIS q.1 = true) → ∃ xs, h.DictOf (mixKind P w) p xs ∧ XL g H xs kvs
theorem xe_is (a : At g W X) (I : Inv X pins σ H s) {H' : Hp} (sub : Sub H' H) : ∀ {xs : List (NestedKey × Addr × Value)} {kvs : List (D × D)}, XE g H' xs kvs → ∀ y ∈ xs, (nestedKind X.prog g.w).is s.heap y.1 y.2.1
  | _, _, .nil => fun y hy => nomatch hy
  | _, _, .cons k1 k2 k3 k4 k5 k6 r => fun y hy => by
    rcases List.mem_cons.mp hy with e | hy
    · subst e
      exact ⟨nested_of a.k I _ _ _ _ k1 (k4.mono sub) rfl, k2⟩
    · exact xe_is a I sub r y hy
theorem dct_at (a : At g W X) (I : Inv X pins σ H s) {H' : Hp} (hr : Rd H p (DctO p es)) (hz : kvs.length ≤ sizeLine) (re : RpE g H' es kvs) (sub : Sub H' H) (dk : DKind kvs) : DctAt g X.prog X.w H' s.heap p es kvs := by
  rw [a.w]
  obtain ⟨⟨hs, o, ea, ep, h1, h2, h3, h4⟩, _⟩ := (show ObjOk X.prog X.w H s.heap p (DctO p es) from hr.ok I.hok)
  refine ⟨hs, hz, ⟨o, h1, h2.1, h2.2.1⟩, fun ht => ?_, fun ht => ?_⟩
  · obtain ⟨xs, e1, x⟩ := xe_of (P := X.prog) re ht
    refine ⟨xs, ⟨o, ea, ep, h1, h2, h3, h4.trans e1, fun y hy => ?_, ?_⟩, x⟩
    · exact xe_is a I sub x y hy
    · have := dk.2
      rw [x.keys] at this
      have e : (xs.map fun x => some x.1) = (xs.map (·.1)).map fun x => some (id x) := by rw [List.map_map]; rfl
      rw [e] at this
      exact nodup_of_some (f := id) (fun _ _ z => z) this
  · obtain ⟨xs, e1, x, hh⟩ := xl_of (P := X.prog) re ht
    refine ⟨xs, ⟨o, ea, ep, h1, h2, h3, fun e he => ?_, by rw [h4]; exact e1, ?_⟩, x⟩
    · exact hh e (by rw [← h4]; exact Array.mem_toList_iff.mpr he)
    · have := dk.2
      rw [x.keys] at this
      exact nodup_of_some (fun _ _ z => kN_inj z) this
/-- back again: a new content -/
theorem dct_newH {P : Program} {w : World} (hw : w = g.w) {h' : Heap} {xs : List (NestedKey × Addr × Value)} (hs : (p == sysModules) = false) (x : XE g H xs kvs) (d : h'.DictOfH (nestedKind P w) p xs) : (∃ es, RpE g H es kvs ∧ ∀ (w' : World) (H' : Hp), ObjOk P w' H' h' p (DctO p es)) ∧ DKind kvs := by
  subst hw
  obtain ⟨o, ea, ep, h1, h2, h3, h4, h5, h6⟩ := d
  refine ⟨⟨_, x.rp (P := P), fun w' H' => ⟨⟨hs, o, ea, ep, h1, h2, h3, h4⟩, ⟨o, h1⟩, fun ha hb ⟨_, o', ea', ep', k1, k2, k3, k4⟩ k => ⟨hs, o', ea', ep', k _ k1, k2, k3, k4⟩⟩⟩, .inl x.tups, ?_⟩
  rw [x.keys]
  have e : (xs.map fun x => some x.1) = (xs.map (·.1)).map fun x => some (id x) := by rw [List.map_map]; rfl
  rw [e]
  exact some_nodup (f := id) (fun _ _ z => z) h6
theorem dct_newL {P : Program} {w : World} (hw : w = g.w) {h' : Heap} {xs : List (Key × Value)} (hs : (p == sysModules) = false) (x : XL g H xs kvs) (d : h'.DictOf (mixKind P w) p xs) : (∃ es, RpE g H es kvs ∧ ∀ (w' : World) (H' : Hp), ObjOk P w' H' h' p (DctO p es)) ∧ DKind kvs := by
  subst hw
  obtain ⟨o, ea, ep, h1, h2, h3, h4, h5, h6⟩ := d
  refine ⟨⟨_, XL.rp h5 x fun e he => h4 e (Array.mem_toList_iff.mp he), fun w' H' => ⟨⟨hs, o, ea, ep, h1, h2, h3, rfl⟩, ⟨o, h1⟩, fun ha hb ⟨_, o', ea', ep', k1, k2, k3, k4⟩ k => ⟨hs, o', ea', ep', k _ k1, k2, k3, k4⟩⟩⟩, .inr x.tups, ?_⟩
  rw [x.keys]
  exact some_nodup (fun _ _ z => kN_inj z) h6
theorem askOk_cases {kvs : List (D × D)} {k : D} (h : askOk kvs k = true) : ∃ nk, keyOf k = some nk ∧ nk.depth ≤ 8 ∧ ((isTup k = true ∧ ∀ q ∈ kvs, isTup q.1 = true) ∨ (isIS k = true ∧ ∀ q ∈ kvs, isIS q.1 = true)) := by
  simp only [askOk, Bool.and_eq_true, Bool.or_eq_true, List.all_eq_true] at h
  obtain ⟨h1, h2⟩ := h
  obtain ⟨nk, e, hd⟩ := keyGood_some h1
  exact ⟨nk, e, hd, h2⟩
theorem Ro.dict {Hf : Hp} (f : Sub Hf H) {v : V} {kvs : List (D × D)} (h : Ro g H Hf v (.dct kvs)) : ∃ a es, v = .ref a ∧ H a = some (DctO a es) ∧ kvs.length ≤ sizeLine ∧ RpE g Hf es kvs ∧ DKind kvs := by
  cases h with
  | of h => cases h with | dct h z r k => exact ⟨_, _, rfl, f _ _ h, z, r, k⟩
  | dct h z r k => exact ⟨_, _, rfl, h, z, r, k⟩
theorem nested_room (a : At g W X) : (nestedKind X.prog X.w).room X.A.in1 := by
  have := a.hu
  show X.A.in1.units + 8 < cLine
  have e : X.A.in1.units = X.A.units + 1 := rfl
  omega
/-- what the dict answers -/
def inDct : D → D → Option D
  | k, .dct kvs => if askOk kvs k then some (.bl (dget kvs k).isSome) else none
  | _, _ => none
def notInDct : D → D → Option D
  | k, .dct kvs => if askOk kvs k then some (.bl (!(dget kvs k).isSome)) else none
  | _, _ => none
def ixDct : D → D → Option D
  | .dct kvs, k => if askOk kvs k then dget kvs k else none
  | _, _ => none
theorem op2_inDct (a : At g W X) : Op2 g X (compareOp .In) (Pw g) inDct := fun pins s σ0 H v u vv uu Q σ pr S Hf d e r I rv ru R rd re hr k => by
  cases e <;> simp only [inDct, Option.ite_none_right_eq_some, Option.some.injEq, reduceCtorEq] at hr
  rename_i kvs
  obtain ⟨ha, rfl⟩ := hr
  obtain ⟨nk, hk, hd, hc⟩ := askOk_cases ha
  obtain ⟨p, es, rfl, hp, hz, rpe, dk⟩ := re.dict R.sub
  cases ru
  have da := dct_at a I (.of hp) hz rpe R.sub dk
  have rk := rd.all R.sub
  have fin : ∀ (b : Bool), b = (dget kvs d).isSome → EP X pins σ0 Q (.bool b) { s with toks := s.toks + nk.draws } := fun b e => ⟨.bl b, H, I.tok _, rfl, by rw [e]; exact flatK R k (.bl _) rfl⟩
  rcases hc with ⟨t1, t2⟩ | ⟨t1, t2⟩
  · obtain ⟨xs, dx, x⟩ := da.tup t2
    obtain ⟨b, rfl⟩ := isTup_ref t1 rk
    cases rv
    refine wpAny_in_heap (nested_room a) ⟨nested_of a.k I d nk _ _ hk rk rfl, hd⟩ da.sys dx (fin _ ?_)
    rcases x.get hk with ⟨e1, e2⟩ | ⟨d', q, v', e1, e2, _, _⟩
    · rw [e1, e2]; rfl
    · rw [e1, e2]; rfl
  · obtain ⟨xs, dx, x⟩ := da.is t2
    obtain ⟨ks, hks⟩ := keyS_of t1
    have ki : (mixKind X.prog X.w).is ks vv = true := keyS_rp hks rk rv
    refine wpAny_in_of ki da.sys dx.mapOf ?_
    have e : (valueAt xs ks).isSome = (dget kvs d).isSome := by
      rcases x.get hks with ⟨e1, e2⟩ | ⟨d', q, v', e1, e2, _, _⟩
      · rw [e1, e2]; rfl
      · rw [e1, e2]; rfl
    rw [e]
    exact ⟨.bl _, H, I.tok _, rfl, flatK R k (.bl _) rfl⟩
theorem op2_notInDct (a : At g W X) : Op2 g X (compareOp .NotIn) (Pw g) notInDct := fun pins s σ0 H v u vv uu Q σ pr S Hf d e r I rv ru R rd re hr k => by
  cases e <;> simp only [notInDct, Option.ite_none_right_eq_some, Option.some.injEq, reduceCtorEq] at hr
  rename_i kvs
  obtain ⟨ha, rfl⟩ := hr
  obtain ⟨nk, hk, hd, hc⟩ := askOk_cases ha
  obtain ⟨p, es, rfl, hp, hz, rpe, dk⟩ := re.dict R.sub
  cases ru
  have da := dct_at a I (.of hp) hz rpe R.sub dk
  have rk := rd.all R.sub
  rcases hc with ⟨t1, t2⟩ | ⟨t1, t2⟩
  · obtain ⟨xs, dx, x⟩ := da.tup t2
    obtain ⟨b, rfl⟩ := isTup_ref t1 rk
    cases rv
    refine wpAny_notIn_heap (nested_room a) ⟨nested_of a.k I d nk _ _ hk rk rfl, hd⟩ da.sys dx ?_
    have e : (atKey xs nk).isSome = (dget kvs d).isSome := by
      rcases x.get hk with ⟨e1, e2⟩ | ⟨d', q, v', e1, e2, _, _⟩
      · rw [e1, e2]; rfl
      · rw [e1, e2]; rfl
    rw [e]
    exact ⟨.bl _, H, I.tok _, rfl, flatK R k (.bl _) rfl⟩
  · obtain ⟨xs, dx, x⟩ := da.is t2
    obtain ⟨ks, hks⟩ := keyS_of t1
    have ki : (mixKind X.prog X.w).is ks vv = true := keyS_rp hks rk rv
    refine wpAny_notIn_of ki da.sys dx.mapOf ?_
    have e : (valueAt xs ks).isSome = (dget kvs d).isSome := by
      rcases x.get hks with ⟨e1, e2⟩ | ⟨d', q, v', e1, e2, _, _⟩
      · rw [e1, e2]; rfl
      · rw [e1, e2]; rfl
    rw [e]
    exact ⟨.bl _, H, I.tok _, rfl, flatK R k (.bl _) rfl⟩
/-- x in c, c of any sort -/
def inA (d e : D) : Option D := (inD d e).or (inDct d e)
def notInA (d e : D) : Option D := (notInD d e).or (notInDct d e)
theorem op2_inA (a : At g W X) : Op2 g X (compareOp .In) (Pw g) inA := (op2_in a).or (op2_inDct a)
theorem op2_notInA (a : At g W X) : Op2 g X (compareOp .NotIn) (Pw g) notInA := (op2_notIn a).or (op2_notInDct a)
end
end MP

/-! MP11: subscripts of any sort, {}, assignments, stores, append. -/
namespace MP
open PySem PySem.Spec PyProof.Rows L2

/-- a[b] -/
def ixA (d e : D) : Option D := (ix0 d e).or (ixDct d e)
def setD : D → D → D → Option D
  | .lst xs, .int i, v => (ixN xs.length i).map fun j => .lst (xs.set j v)
  | .dct kvs, k, v => if askOk kvs k && decide (kvs.length < sizeLine) then some (.dct (dput kvs k v)) else none
  | _, _, _ => none
/-- steps on one slot -/
def slV (i : Nat) (d : D) : MS := fun S => .ok .nx (S.set i (.va d))
def slO (i : Nat) (d : D) : MS := fun S => .ok .nx (S.set i (if isCont d = true then .ow d else .va d))
def slOwn (i : Nat) : M Unit := fun S => match S[i]? with
  | some (.ow _) => .ok () S
  | _ => .no
def slOwnL (i : Nat) : M Unit := fun S => match S[i]? with
  | some (.ow (.lst _)) => .ok () S
  | _ => .no
def slSet (i : Nat) (k v : D) : MS := fun S => match S[i]? with
  | some (.ow d) => (match setD d k v with
    | some d' => .ok .nx (S.set i (.ow d'))
    | none => .no)
  | _ => .no
def slApp (i : Nat) (v : D) : MS := fun S => match S[i]? with
  | some (.ow (.lst xs)) => if xs.length < sizeLine then .ok .nx (S.set i (.ow (.lst (xs ++ [v])))) else .no
  | _ => .no
def slAug (h : D → D → Option D) (i : Nat) (v : D) : MS := fun S => match S[i]? with
  | some (.va d) => (match h d v with
    | some d' => .ok .nx (S.set i (.va d'))
    | none => .no)
  | _ => .no
/-- name = value, the value standing still -/
def mSetV (i : Nat) (f : M D) : MS := f >>= slV i
/-- name = a new value -/
def mSetO (i : Nat) (f : M D) : MS := f >>= slO i
/-- targets = value -/
def mAsg (p : Pt) (f : M D) : MS := f >>= fun d => pTg p d >>= fun _ => pure .nx
/-- name[k] = v -/
def mSt (i : Nat) (fk fv : M D) : MS := fv >>= fun v => slOwn i >>= fun _ => fk >>= fun k => slSet i k v
/-- name.append(v) -/
def mApp (i : Nat) (fv : M D) : MS := slOwnL i >>= fun _ => fv >>= fun v => slApp i v
/-- name op= v, numbers -/
def mAug (h : D → D → Option D) (i : Nat) (fv : M D) : MS := oVar i >>= fun _ => fv >>= fun v => slAug h i v
def eDct0 : M D := eC (.dct [])

section
variable {g : G} {W : WX} {X : Cx} {pr : Addr → Prop} {S : Sx} {σ : L2.St} {H H1 Hf Hf1 : Hp} {Ψ : Psi} {En : Ends} {pos : Pos}
theorem ixDct_ok (at_ : At g W X) : IxD g W X (fun x y => Mo (ixDct x y)) := fun value slice pins s σ0 H x y v u Q I rx ry ⟨σ, pr, S, Hf, d, e, R, rd, re, h⟩ hs => by
  obtain ⟨r, hr, h'⟩ := Mo_af h
  clear h
  cases d <;> simp only [ixDct, Option.ite_none_right_eq_some, reduceCtorEq] at hr
  rename_i kvs
  obtain ⟨ha, hr⟩ := hr
  obtain ⟨nk, hk, hd, hc⟩ := askOk_cases ha
  obtain ⟨p, es, rfl, hp, hz, rpe, dk⟩ := rd.dict R.sub
  cases rx
  have da := dct_at at_ I (.of hp) hz rpe R.sub dk
  have rk := re.all R.sub
  have ty : s.TypeIs (.ref p) "dict" := let ⟨ob, h1, h2, _⟩ := da.ty; ⟨ob, h1, h2⟩
  rcases hc with ⟨t1, t2⟩ | ⟨t1, t2⟩
  · obtain ⟨xs, dx, x⟩ := da.tup t2
    obtain ⟨b, rfl⟩ := isTup_ref t1 rk
    cases ry
    rcases x.get hk with ⟨e1, e2⟩ | ⟨d', q, v', e1, e2, r1, r2⟩
    · rw [e1] at hr; cases hr
    · rw [e1] at hr; cases hr
      refine tail_any ty PySem.F.slot_dict_getitem.lookup (wpAny_getItem_heap (nested_room at_) ⟨nested_of at_.k I _ nk _ _ hk rk rfl, hd⟩ dx e2 ⟨v', H, I.tok _, r1, Af.done (Ψ := Ps g) h' R r2⟩) hs
  · obtain ⟨xs, dx, x⟩ := da.is t2
    obtain ⟨ks, hks⟩ := keyS_of t1
    have ki : (mixKind X.prog X.w).is ks u = true := keyS_rp hks rk ry
    rcases x.get hks with ⟨e1, e2⟩ | ⟨d', q, v', e1, e2, r1, r2⟩
    · rw [e1] at hr; cases hr
    · rw [e1] at hr; cases hr
      refine tail_any ty PySem.F.slot_dict_getitem.lookup (wpAny_getItem_of ki dx.mapOf e2 ⟨v', H, I.tok _, r1, Af.done (Ψ := Ps g) h' R r2⟩) hs
theorem ixA_ok (at_ : At g W X) : IxD g W X (fun x y => Mo (ixA x y)) := by
  refine fun value slice pins s σ0 H x y v u Q I rx ry ⟨σ, pr, S, Hf, d, e, R, rd, re, h⟩ hs => ?_
  obtain ⟨r, hr, h'⟩ := Mo_af h
  clear h
  unfold ixA at hr
  cases q : ix0 d e with
  | some z =>
    rw [q, Option.some_or] at hr
    cases hr
    refine ix0_ok at_ value slice pins s σ0 H x y v u Q I rx ry ⟨σ, pr, S, Hf, d, e, R, rd, re, ?_⟩ hs
    show Af g W pr (Ps g) (Mo (ix0 d e) S) σ H Hf Q
    rw [q]; exact h'
  | none =>
    rw [q, Option.none_or] at hr
    refine ixDct_ok at_ value slice pins s σ0 H x y v u Q I rx ry ⟨σ, pr, S, Hf, d, e, R, rd, re, ?_⟩ hs
    show Af g W pr (Ps g) (Mo (ixDct d e) S) σ H Hf Q
    rw [hr]; exact h'
theorem se_dct0 : PE X (.Dict [] [] pos) (Te g W (Pw g) eDct0) := ⟨fun pins s σ H Q I ⟨pr, S, Hf, R, h⟩ => by
  have hn : H s.heap.objs.size = none := I.hok.fresh (Nat.le_refl _)
  obtain ⟨np, nf, nu⟩ := R.new_free hn
  refine wpAny_Dict_empty ⟨.ref s.heap.objs.size, _, I.laid (a := s.heap.objs.size) (o := DctO s.heap.objs.size []) (t' := s.toks) (fun _ _ q => Heap.get?_push_of_some _ q) (Nat.le_refl _) ?_, rfl, ?_⟩
  · exact ⟨⟨beq_eq_false_iff_ne.mpr (Ne.symm (Nat.ne_of_lt I.big)), _, #[], 0, Heap.get?_push_size _ rfl, ⟨rfl, rfl, rfl⟩, rfl, rfl⟩, ⟨_, Heap.get?_push_size _ rfl⟩,
      fun ha hb ⟨hs, o', ea', ep', k1, k2, k3, k4⟩ k => ⟨hs, o', ea', ep', k _ k1, k2, k3, k4⟩⟩
  · exact h _ _ Hf (Sub.upd hn) (Sub.refl _) (R.growH (Sub.upd hn)) (.inr ⟨_, rfl, hn, nf, .dct upd_same (Nat.zero_le _) .nil ⟨.inl (fun p hp => nomatch hp), List.nodup_nil⟩, nu⟩)⟩
theorem ss_setV {i : Nat} {x : Str} {e : Expr} {f : M D} {pos' : Pos} (hN : X.N.Nodup) (hi : X.N[i]? = some x) (hx : Loc X.env.scope x) (he : PE X e (Te g W (Ps g) f)) (hs : swapsWith e (some (.Name x pos')) pos.line X.env = pure false) (hf : X.fn x = true ∨ X.env.scope.names.lookup x = some .local) :
    PS X (.Assign [.Name x pos'] e pos) (Ts g W (mSetV i f)) := (ps_set hN hi hx he hs hf).imp fun D σ H ⟨pr, S, Hf, R, h⟩ =>
  (Ts.expr (Ψ := Ps g) R h).weak fun v H1 ⟨S1, Hf1, d, _, R1, x, h1⟩ => AfS.nx (W := W) (R1.setV x) h1
theorem ss_setO {i : Nat} {x : Str} {e : Expr} {f : M D} {pos' : Pos} (hN : X.N.Nodup) (hi : X.N[i]? = some x) (hx : Loc X.env.scope x) (he : PE X e (Te g W (Pw g) f)) (hs : swapsWith e (some (.Name x pos')) pos.line X.env = pure false) (hf : X.fn x = true ∨ X.env.scope.names.lookup x = some .local) :
    PS X (.Assign [.Name x pos'] e pos) (Ts g W (mSetO i f)) := (ps_set hN hi hx he hs hf).imp fun D σ H ⟨pr, S, Hf, R, h⟩ =>
  (Ts.expr (Ψ := Pw g) R h).weak fun v H1 ⟨S1, Hf1, d, _, R1, x, h1⟩ => by
    rcases x with ⟨hc, x⟩ | ⟨a, rfl, h0, hn, c, hu⟩
    · have h1 : AfS g W pr (Ou.ok Fl.nx (S1.set i (if isCont d = true then .ow d else .va d))) H1 Hf1 D := h1
      rw [hc] at h1
      exact AfS.nx (W := W) (R1.setV x) h1
    · have hc : isCont d = true := by cases c <;> rfl
      have h1 : AfS g W pr (Ou.ok Fl.nx (S1.set i (if isCont d = true then .ow d else .va d))) H1 Hf1 D := h1
      rw [hc] at h1
      have np : ¬ pr a := fun hp => by
        obtain ⟨_, u, hu⟩ := R.priv a hp
        rw [h0] at hu; cases hu
      exact AfS.nx (W := W) (R1.setO hn np c fun j e _ hj => hu j e hj) h1
theorem ss_asg {tg e : Expr} {p : Pt} {f : M D} (hg : PG X tg (Gt g p)) (he : PE X e (Te g W (Ps g) f)) (hs : swapsWithSole [tg] e pos.line X.env = pure false := by rfl) (hw : swappedStores [tg] e X.env = pure none := by rfl)
    (h1 : (assignEach [tg] X.env).map (·.2) = [assign tg X.env] := by rfl) : PS X (.Assign [tg] e pos) (Ts g W (mAsg p f)) := (ps_asg he hg hs hw h1).imp fun D σ H ⟨pr, S, Hf, R, h⟩ =>
  (Ts.expr (Ψ := Ps g) R h).weak fun v H1 ⟨S1, Hf1, d, _, R1, x, h1⟩ => by
    rw [M.bind_def] at h1
    cases hg : p.go d S1 with
    | none =>
      have e : pTg p d S1 = .no := by unfold pTg; rw [hg]
      rw [e] at h1; exact h1.elim
    | some S2 =>
      have e : pTg p d S1 = .ok () S2 := by unfold pTg; rw [hg]
      rw [e] at h1
      exact ⟨pr, S1, Hf1, d, S2, R1, x, hg, fun σ' R' _ => AfS.nx (W := W) R' h1⟩
/-- the store's rule: lists and dicts of the frame's own -/
theorem set_own (at_ : At g W X) : PSet X (fun o k v H Q => ∃ pr S Hf σ i d dk dv d', SRep g pr S Hf σ H ∧ S[i]? = some (.ow d) ∧ σ[i]? = some (some o) ∧ Ro g H Hf k dk ∧ Rp g Hf v dv ∧ setD d dk dv = some d' ∧
    ∀ H', Prv pr H H' → SRep g pr (S.set i (.ow d')) Hf σ H' → Q H') := by
  intro pins s σ0 H o k v ov kv u Q I ro rk rv ⟨pr, S, Hf, σ, i, d, dk, dv, d', R, hi, ho, rdk, rdv, hd, q⟩
  have hs := hi
  obtain ⟨a, h1, h2, h3, c⟩ := R.ow i d hi
  rw [ho] at h1; cases h1
  cases ro
  have pv : ∀ {u : HO}, Prv pr H (upd H a u) := fun b hb => upd_ne fun z => h3 (z ▸ hb)
  have rk' := rdk.all R.sub
  cases c with
  | @lst vs ds hl ra =>
    cases dk <;> simp only [setD, reduceCtorEq] at hd
    rename_i k
    obtain ⟨j, hj, rfl⟩ := Option.map_eq_some_iff.mp hd
    cases rdk.int
    refine set_list pins s σ0 H (.ref a) _ _ _ _ _ _ I rfl rk rv ⟨a, vs, k, j, rfl, rfl, hl, by rw [ra.length]; exact hj, q _ pv (R.write hi ho (.lst upd_same (ra.set rdv j)))⟩
  | @dct es kvs hp hz rpe dkk =>
    simp only [setD, Option.ite_none_right_eq_some, Bool.and_eq_true, decide_eq_true_eq, Option.some.injEq] at hd
    obtain ⟨⟨ha, hlt⟩, rfl⟩ := hd
    obtain ⟨nk, hk, hd, hc⟩ := askOk_cases ha
    have da := dct_at at_ I (.of hp) hz rpe R.sub dkk
    have mu : Mut (H a) := by rw [hp]; exact True.intro
    have hl' : (dput kvs dk dv).length ≤ sizeLine := by
      unfold dput; split <;> simp <;> omega
    rcases hc with ⟨t1, t2⟩ | ⟨t1, t2⟩
    · obtain ⟨xs, dx, x⟩ := da.tup t2
      obtain ⟨b, rfl⟩ := isTup_ref t1 rk'
      cases rk
      have rkf : Rp g Hf (.ref b) dk := by
        cases rdk with
        | of h => exact h
        | lst _ _ => simp [isTup] at t1
        | dct _ _ _ _ => simp [isTup] at t1
        | ins _ _ => simp [isTup] at t1
      refine wpAny_setItem_heap (hsz := by rw [x.length]; exact hz) (nested_room at_) ⟨nested_of at_.k I _ nk _ _ hk rk' rfl, hd⟩ dx fun h' dd' hsb => ?_
      have x' := x.sto (v := v) hk hd t1 rkf rv rdv
      obtain ⟨⟨es', rp', ok'⟩, dk'⟩ := dct_newH at_.w da.sys x' dd'
      have he : ∃ q, h'.get? a = some q := let ⟨q, _, _, hq, _⟩ := dd'; ⟨q, hq⟩
      exact ⟨_, d_write I mu hsb he (ok' _ _), q _ pv (R.write hi ho (.dct upd_same hl' rp' dk'))⟩
    · obtain ⟨xs, dx, x⟩ := da.is t2
      obtain ⟨ks, hks⟩ := keyS_of t1
      have ki : (mixKind X.prog X.w).is ks kv = true := keyS_rp hks rk' rk
      refine wpAny_setItem_pairs (hsz := by rw [x.length]; exact hz) ki dx fun h' dd' hsb => ?_
      have x' := x.sto (v := v) hks rv rdv
      obtain ⟨⟨es', rp', ok'⟩, dk'⟩ := dct_newL at_.w da.sys x' dd'
      have he : ∃ q, h'.get? a = some q := let ⟨q, _, _, hq, _⟩ := dd'; ⟨q, hq⟩
      exact ⟨_, d_write I mu hsb he (ok' _ _), q _ pv (R.write hi ho (.dct upd_same hl' rp' dk'))⟩
  | ins _ _ => simp [setD] at hd
theorem slOwn_af {i : Nat} {k : Unit → MS} (h : AfS g W pr ((slOwn i >>= k) S) H Hf En) : ∃ d, S[i]? = some (.ow d) ∧ AfS g W pr (k () S) H Hf En := by
  rw [M.bind_def] at h
  unfold slOwn at h
  split at h
  · rename_i e
    split at e
    · rename_i d hd
      cases e
      exact ⟨d, hd, h⟩
    · cases e
  · rename_i e
    split at e <;> cases e
  · exact h.elim
theorem Ts.expr2 {f : M D} {k : D → MS} (R : SRep g pr S Hf σ H) (h : AfS g W pr ((f >>= k) S) H Hf En) :
    Te g W Ψ f σ H fun v H1 => ∃ S1 Hf1 d, Sub H H1 ∧ SRep g pr S1 Hf1 σ H1 ∧ (Ψ H S1 σ H1 Hf1 v d ∧ Sub Hf Hf1) ∧ AfS g W pr (k d S1) H1 Hf1 En := by
  refine ⟨pr, S, Hf, R, ?_⟩
  rw [M.bind_def] at h
  revert h
  cases f S with
  | ok d S' => exact fun h v H' Hf' a b R' x => ⟨S', Hf', d, a, R', ⟨x, b⟩, AfS.mono (H := H) (Hf := Hf) h (R.prv a) b⟩
  | ex c fs S' => exact fun h => AfS.ofX R h
  | no => exact id
theorem slOwnL_af {i : Nat} {k : Unit → MS} (h : AfS g W pr ((slOwnL i >>= k) S) H Hf En) : ∃ ds, S[i]? = some (.ow (.lst ds)) ∧ AfS g W pr (k () S) H Hf En := by
  rw [M.bind_def] at h
  unfold slOwnL at h
  split at h
  · rename_i e
    split at e
    · rename_i d hd
      cases e
      exact ⟨d, hd, h⟩
    · cases e
  · rename_i e
    split at e <;> cases e
  · exact h.elim
/-- name[k] = v -/
theorem ss_st (at_ : At g W X) {i : Nat} {x : Str} {k e : Expr} {fk fv : M D} {p1 p2 : Pos} (hi : X.N[i]? = some x) (hv : Vis X.env.scope x) (hd : (x == ("__debug__" : Str)) = false) (hcd : (x == ("__classdict__" : Str)) = false)
    (hk : PE X k (Te g W (Po g) fk)) (he : PE X e (Te g W (Ps g) fv)) (hs : swapsWithSole [.Subscript (.Name x p1) k p2] e pos.line X.env = pure false) (hw : swappedStores [.Subscript (.Name x p1) k p2] e X.env = pure none)
    (h1 : (assignEach [.Subscript (.Name x p1) k p2] X.env).map (·.2) = [assign (.Subscript (.Name x p1) k p2) X.env])
    (ha : ∀ v, assign (.Subscript (.Name x p1) k p2) X.env v = (do
      let ov ← holding [v] (eval (.Name x p1) X.env)
      let iv ← holding [v, ov] (eval k X.env)
      standAt p2
      holding [v, ov, iv] (setItem ov iv v)
      release [v, ov, iv] [])) : PS X (.Assign [.Subscript (.Name x p1) k p2] e pos) (Ts g W (mSt i fk fv)) :=
  (ps_asg he (pg_sub (pe_var hi hv hd hcd) hk (set_own at_) ha) hs hw h1).imp fun D σ H ⟨pr, S, Hf, R, h⟩ => (Ts.expr (Ψ := Ps g) R h).weak fun v H1 ⟨S1, Hf1, dv, _, R1, xv, h1⟩ => by
    obtain ⟨d, hs, h1⟩ := slOwn_af h1
    obtain ⟨a, s1, _⟩ := R1.ow i d hs
    refine ⟨.ref a, s1, (Ts.expr2 (Ψ := Po g) R1 h1).weak fun u H2 ⟨S2, Hf2, dk, e2, R2, ⟨xk, f2⟩, h2⟩ => ?_⟩
    unfold slSet at h2
    split at h2
    · rename_i d2 hs2
      split at h2
      · rename_i d' hd'
        exact ⟨pr, S2, Hf2, σ, i, d2, dk, dv, d', R2, hs2, s1, xk, xv.mono f2, hd', fun H' pv R' => h2 σ H' Hf2 pv (Sub.refl _) R'⟩
      · exact h2.elim
    · exact h2.elim
/-- name.append(v) -/
theorem ss_app (at_ : At g W X) {i : Nat} {x : Str} {e : Expr} {fv : M D} {p1 p2 p3 : Pos} (hi : X.N[i]? = some x) (hv : Vis X.env.scope x) (hd : (x == ("__debug__" : Str)) = false) (hcd : (x == ("__classdict__" : Str)) = false)
    (he : PE X e (Te g W (Ps g) fv)) (hst : notStar e = true)
    (hs : swapsWith (.Call (.Attribute (.Name x p1) "append" p2) [e] [] p3) none pos.line X.env = pure false)
    (hbase : attributeBase (.Name x p1) "append" X.env (eval (.Name x p1) X.env) = eval (.Name x p1) X.env)
    (hline : (p2.endLine == p3.line) = true) : PS X (.Expr (.Call (.Attribute (.Name x p1) "append" p2) [e] [] p3) pos) (Ts g W (mApp i fv)) := by
  refine (ps_expr (pe_bm (T := "list") PySem.F.plainAttrs_list PySem.F.slot_list_append PySem.F.type_list_append (r := fun x xs H Q => rAppend x xs H Q) mt_append (pe_var hi hv hd hcd) (pa_cons he pa_nil (starEach_plain hst)) hbase ?_ hline (starEach_plain hst) rfl) hs).imp fun D σ H ⟨pr, S, Hf, R, h⟩ => ?_
  · rw [starEach_plain hst]; rfl
  · obtain ⟨ds0, hs, h1⟩ := slOwnL_af h
    obtain ⟨a, s1, s2, s3, c⟩ := R.ow i _ hs
    have hq : ∃ xs, SqL X.K H a xs := by cases c with | lst hl _ => exact ⟨_, SqL.of hl⟩
    refine ⟨.ref a, s1, .inl ⟨rfl, hq⟩, (Ts.expr (Ψ := Ps g) R h1).weak fun u H2 ⟨S2, Hf2, dv, e2, R2, xv, h2⟩ => ?_⟩
    unfold slApp at h2
    split at h2
    · rename_i ds hs2
      split at h2
      · rename_i hz
        obtain ⟨b, k1, k2, k3, c2⟩ := R2.ow i _ hs2
        rw [s1] at k1; cases k1
        cases c2 with
        | @lst vs _ hl ra =>
          exact ⟨a, vs, u, rfl, rfl, hl, by rw [ra.length]; exact hz, h2 σ _ Hf2 (fun b hb => upd_ne fun z => k3 (z ▸ hb)) (Sub.refl _) (R2.write hs2 s1 (.lst upd_same (ra.append (.cons xv .nil))))⟩
      · exact h2.elim
    · exact h2.elim
/-- name op= v -/
theorem ss_aug (at_ : At g W X) {i : Nat} {x : Str} {e : Expr} {op : Operator} {fv : M D} {h : D → D → Option D} {p1 : Pos} (hN : X.N.Nodup) (hi : X.N[i]? = some x) (hx : Loc X.env.scope x) (ho : Op2 g X (inplaceOp op) (Ps g) h) (he : PE X e (Te g W (Ps g) fv)) (hf : X.fn x = true ∨ X.env.scope.names.lookup x = some .local) :
    PS X (.AugAssign (.Name x p1) op e pos) (Ts g W (mAug h i fv)) :=
  (ps_aug hN hi hx he (ti := fun x y H Q => ∃ σ pr S Hf d e r, SRep g pr S Hf σ H ∧ Ro g H Hf x d ∧ Ro g H Hf y e ∧ h d e = some r ∧ ∀ v H' Hf', Sub H H' → Sub Hf Hf' → SRep g pr S Hf' σ H' → Ps g H S σ H' Hf' v r → Q v H')
    (fun pins s σ0 H x y v u Q I rx ry ⟨σ, pr, S, Hf, d, e, r, R, rd, re, hr, k⟩ => ho pins s σ0 H x y v u Q σ pr S Hf d e r I rx ry R rd re hr k) hf).imp fun D σ H ⟨pr, S, Hf, R, q0⟩ => by
    unfold mAug at q0
    rw [M.bind_def] at q0
    unfold oVar at q0
    split at q0
    · rename_i d0 S0 e0
      have : S0 = S ∧ ∃ x, σ[i]? = some (some x) := by
        split at e0
        · rename_i d1 hd1
          cases e0
          obtain ⟨v, h1, _⟩ := R.va i _ hd1
          exact ⟨rfl, v, h1⟩
        · rename_i d1 hd1
          cases e0
          obtain ⟨v, h1, _⟩ := R.ow i _ hd1
          exact ⟨rfl, _, h1⟩
        · cases e0
      obtain ⟨rfl, x, hx⟩ := this
      have q : AfS g W pr ((fv >>= fun v => slAug h i v) S0) H Hf D := q0
      refine ⟨x, hx, (Ts.expr2 (Ψ := Ps g) R q).weak fun u H2 ⟨S2, Hf2, dv, e2, R2, ⟨xv, f2⟩, h2⟩ => ?_⟩
      unfold slAug at h2
      split at h2
      · rename_i d2 hs2
        split at h2
        · rename_i r hr
          obtain ⟨v2, k1, k2⟩ := R2.va i _ hs2
          rw [hx] at k1; cases k1
          exact ⟨σ, pr, S2, Hf2, d2, dv, r, R2, .of k2, .of xv, hr, fun v H' Hf' a b R' y => h2 _ H' Hf' (R2.prv a) b (R'.setV y)⟩
        · exact h2.elim
      · exact h2.elim
    · rename_i e0
      split at e0 <;> cases e0
    · exact q0.elim
theorem Op2.sw {f : Value → Value → Sem Value} {h : D → D → Option D} (o : Op2 g X f (Pw g) h) (hf : ∀ d e r, h d e = some r → isCont r = false) : Op2 g X f (Ps g) h :=
  fun pins s σ0 H v u vv uu Q σ pr S Hf d e r I rv ru R rd re hr k => o pins s σ0 H v u vv uu Q σ pr S Hf d e r I rv ru R rd re hr fun v' H' Hf' a b R' x => by
    rcases x with ⟨_, x⟩ | ⟨p, rfl, _, _, c, _⟩
    · exact k _ _ _ a b R' x
    · have := hf _ _ _ hr
      cases c <;> cases this
theorem op2_iadd : Op2 g X (inplaceOp .Add) (Ps g) addI := Op2.sw (.of iop_add fun σ H v u Q pr S Hf d e r R rd re hr k => by
  cases d <;> cases e <;> simp only [addI, Option.some.injEq, reduceCtorEq] at hr
  subst hr
  cases rd.int; cases re.int
  exact ⟨_, _, rfl, rfl, flatK R k (.int _) rfl⟩) fun d e r hr => by
    cases d <;> cases e <;> simp only [addI, Option.some.injEq, reduceCtorEq] at hr
    subst hr; rfl
end
end MP

/-! MP12: what loops walk. -/
namespace MP
open PySem PySem.Spec PyProof.Rows L2

/-- the items of a list, a tuple, a text -/
def itemsD : D → Option (List D)
  | .lst xs => some xs
  | .tup xs => some xs
  | .str x => some (x.map fun c => .str [c])
  | _ => none
def iSeq (f : M D) : M (List D) := f >>= fun d => Mo (itemsD d)
def rgD (lo : Int) (n : Nat) : List D := (List.range n).map fun i => .int (lo + (i : Nat))
def smallR (j : Int) : Bool := Nat.ble j.natAbs 4611686018427387903
theorem smallR_of {j : Int} (h : smallR j = true) : -(2 ^ 62) ≤ j ∧ j < 2 ^ 62 := by
  have h := Nat.le_of_ble_eq_true h
  omega
def range1D : List D → Option (List D)
  | [.int j] => if smallR j then some (rgD 0 j.toNat) else none
  | _ => none
def range2D : List D → Option (List D)
  | [.int i, .int j] => if smallR i && smallR j then some (rgD i (j - i).toNat) else none
  | _ => none
def iRg1 (f : M D) : M (List D) := evs [f] >>= fun ds => Mo (range1D ds)
def iRg2 (f k : M D) : M (List D) := evs [f, k] >>= fun ds => Mo (range2D ds)
section
variable {g : G} {W : WX} {X : Cx} {pr : Addr → Prop} {S : Sx} {σ : L2.St} {H H1 Hf Hf1 : Hp} {Ψ : Psi} {pos : Pos} {tg e : Expr}
theorem _root_.L2.PI.imp {X : Cx} {tg e : Expr} {t t' : TI} (h : PI X tg e t) (hi : ∀ σ H Q, t' σ H Q → t σ H Q) : PI X tg e t' := ⟨fun pins s σ H Q I q => h.run pins s σ H Q I (hi σ H Q q)⟩
theorem PI.or {t t' : TI} (h : PI X tg e t) (h' : PI X tg e t') : PI X tg e (fun σ H Q => t σ H Q ∨ t' σ H Q) := ⟨fun pins s σ H Q I q => by
  rcases q with q | q
  · exact h.run pins s σ H Q I q
  · exact h'.run pins s σ H Q I q⟩
theorem wk_lst {a : Addr} {vs : List V} {ds : List D} (sq : SqL g.K Hf a vs) (ra : RpA g Hf vs ds) : Wk g Hf (Itl g.K a) ds where
  go := fun i H e hi => by
    have hl : i < vs.length := by rw [ra.length]; exact hi
    exact ⟨vs, vs[i], e.sqL sq, List.getElem?_eq_getElem hl⟩
  stop := fun i H e hi => ⟨vs, e.sqL sq, by rw [ra.length]; omega⟩
  yld := fun i d x H H' hd y Hf' pr S σ f R => by
    obtain ⟨rfl, y⟩ := y
    obtain ⟨v, h1, h2⟩ := ra.get hd
    have := y vs ((f.trans R.sub).sqL sq)
    rw [h1] at this; cases this
    exact ⟨Hf', Sub.refl _, Sub.refl _, R, h2.mono f⟩
theorem wk_tup {a : Addr} {vs : List V} {ds : List D} (sq : SqT g.K Hf a vs) (ra : RpA g Hf vs ds) : Wk g Hf (Itt g.K a) ds where
  go := fun i H e hi => by
    have hl : i < vs.length := by rw [ra.length]; exact hi
    exact ⟨vs, vs[i], e.sqT sq, List.getElem?_eq_getElem hl⟩
  stop := fun i H e hi => ⟨vs, e.sqT sq, by rw [ra.length]; omega⟩
  yld := fun i d x H H' hd y Hf' pr S σ f R => by
    obtain ⟨rfl, y⟩ := y
    obtain ⟨v, h1, h2⟩ := ra.get hd
    have := y vs ((f.trans R.sub).sqT sq)
    rw [h1] at this; cases this
    exact ⟨Hf', Sub.refl _, Sub.refl _, R, h2.mono f⟩
theorem wk_str {z : List Nat} : Wk g Hf (Its ⟨z.toArray⟩) (z.map fun c => .str [c]) where
  go := fun i H e hi => by
    show i < z.toArray.size
    simpa using hi
  stop := fun i H e hi => by
    show z.toArray.size ≤ i
    simp at hi ⊢; omega
  yld := fun i d x H H' hd y Hf' pr S σ f R => by
    obtain ⟨rfl, c, hc, rfl⟩ := y
    rw [List.getElem?_map] at hd
    obtain ⟨c', hc', rfl⟩ := Option.map_eq_some_iff.mp hd
    have hc : z[i]? = some c := by simpa using hc
    rw [hc'] at hc; cases hc
    exact ⟨Hf', Sub.refl _, Sub.refl _, R, Rp.str [c]⟩
theorem wk_rng {lo : Int} {n : Nat} : Wk g Hf (Itr lo n) (rgD lo n) where
  go := fun i H e hi => by
    show i < n
    simpa [rgD] using hi
  stop := fun i H e hi => by
    show n ≤ i
    simp [rgD] at hi; omega
  yld := fun i d x H H' hd y Hf' pr S σ f R => by
    obtain ⟨rfl, rfl⟩ := y
    simp only [rgD, List.getElem?_map] at hd
    obtain ⟨j, hj, rfl⟩ := Option.map_eq_some_iff.mp hd
    have : j = i := by
      obtain ⟨h1, h2⟩ := List.getElem?_eq_some_iff.mp hj
      rw [List.getElem_range] at h2
      exact h2.symm
    subst this
    exact ⟨Hf', Sub.refl _, Sub.refl _, R, .int _⟩
/-- one operand, then what is walked -/
theorem Ti.of {f : M D} {k : D → M (List D)} {R0 : It → Hp → Prop} (R : SRep g pr S Hf σ H) (h : match (f >>= k) S with
  | .ok ds S' => ∀ J H' Hf', Sub H H' → Sub Hf Hf' → SRep g pr S' Hf' σ H' → Wk g Hf' J ds → R0 J H'
  | .ex c fs S' => AfX g W pr c fs S' σ H Hf
  | .no => False) {P : V → Hp → Prop} (hp : ∀ v d S1 H1 Hf1, f S = .ok d S1 → Sub H H1 → Sub Hf Hf1 → SRep g pr S1 Hf1 σ H1 → Ψ H S1 σ H1 Hf1 v d → (match k d S1 with
  | .ok ds S' => ∀ J H' Hf', Sub H1 H' → Sub Hf1 Hf' → SRep g pr S' Hf' σ H' → Wk g Hf' J ds → R0 J H'
  | .ex c fs S' => AfX g W pr c fs S' σ H1 Hf1
  | .no => False) → P v H1) : Te g W Ψ f σ H P := by
  refine ⟨pr, S, Hf, R, ?_⟩
  rw [M.bind_def] at h
  cases q : f S with
  | ok d S1 =>
    rw [q] at h
    intro v H1 Hf1 a b R1 x
    refine hp v d S1 H1 Hf1 q a b R1 x ?_
    dsimp only at h
    revert h
    cases k d S1 with
    | ok ds S2 => exact fun h J H' Hf' a' b' R' w => h J H' Hf' (a.trans a') (b.trans b') R' w
    | ex c fs S2 => exact fun h => AfX.mono h a b
    | no => exact id
  | ex c fs S1 => rw [q] at h; exact h
  | no => rw [q] at h; exact h
theorem si_seq (at_ : At g W X) {f : M D} (he : PE X e (Te g W (Ps g) f)) : PI X tg e (Ti g W (iSeq f)) :=
  (PI.or (pi_list he) (PI.or (pi_tup he) (pi_str he))).imp fun σ H R0 ⟨pr, S, Hf, R, h⟩ => by
    unfold iSeq at h
    rw [at_.k]
    cases q : f S with
    | no => rw [M.bind_def, q] at h; exact h.elim
    | ex c fs S1 =>
      refine .inl ⟨pr, S, Hf, R, ?_⟩
      rw [M.bind_def, q] at h
      rw [q]; exact h
    | ok d S1 =>
      cases d with
      | lst xs =>
        refine .inl (Ti.of (Ψ := Ps g) R h fun v d S2 H1 Hf1 q2 a b R1 x h1 => ?_)
        rw [q] at q2; cases q2
        cases x with
        | lst sq ra => exact ⟨_, rfl, ⟨_, Sub.sqL R1.sub sq⟩, h1 _ _ _ (Sub.refl _) (Sub.refl _) R1 (wk_lst sq ra)⟩
      | tup xs =>
        refine .inr (.inl (Ti.of (Ψ := Ps g) R h fun v d S2 H1 Hf1 q2 a b R1 x h1 => ?_))
        rw [q] at q2; cases q2
        cases x with
        | tup sq ra => exact ⟨_, rfl, ⟨_, Sub.sqT R1.sub sq⟩, h1 _ _ _ (Sub.refl _) (Sub.refl _) R1 (wk_tup sq ra)⟩
      | str z =>
        refine .inr (.inr (Ti.of (Ψ := Ps g) R h fun v d S2 H1 Hf1 q2 a b R1 x h1 => ?_))
        rw [q] at q2; cases q2
        cases x with
        | str => exact ⟨_, rfl, h1 _ _ _ (Sub.refl _) (Sub.refl _) R1 wk_str⟩
      | _ =>
        rw [M.bind_def, q] at h
        exact h.elim
/-- a row of operands, then what is walked -/
theorem Ti.ofA {fs : List (M D)} {k : List D → Option (List D)} {R0 : It → Hp → Prop} (h : Ti g W (evs fs >>= fun ds => Mo (k ds)) σ H R0) {P : List V → Hp → Prop} (hp : ∀ pr S1 vs ds es H1 Hf1, SRep g pr S1 Hf1 σ H1 → RoA g H1 Hf1 vs ds → k ds = some es →
    (∀ J H' Hf', Sub H1 H' → Sub Hf1 Hf' → SRep g pr S1 Hf' σ H' → Wk g Hf' J es → R0 J H') → P vs H1) : Tao g W (evs fs) σ H P := by
  obtain ⟨pr, S, Hf, R, h⟩ := h
  refine ⟨pr, S, Hf, R, ?_⟩
  rw [M.bind_def] at h
  revert h
  cases evs fs S with
  | ok ds S1 =>
    intro h vs H1 Hf1 a b R1 x
    dsimp only at h
    cases q : k ds with
    | none =>
      rw [q] at h; exact h.elim
    | some es =>
      rw [q] at h
      exact hp pr S1 vs ds es H1 Hf1 R1 x q fun J H' Hf' a' b' R' w => h J H' Hf' (a.trans a') (b.trans b') R' w
  | ex c fs S1 => exact id
  | no => exact id
theorem si_rg1 {a : Expr} {f : M D} {p : Pos} (hg : Gl X "range") (hm : X.mg "range" = none) (ha : PE X a (Te g W (Po g) f)) (hs : notStar a = true) : PI X tg (.Call (.Name "range" p) [a] [] pos) (Ti g W (iRg1 f)) :=
  (pi_range1 hg hm (sao_cons ha sao_nil hs) (starEach_plain hs)).imp fun σ H R0 h => Ti.ofA h fun pr S1 vs ds es H1 Hf1 R1 x hk h1 => by
    unfold range1D at hk
    split at hk <;> simp only [Option.ite_none_right_eq_some, Option.some.injEq, reduceCtorEq] at hk
    obtain ⟨z, rfl⟩ := hk
    obtain ⟨z2, z1⟩ := smallR_of z
    obtain ⟨v, rfl, rv⟩ := x.one
    cases rv.int
    exact ⟨_, rfl, z2, z1, h1 _ _ _ (Sub.refl _) (Sub.refl _) R1 wk_rng⟩
theorem si_rg2 {a b : Expr} {f k : M D} {p : Pos} (hg : Gl X "range") (hm : X.mg "range" = none) (ha : PE X a (Te g W (Po g) f)) (hb : PE X b (Te g W (Po g) k)) (hs : notStar a = true) (hs2 : notStar b = true) : PI X tg (.Call (.Name "range" p) [a, b] [] pos) (Ti g W (iRg2 f k)) :=
  (pi_range2 hg hm (sao_cons ha (sao_cons hb sao_nil hs2) hs) ((starEach_plain hs).trans (by rw [starEach_plain hs2]; rfl)) (starEach_plain hs2)).imp fun σ H R0 h => Ti.ofA h fun pr S1 vs ds es H1 Hf1 R1 x hk h1 => by
    unfold range2D at hk
    split at hk <;> simp only [Option.ite_none_right_eq_some, Option.some.injEq, reduceCtorEq] at hk
    obtain ⟨z, rfl⟩ := hk
    rw [Bool.and_eq_true] at z
    obtain ⟨z2, z1⟩ := smallR_of z.1
    obtain ⟨z4, z3⟩ := smallR_of z.2
    obtain ⟨v, u, rfl, rv, ru⟩ := x.two
    cases rv.int; cases ru.int
    exact ⟨_, _, rfl, ⟨z2, z1, z4, z3⟩, h1 _ _ _ (Sub.refl _) (Sub.refl _) R1 wk_rng⟩
end
end MP

/-! MP13: list comprehensions. -/
namespace MP
open PySem PySem.Spec PyProof.Rows L2

/-- the slots of a block's own names -/
def wipeS (S : Sx) : List Nat → Sx
  | [] => S
  | v :: vs => (wipeS S vs).set v .un
/-- none of the slots is one of the frame's own containers -/
def noOw (S : Sx) (vs : List Nat) : Bool := vs.all fun i => match S[i]? with
  | some (.ow _) => false
  | _ => true
/-- the block's end: its own slots as they were -/
def putBack (S S' : Sx) : List Nat → Sx
  | [] => S'
  | v :: vs => (putBack S S' vs).set v ((S[v]?).getD .un)
/-- a turn: target, tests, what is taken -/
def lcTurn (p : Pt) (tt : M Bool) (te : M D) (d : D) : M (Option D) := pTg p d >>= fun _ => tt >>= fun k => if k = true then te >>= fun r => pure (some r) else pure none
def lcGo (vs : List Nat) (p : Pt) (tt : M Bool) (te : M D) : List D → Sx → Ou (List D)
  | [], S => .ok [] S
  | d :: ds, S => match lcTurn p tt te d (wipeS S vs) with
    | .ok r S1 => (match lcGo vs p tt te ds S1 with
      | .ok rs S2 => .ok (r.toList ++ rs) S2
      | _ => .no)
    | _ => .no
def lcAll (vs : List Nat) (p : Pt) (tt : M Bool) (te : M D) (ds : List D) : M D := fun S =>
  if noOw S vs && decide (ds.length < sizeLine) then (match lcGo vs p tt te ds (wipeS S vs) with
    | .ok rs S' => .ok (.lst rs) (putBack S S' vs)
    | _ => .no) else .no
def eLc (vs : List Nat) (src : M (List D)) (p : Pt) (tt : M Bool) (te : M D) : M D := src >>= lcAll vs p tt te
def tYesM : M Bool := pure true
theorem wipeS_length (S : Sx) : ∀ vs : List Nat, (wipeS S vs).length = S.length
  | [] => rfl
  | v :: vs => by unfold wipeS; rw [List.length_set, wipeS_length S vs]
theorem putBack_length (S S' : Sx) : ∀ vs : List Nat, (putBack S S' vs).length = S'.length
  | [] => rfl
  | v :: vs => by unfold putBack; rw [List.length_set, putBack_length S S' vs]
theorem wipeS_get {S : Sx} {i : Nat} {s : Sl} (hs : s ≠ .un) : ∀ {vs : List Nat}, (wipeS S vs)[i]? = some s ↔ S[i]? = some s ∧ i ∉ vs
  | [] => by simp [wipeS]
  | v :: vs => by
    unfold wipeS
    by_cases q : i = v
    · subst q
      rw [List.getElem?_set]
      simp only [if_true]
      constructor
      · intro h
        split at h
        · cases h; exact absurd rfl hs
        · cases h
      · rintro ⟨_, h⟩
        exact absurd List.mem_cons_self h
    · rw [List.getElem?_set_ne (Ne.symm q), wipeS_get hs]
      simp [q]
theorem putBack_get {S S' : Sx} {i : Nat} : ∀ {vs : List Nat}, (putBack S S' vs)[i]? = if i ∈ vs then (if i < S'.length then some ((S[i]?).getD .un) else none) else S'[i]?
  | [] => by simp [putBack]
  | v :: vs => by
    unfold putBack
    by_cases q : i = v
    · subst q
      rw [List.getElem?_set, putBack_length]
      simp
    · rw [List.getElem?_set_ne (Ne.symm q), putBack_get]
      simp [q]
theorem wipe_get_some {σ : L2.St} {vs : List Nat} {i : Nat} (h : i ∉ vs) : (wipe σ vs)[i]? = σ[i]? := by rw [wipe_get, if_neg h]
section
variable {g : G} {W : WX} {X : Cx} {pr : Addr → Prop} {S S' : Sx} {σ : L2.St} {H H1 Hf Hf1 : Hp} {Ψ : Psi} {pos : Pos} {vs : List Nat}
theorem SRep.wipe (R : SRep g pr S Hf σ H) (vs : List Nat) : SRep g pr (wipeS S vs) Hf (L2.wipe σ vs) H := by
  refine ⟨by rw [wipeS_length, wipe_length]; exact R.len, R.sub, R.priv, fun i d h => ?_, fun i d h => ?_, fun i j d e a hi hj h1 h2 => ?_⟩
  · obtain ⟨h1, h2⟩ := (wipeS_get (by intro z; cases z)).mp h
    rw [wipe_get_some h2]; exact R.va i d h1
  · obtain ⟨h1, h2⟩ := (wipeS_get (by intro z; cases z)).mp h
    rw [wipe_get_some h2]; exact R.ow i d h1
  · obtain ⟨k1, k2⟩ := (wipeS_get (by intro z; cases z)).mp hi
    obtain ⟨k3, k4⟩ := (wipeS_get (by intro z; cases z)).mp hj
    rw [wipe_get_some k2] at h1
    rw [wipe_get_some k4] at h2
    exact R.dis i j d e a k1 k3 h1 h2
/-- one more private thing -/
theorem SRep.privD (R : SRep g pr S Hf σ H) {p : Addr} (hn : Hf p = none) (ho : ∃ o, H p = some o) (hu : ∀ (i : Nat) (d : D), S[i]? = some (.ow d) → σ[i]? ≠ some (some (.ref p))) : SRep g (fun a => pr a ∨ a = p) S Hf σ H := by
  refine ⟨R.len, R.sub, fun a h => ?_, R.va, fun i d h => ?_, R.dis⟩
  · rcases h with h | rfl
    · exact R.priv a h
    · exact ⟨hn, ho⟩
  · obtain ⟨a, h1, h2, h3, h4⟩ := R.ow i d h
    refine ⟨a, h1, h2, fun z => ?_, h4⟩
    rcases z with z | rfl
    · exact h3 z
    · exact hu i d h h1
theorem SRep.lessD {p : Addr} (R : SRep g (fun a => pr a ∨ a = p) S Hf σ H) : SRep g pr S Hf σ H :=
  ⟨R.len, R.sub, fun a h => R.priv a (.inl h), R.va, fun i d h => let ⟨a, h1, h2, h3, h4⟩ := R.ow i d h; ⟨a, h1, h2, fun z => h3 (.inl z), h4⟩, R.dis⟩
/-- a private thing is changed -/
theorem SRep.updD {p : Addr} {o : HO} (R : SRep g (fun a => pr a ∨ a = p) S Hf σ H) : SRep g (fun a => pr a ∨ a = p) S Hf σ (upd H p o) := by
  obtain ⟨hn, u, hu⟩ := R.priv p (.inr rfl)
  refine ⟨R.len, fun a u h => ?_, fun a h => ?_, R.va, fun i d h => ?_, R.dis⟩
  · have q : a ≠ p := fun z => by subst z; rw [hn] at h; cases h
    rw [upd_ne q]; exact R.sub _ _ h
  · refine ⟨(R.priv a h).1, ?_⟩
    by_cases q : a = p
    · subst q; exact ⟨o, upd_same⟩
    · rw [upd_ne q]; exact (R.priv a h).2
  · obtain ⟨a, h1, h2, h3, h4⟩ := R.ow i d h
    have q : a ≠ p := fun z => h3 (.inr z)
    exact ⟨a, h1, h2, h3, h4.mono (fun u h => by rw [upd_ne q]; exact h) (Sub.refl _)⟩
/-- out of a block -/
theorem SRep.back {H0 Hf0 : Hp} (R0 : SRep g pr S Hf0 σ H0) (R : SRep g pr S' Hf (L2.wipe σ vs) H) (f : Sub Hf0 Hf) (no : noOw S vs = true) : SRep g pr (putBack S S' vs) Hf σ H := by
  have hlen : S'.length = σ.length := by rw [R.len, wipe_length]
  have nov : ∀ i ∈ vs, ∀ d, S[i]? ≠ some (.ow d) := fun i hi d e => by
    have := List.all_eq_true.mp no i hi
    rw [e] at this; cases this
  have get : ∀ {i : Nat} {s : Sl}, (putBack S S' vs)[i]? = some s → s ≠ .un → (i ∈ vs ∧ S[i]? = some s) ∨ (i ∉ vs ∧ S'[i]? = some s) := fun {i s} h hs => by
    rw [putBack_get] at h
    by_cases q : i ∈ vs
    · rw [if_pos q] at h
      split at h
      · cases e : S[i]? with
        | none => rw [e] at h; cases h; exact absurd rfl hs
        | some t => rw [e] at h; cases h; exact .inl ⟨q, rfl⟩
      · cases h
    · rw [if_neg q] at h
      exact .inr ⟨q, h⟩
  refine ⟨by rw [putBack_length]; exact hlen, R.sub, R.priv, fun i d h => ?_, fun i d h => ?_, fun i j d e a hi hj h1 h2 => ?_⟩
  · rcases get h (by intro z; cases z) with ⟨_, h⟩ | ⟨q, h⟩
    · obtain ⟨v, h1, h2⟩ := R0.va i d h
      exact ⟨v, h1, h2.mono f⟩
    · obtain ⟨v, h1, h2⟩ := R.va i d h
      rw [wipe_get_some q] at h1
      exact ⟨v, h1, h2⟩
  · rcases get h (by intro z; cases z) with ⟨q, h⟩ | ⟨q, h⟩
    · exact absurd h (nov i q d)
    · obtain ⟨a, h1, h2⟩ := R.ow i d h
      rw [wipe_get_some q] at h1
      exact ⟨a, h1, h2⟩
  · rcases get hi (by intro z; cases z) with ⟨q, hi⟩ | ⟨q, hi⟩
    · exact absurd hi (nov i q d)
    · rcases get hj (by intro z; cases z) with ⟨q', hj⟩ | ⟨q', hj⟩
      · exact absurd hj (nov j q' e)
      · rw [← wipe_get_some q] at h1
        rw [← wipe_get_some q'] at h2
        exact R.dis i j d e a hi hj h1 h2
theorem wipe_idem {σ : L2.St} {vs : List Nat} : L2.wipe (L2.wipe σ vs) vs = L2.wipe σ vs := by
  apply List.ext_getElem?
  intro k
  rw [wipe_get, wipe_get, wipe_length]
  split <;> rfl
theorem putBack_wipe {S S' : Sx} {vs : List Nat} : putBack S (wipeS S' vs) vs = putBack S S' vs := by
  apply List.ext_getElem?
  intro k
  rw [putBack_get, putBack_get, wipeS_length]
  by_cases q : k ∈ vs
  · rw [if_pos q, if_pos q]
  · rw [if_neg q, if_neg q]
    have : ∀ {vs : List Nat}, k ∉ vs → (wipeS S' vs)[k]? = S'[k]? := by
      intro vs
      induction vs with
      | nil => intro _; rfl
      | cons v vs ih =>
        intro h
        simp only [List.mem_cons, not_or] at h
        unfold wipeS
        rw [List.getElem?_set_ne (fun z => h.1 z.symm), ih h.2]
    exact this q
abbrev W0 : WX := fun _ _ _ _ => False
theorem _root_.L2.PTs.imp {X : Cx} {e : List Expr} {t t' : TT} (h : PTs X e t) (hi : ∀ σ H Q, t' σ H Q → t σ H Q) : PTs X e t' := ⟨fun pins s σ H Q I q => h.run pins s σ H Q I (hi σ H Q q)⟩
theorem sts_nil : PTs X [] (Tt g W tYesM) := pts_nil.imp fun σ H Q ⟨pr, S, Hf, R, h⟩ => h H Hf (Sub.refl _) (Sub.refl _) R
theorem sts_one {c : Expr} {t : M Bool} (h : PT X c (Tt g W t)) : PTs X [c] (Tt g W t) := pts_one h
theorem lcTurn_ok {p : Pt} {tt : M Bool} {te : M D} {d : D} {r : Option D} {S S1 : Sx} (h : lcTurn p tt te d S = .ok r S1) :
    ∃ S2 b S3, p.go d S = some S2 ∧ tt S2 = .ok b S3 ∧ ((b = true ∧ ∃ x, te S3 = .ok x S1 ∧ r = some x) ∨ (b = false ∧ S1 = S3 ∧ r = none)) := by
  unfold lcTurn at h
  rw [M.bind_def] at h
  cases hg : p.go d S with
  | none =>
    have e : pTg p d S = .no := by unfold pTg; rw [hg]
    rw [e] at h; cases h
  | some S2 =>
    have e : pTg p d S = .ok () S2 := by unfold pTg; rw [hg]
    rw [e] at h
    dsimp only at h
    rw [M.bind_def] at h
    cases ht : tt S2 with
    | no => rw [ht] at h; cases h
    | ex c fs S' => rw [ht] at h; cases h
    | ok b S3 =>
      rw [ht] at h
      dsimp only at h
      refine ⟨S2, b, S3, rfl, ht, ?_⟩
      cases b with
      | false =>
        rw [if_neg (by decide)] at h
        cases h
        exact .inr ⟨rfl, rfl, rfl⟩
      | true =>
        rw [if_pos rfl, M.bind_def] at h
        cases he : te S3 with
        | no => rw [he] at h; cases h
        | ex c fs S' => rw [he] at h; cases h
        | ok x S4 =>
          rw [he] at h
          cases h
          exact .inl ⟨rfl, x, rfl, rfl⟩
theorem lcGo_cons {p : Pt} {tt : M Bool} {te : M D} {d : D} {ds rs : List D} {S S2 : Sx} (h : lcGo vs p tt te (d :: ds) S = .ok rs S2) :
    ∃ r S1 rs', lcTurn p tt te d (wipeS S vs) = .ok r S1 ∧ lcGo vs p tt te ds S1 = .ok rs' S2 ∧ rs = r.toList ++ rs' := by
  rw [lcGo] at h
  cases q : lcTurn p tt te d (wipeS S vs) with
  | ok r S1 =>
    rw [q] at h
    dsimp only at h
    cases q' : lcGo vs p tt te ds S1 with
    | ok rs' S3 =>
      rw [q'] at h
      cases h
      exact ⟨r, S1, rs', rfl, q', rfl⟩
    | ex _ _ _ => rw [q'] at h; cases h
    | no => rw [q'] at h; cases h
  | ex _ _ _ => rw [q] at h; cases h
  | no => rw [q] at h; cases h
theorem lc_pure {wi : TI} {src : M (List D)} {p : Pt} {tt : M Bool} {te : M D} {Q : VK} (hp : ∀ i ∈ p.at, i ∈ vs) (h : Te g W (Pw g) (eLc vs src p tt te) σ H Q) :
    tLc (Ti g W src) (Gt g p) (Tt g W0 tt) (Te g W0 (Ps g) te) vs σ H Q := by
  obtain ⟨pr, S, Hf, R, h⟩ := h
  refine ⟨pr, S, Hf, R, ?_⟩
  unfold eLc at h
  rw [M.bind_def] at h
  revert h
  cases src S with
  | no => exact id
  | ex c fs S' => exact id
  | ok ds S1 =>
    intro h J H1 Hf1 a b R1 wk P hP
    dsimp only at h
    unfold lcAll at h
    split at h
    · rename_i hc
      simp only [Bool.and_eq_true, decide_eq_true_eq] at hc
      obtain ⟨no, hlen⟩ := hc
      split at h
      · rename_i rs S2 hgo
        obtain ⟨np, nf, nu⟩ := R1.new_free hP
        refine ⟨fun i m H => m = ds.length - i ∧ i ≤ ds.length ∧ ∃ S3 Hf3 acc rs1 rs2, SRep g (fun a => pr a ∨ a = P) (wipeS S3 vs) Hf3 (L2.wipe σ vs) H ∧ Sub Hf1 Hf3 ∧ Sub H1 H ∧ H P = some (.lst acc) ∧ RpA g Hf3 acc rs1 ∧
          lcGo vs p tt te (ds.drop i) S3 = .ok rs2 S2 ∧ rs1 ++ rs2 = rs ∧ rs1.length ≤ i, ⟨ds.length, by simp, Nat.zero_le _, wipeS S1 vs, Hf1, [], [], rs, ?_, Sub.refl _, Sub.upd hP, upd_same, .nil, hgo, rfl, Nat.le_refl _⟩, ?_⟩
        · have z := ((R1.growH (Sub.upd (o := .lst []) hP)).privD nf ⟨_, upd_same⟩ nu).wipe vs |>.wipe vs
          rw [wipe_idem] at z
          exact z
        · rintro i m H2 ⟨rfl, hi, S3, Hf3, acc, rs1, rs2, R3, f3, e3, hac, ra, hg3, hrs, hl⟩
          by_cases hlt : i < ds.length
          · have hd : ds.drop i = ds[i] :: ds.drop (i + 1) := List.drop_eq_getElem_cons hlt
            rw [hd] at hg3
            obtain ⟨r, S4, rs', ht, hg4, rfl⟩ := lcGo_cons hg3
            obtain ⟨S5, bb, S6, h5, h6, h7⟩ := lcTurn_ok ht
            refine .inr ⟨wk.go i H2 (f3.trans R3.sub) hlt, fun H => i + 1 ≤ ds.length ∧ ∃ S3 Hf3 acc rs1 rs2, SRep g (fun a => pr a ∨ a = P) (wipeS S3 vs) Hf3 (L2.wipe σ vs) H ∧ Sub Hf1 Hf3 ∧ Sub H1 H ∧ H P = some (.lst acc) ∧ RpA g Hf3 acc rs1 ∧
              lcGo vs p tt te (ds.drop (i + 1)) S3 = .ok rs2 S2 ∧ rs1 ++ rs2 = rs ∧ rs1.length ≤ i + 1, fun H' q => ⟨ds.length - (i + 1), by omega, rfl, q⟩, fun x H3 y => ?_⟩
            obtain ⟨Hf4, e4, f4, R4, r4⟩ := wk.yld i ds[i] x H2 H3 (by simp [hlt]) y Hf3 _ _ _ f3 R3
            refine ⟨_, _, Hf4, ds[i], S5, R4, r4, h5, fun σ5 R5 w5 => ?_⟩
            have w5 := w5 vs hp
            rw [wipe_idem] at w5
            refine ⟨w5, _, S5, Hf4, R5, ?_⟩
            rw [h6]
            intro H6 Hf6 e6 f6 R6
            rcases h7 with ⟨rfl, z, h8, rfl⟩ | ⟨rfl, rfl, rfl⟩
            · refine iteT ⟨_, S6, Hf6, R6, ?_⟩
              rw [h8]
              intro v H8 Hf8 e8 f8 R8 x8
              refine ⟨acc, e8 _ _ (e6 _ _ (e4 _ _ hac)), by rw [ra.length]; omega, hlt, S4, Hf8, acc ++ [v], rs1 ++ [z], rs', ?_, f3.trans (f4.trans (f6.trans f8)), ?_, upd_same, (ra.mono (f4.trans (f6.trans f8))).append (.cons x8 .nil), hg4, ?_, ?_⟩
              · have z := (R8.updD (o := .lst (acc ++ [v]))).wipe vs
                rw [w5] at z
                exact z
              · intro b u hb
                have q : b ≠ P := ne_of_none hb hP
                rw [upd_ne q]
                exact e8 _ _ (e6 _ _ (e4 _ _ (e3 _ _ hb)))
              · simpa using hrs
              · rw [List.length_append]; simp; omega
            · refine iteF ⟨hlt, S4, Hf6, acc, rs1, rs', ?_, f3.trans (f4.trans f6), e3.trans (e4.trans e6), e6 _ _ (e4 _ _ hac), ra.mono (f4.trans f6), hg4, by simpa using hrs, by omega⟩
              have z := R6.wipe vs
              rw [w5] at z
              exact z
          · have e : i = ds.length := by omega
            subst e
            rw [List.drop_length] at hg3
            cases hg3
            rw [List.append_nil] at hrs
            subst hrs
            refine .inl ⟨wk.stop _ H2 (f3.trans R3.sub) rfl, ?_⟩
            have R9 := SRep.back (R1.growH e3) R3.lessD f3 no
            rw [putBack_wipe] at R9
            refine h _ H2 Hf3 (a.trans e3) (b.trans f3) R9 (.inr ⟨P, rfl, a.free hP, (R3.priv P (.inr rfl)).1, .lst hac ra, fun j e hj hs => ?_⟩)
            obtain ⟨q, k1, k2, k3, k4⟩ := R9.ow j e hj
            rw [hs] at k1; cases k1
            rw [putBack_get] at hj
            by_cases hjv : j ∈ vs
            · rw [if_pos hjv] at hj
              split at hj
              · have := List.all_eq_true.mp no j hjv
                cases hsj : S1[j]? with
                | none => rw [hsj] at hj; cases hj
                | some t => rw [hsj] at hj this; cases hj; cases this
              · cases hj
            · rw [if_neg hjv] at hj
              have hj2 : (wipeS S2 vs)[j]? = some (.ow e) := (wipeS_get (by intro z; cases z)).mpr ⟨hj, hjv⟩
              obtain ⟨q, m1, m2, m3, m4⟩ := R3.ow j e hj2
              rw [wipe_get_some hjv, hs] at m1; cases m1
              exact m3 (.inr rfl)
      · exact h.elim
    · exact h.elim
theorem se_lc {elt tg iter : Expr} {ifs : List Expr} {scope : Scope} {own : List (Str × Nat)} {src : M (List D)} {p : Pt} {tt : M Bool} {te : M D} (hc : X.calm = true) (hN : X.N.Nodup) (hi : PI X tg iter (Ti g W src)) (ok : BlkOk X.N X.env.scope scope own)
    (hg : ∀ (s : Shared) (H : Hp) (C : Addr) (cl : List (Str × Addr)) (fp : List Addr), PG (X.blk s H scope (compEnvC scope cl C X.env) fp) tg (Gt g p))
    (ht : ∀ (s : Shared) (H : Hp) (C : Addr) (cl : List (Str × Addr)) (fp : List Addr), PTs (X.blk s H scope (compEnvC scope cl C X.env) fp) ifs (Tt g W0 tt))
    (he : ∀ (s : Shared) (H : Hp) (C : Addr) (cl : List (Str × Addr)) (fp : List Addr), PE (X.blk s H scope (compEnvC scope cl C X.env) fp) elt (Te g W0 (Ps g) te)) (hp : ∀ i ∈ p.at, i ∈ own.map (·.2))
    (hs : ∀ x, foldedSetIterable iter X.env x = pure x) : PE X (.ListComp elt [⟨tg, iter, ifs, 0⟩] scope pos) (Te g W (Pw g) (eLc (own.map (·.2)) src p tt te)) :=
  (pe_lc hc hN hi ok hg ht he hs).imp fun σ H Q h => lc_pure (wi := fun _ _ _ => True) hp h
end
end MP

/-! MP14: functions: what a def promises, its call, its body, the law's own call. -/
namespace MP
open PySem PySem.Spec PyProof.Rows L2

def flatD : D → Bool
  | .non => true
  | .bl _ => true
  | .int _ => true
  | .str _ => true
  | _ => false
/-- an argument: a name, another expression -/
inductive Ar where
  | nm (i : Nat) | ex (f : M D)
def arEv : List Ar → M (List (Option D))
  | [] => pure []
  | .nm i :: r => oVar i >>= fun _ => arEv r >>= fun ds => pure (none :: ds)
  | .ex f :: r => f >>= fun d => arEv r >>= fun ds => pure (some d :: ds)
def slotD (S : Sx) (i : Nat) : Option D := match S[i]? with
  | some (.va d) => some d
  | some (.ow d) => some d
  | _ => none
def arRead (S : Sx) : List Ar → List (Option D) → Option (List D)
  | [], [] => some []
  | .nm i :: r, _ :: os => match slotD S i, arRead S r os with
    | some d, some ds => some (d :: ds)
    | _, _ => none
  | .ex _ :: r, some d :: os => (arRead S r os).map (d :: ·)
  | _, _ => none
def arNm : List Ar → List Nat
  | [] => []
  | .nm i :: r => i :: arNm r
  | .ex _ :: r => arNm r
abbrev Fn := List D → Rs D
def callM (Φ : Fn) (as : List Ar) (os : List (Option D)) : M D := fun S => match arRead S as os with
  | none => .no
  | some ds => (match Φ ds with
    | .ok d => .ok d (if flatD d = true then S else frzs S (arNm as))
    | .ex c fs => .ex c fs S
    | .no => .no)
/-- f(..) -/
def eCall (Φ : Fn) (as : List Ar) : M D := arEv as >>= callM Φ as
/-- the slots at a def's entry -/
def startS (n : Nat) (ds : List D) : Sx := ds.map Sl.va ++ List.replicate (n - ds.length) .un
/-- a def's result by its body -/
def runF (n : Nat) (f : MS) (ds : List D) : Rs D := match f (startS n ds) with
  | .ok .nx _ => .ok .non
  | .ok (.rt d) _ => .ok d
  | .ok _ _ => .no
  | .ex c fs _ => .ex c fs
  | .no => .no

/-- what a def promises -/
def spOf (g : G) (Φ : Fn) : Sp := fun vs H Q E => ∃ ds Hf, Sub Hf H ∧ RpA g Hf vs ds ∧ match Φ ds with
  | .ok d => ∀ v H' Hf', Sub H H' → Sub Hf Hf' → Sub Hf' H' → (∀ a o, H a = some o → Hf a = none → Hf' a = none) → Rp g Hf' v d → Q v H'
  | .ex c fs => ∀ cls dd H', Sub H H' → ExR g H' cls dd c fs → E cls dd H'
  | .no => False
structure FnG (g : G) (mg : Str → Option Value) (base : Heap) (k : Nat) (f : Addr) (fd : FuncData) (ps : List Str) (Φ : Fn) : Prop where
  run : ∀ (A : Around) (outer : List Env) (s : Shared) (H : Hp) (args : Args) (us : List Value) (vs : List V) (Q : VK) (E : XK), Room k A → A.guards = some [] → Env0 g.P g.w g.K mg base A outer s H → BindsTo s fd args (ps.zip us) →
    Vals vs us → vs.length = ps.length → spOf g Φ vs H Q E → codeAny (model g.P g.w) A (.call (.ref f) args) (CR (CX g.P g.w) outer g.P g.w H s Q E) s
/-- the module's name x is a def of n parameters that does Φ -/
def Cl (g : G) (mg : Str → Option Value) (base : Heap) (k : Nat) (x : Str) (n : Nat) (Φ : Fn) : Prop :=
  ∃ (f : Addr) (fd : FuncData) (ps : List Str), mg x = some (.ref f) ∧ PySem.W.keepIn g.K (.ref f) = true ∧ Binds g.K fd ps [] ∧ ps.length = n ∧ FnG g mg base k f fd ps Φ
theorem Cl.mono {g : G} {mg : Str → Option Value} {base : Heap} {j k : Nat} {x : Str} {n : Nat} {Φ : Fn} (c : Cl g mg base j x n Φ) (h : j ≤ k) : Cl g mg base k x n Φ := by
  obtain ⟨f, fd, ps, h1, h2, h3, h4, F⟩ := c
  exact ⟨f, fd, ps, h1, h2, h3, h4, ⟨fun A outer s H args us vs Q E hr => F.run A outer s H args us vs Q E (hr.mono h)⟩⟩

section
variable {g : G} {W : WX} {X : Cx} {pr : Addr → Prop} {S S' : Sx} {σ : L2.St} {H H1 Hf Hf1 : Hp} {Ψ : Psi} {pos : Pos}
/-- the arguments' values -/
inductive ArR (g : G) (Hf : Hp) (σ : L2.St) : List Ar → List (Option D) → List V → Prop
  | nil : ArR g Hf σ [] [] []
  | nm {i : Nat} {o : Option D} {v : V} {r : List Ar} {os : List (Option D)} {vs : List V} : σ[i]? = some (some v) → ArR g Hf σ r os vs → ArR g Hf σ (.nm i :: r) (o :: os) (v :: vs)
  | ex {f : M D} {d : D} {v : V} {r : List Ar} {os : List (Option D)} {vs : List V} : Rp g Hf v d → ArR g Hf σ r os vs → ArR g Hf σ (.ex f :: r) (some d :: os) (v :: vs)
theorem ArR.mono (f : Sub Hf Hf1) : ∀ {as : List Ar} {os : List (Option D)} {vs : List V}, ArR g Hf σ as os vs → ArR g Hf1 σ as os vs
  | _, _, _, .nil => .nil
  | _, _, _, .nm h r => .nm h (ArR.mono f r)
  | _, _, _, .ex h r => .ex (h.mono f) (ArR.mono f r)
theorem ArR.read (R : SRep g pr S Hf σ H) {is : List Nat} : ∀ {as : List Ar} {os : List (Option D)} {vs : List V} {ds : List D}, ArR g Hf σ as os vs → (∀ i ∈ arNm as, i ∈ is) → arRead S as os = some ds → SRep g pr (frzs S is) Hf1 σ H1 → Sub Hf Hf1 → RpA g Hf1 vs ds
  | _, _, _, ds, .nil, _, h, _, _ => by
    simp only [arRead, Option.some.injEq] at h; subst h; exact .nil
  | _, _, _, ds, .nm (i := i) (os := os) (r := r) hv q, hi, h, R1, f => by
    simp only [arRead] at h
    split at h
    · rename_i d ds' h1 h2
      simp only [Option.some.injEq] at h
      subst h
      refine .cons ?_ (ArR.read R q (fun j hj => hi j (List.mem_cons_of_mem _ hj)) h2 R1 f)
      have hii : i ∈ is := hi i List.mem_cons_self
      have e : (frzs S is)[i]? = some (.va d) := by
        rw [frzs_get, if_pos hii]
        unfold slotD at h1
        split at h1
        · rename_i d' hd'
          cases h1; rw [hd']; rfl
        · rename_i d' hd'
          cases h1; rw [hd']; rfl
        · cases h1
      obtain ⟨v', k1, k2⟩ := R1.va i d e
      rw [hv] at k1; cases k1
      exact k2
    · cases h
  | _, _, _, ds, .ex (d := d) (os := os) (r := r) hv q, hi, h, R1, f => by
    simp only [arRead] at h
    obtain ⟨ds', h2, rfl⟩ := Option.map_eq_some_iff.mp h
    exact .cons (hv.mono f) (ArR.read R q hi h2 R1 f)
theorem ArR.length : ∀ {as : List Ar} {os : List (Option D)} {vs : List V}, ArR g Hf σ as os vs → vs.length = as.length
  | _, _, _, .nil => rfl
  | _, _, _, .nm _ r => by rw [List.length_cons, List.length_cons, ArR.length r]
  | _, _, _, .ex _ r => by rw [List.length_cons, List.length_cons, ArR.length r]
def Tar (g : G) (W : WX) (as : List Ar) : TA := fun σ H Q => ∃ pr S Hf, SRep g pr S Hf σ H ∧ match arEv as S with
  | .ok os S' => ∀ vs H' Hf', Sub H H' → Sub Hf Hf' → SRep g pr S' Hf' σ H' → ArR g Hf' σ as os vs → Q vs H'
  | .ex c fs S' => AfX g W pr c fs S' σ H Hf
  | .no => False
theorem sar_nil : PA X [] (Tar g W []) := pa_nil.imp fun σ H Q ⟨pr, S, Hf, R, h⟩ => h [] H Hf (Sub.refl _) (Sub.refl _) R .nil
theorem sar_nm {x : Str} {p : Pos} {es : List Expr} {i : Nat} {as : List Ar} (hN : X.N[i]? = some x) (hv : Vis X.env.scope x) (hd : (x == ("__debug__" : Str)) = false) (hcd : (x == ("__classdict__" : Str)) = false) (h2 : PA X es (Tar g W as)) : PA X (.Name x p :: es) (Tar g W (.nm i :: as)) :=
  (pa_cons (pe_var hN hv hd hcd) h2 (starEach_plain rfl)).imp fun σ H Q ⟨pr, S, Hf, R, h⟩ => by
    rw [arEv, M.bind_def] at h
    have key : ∀ d v, oVar i S = .ok d S → σ[i]? = some (some v) → tVar i σ H fun x H1 => Tar g W as σ H1 fun xs H2 => Q (x :: xs) H2 := by
      intro d v e hv
      rw [e] at h
      dsimp only at h
      refine ⟨v, hv, pr, S, Hf, R, ?_⟩
      rw [M.bind_def] at h
      revert h
      cases arEv as S with
      | ok os S2 => exact fun h vs H' Hf' a b R' x => h (v :: vs) H' Hf' a b R' (.nm hv x)
      | ex c fs S2 => exact id
      | no => exact id
    cases hi : S[i]? with
    | none =>
      have e : oVar i S = .no := by unfold oVar; rw [hi]
      rw [e] at h; exact h.elim
    | some s =>
      cases s with
      | un =>
        have e : oVar i S = .no := by unfold oVar; rw [hi]
        rw [e] at h; exact h.elim
      | va d =>
        obtain ⟨v, h1, _⟩ := R.va i d hi
        exact key d v (by unfold oVar; rw [hi]) h1
      | ow d =>
        obtain ⟨v, h1, _⟩ := R.ow i d hi
        exact key d _ (by unfold oVar; rw [hi]) h1
theorem sar_ex {e : Expr} {es : List Expr} {f : M D} {as : List Ar} (h1 : PE X e (Te g W (Ps g) f)) (h2 : PA X es (Tar g W as)) (hs : notStar e = true) : PA X (e :: es) (Tar g W (.ex f :: as)) :=
  (pa_cons h1 h2 (starEach_plain hs)).imp fun σ H Q ⟨pr, S, Hf, R, h⟩ => by
    refine ⟨pr, S, Hf, R, ?_⟩
    rw [arEv, M.bind_def] at h
    revert h
    cases f S with
    | ok d S1 =>
      intro h v H1 Hf1 a b R1 x
      refine ⟨pr, S1, Hf1, R1, ?_⟩
      dsimp only at h
      rw [M.bind_def] at h
      revert h
      cases arEv as S1 with
      | ok ds S2 => exact fun h vs H2 Hf2 a' b' R2 xs => h (v :: vs) H2 Hf2 (a.trans a') (b.trans b') R2 (.ex (x.mono b') xs)
      | ex c fs S2 => exact fun h => AfX.mono h a b
      | no => exact id
    | ex c fs S1 => exact id
    | no => exact id
theorem flat_rp {d : D} {v : V} (h : flatD d = true) (r : Rp g Hf v d) : Rp g Hf1 v d := by
  cases r <;> simp [flatD] at h
  · exact .non
  · exact .bl _
  · exact .int _
  · exact .str _
/-- the callee's promise, from what the caller wants -/
theorem call_sp {Φ : Fn} {as : List Ar} {os : List (Option D)} {vs : List V} {Q : VK} (R : SRep g pr S Hf σ H) (x : ArR g Hf σ as os vs) (h : Af g W pr (Ps g) (callM Φ as os S) σ H Hf Q) : spOf g Φ vs H Q fun cls d H' => W cls d σ H' := by
  unfold callM at h
  split at h
  · exact h.elim
  · rename_i ds hds
    obtain ⟨Hf2, f2, R2⟩ := R.frzs (arNm as)
    refine ⟨ds, Hf2, R2.sub, ArR.read R x (fun _ h => h) hds R2 f2, ?_⟩
    revert h
    cases Φ ds with
    | ok d =>
      intro h v H' Hf' a b sub new rv
      cases hf : flatD d with
      | true =>
        have h : Af g W pr (Ps g) (.ok d (if flatD d = true then S else frzs S (arNm as))) σ H Hf Q := h
        rw [hf, if_pos rfl] at h
        exact h v H' Hf a (Sub.refl _) (R.growH a) (flat_rp hf rv)
      | false =>
        have h : Af g W pr (Ps g) (.ok d (if flatD d = true then S else frzs S (arNm as))) σ H Hf Q := h
        rw [hf, if_neg (by decide)] at h
        exact h v H' Hf' a (f2.trans b) (R2.grow a b sub new) rv
    | ex c fs => exact fun h cls dd H' a x => h cls dd H' Hf a (Sub.refl _) (R.growH a) x
    | no => exact id
theorem se_call {k n : Nat} {x : Str} {Φ : Fn} {p : Pos} {e : Expr} {es : List Expr} {as : List Ar} (c : Cl g X.mg X.base k x n Φ) (a : At g W X) (hr : Room k X.A) (hgd : X.A.guards = some []) (hg : Gl X x) (ha : PA X (e :: es) (Tar g W as)) (hn : as.length = n)
    (hd : (x == ("__debug__" : Str)) = false) (hs : notStar e = true) (hs' : es.all notStar = true) : PE X (.Call (.Name x p) (e :: es) [] pos) (Te g W (Ps g) (eCall Φ as)) := by
  obtain ⟨f, fd, ps, hm, hk, hb, hl, F⟩ := c
  have hp := a.p
  have hw := a.w
  have hK := a.k
  refine ⟨fun pins s σ H Q I ⟨pr, S, Hf, R, h⟩ => ?_⟩
  refine wpAny_Call_Name_kw (ld_glob I hg hm ?_ hd)
  have h : Tar g W as σ H fun vs H1 => vs.length = as.length ∧ spOf g Φ vs H1 Q fun cls d H' => W cls d σ H' := by
    refine ⟨pr, S, Hf, R, ?_⟩
    unfold eCall at h
    rw [M.bind_def] at h
    revert h
    cases arEv as S with
    | ok os S1 => exact fun h vs H' Hf' a' b' R' x => ⟨x.length, call_sp R' x (Af.mono (H := H) (Hf := Hf) h a' b')⟩
    | ex c fs S1 => exact id
    | no => exact id
  refine PySem.W.callWith_K (h₀ := X.base) I.ok.mod.kin (by rw [hK]; exact hk) (thn (ha.run pos pins s σ H _ I h) fun us s1 ⟨vs, H1, I1, r, hl1, q⟩ => ⟨I1.kIn, ?_⟩) (starEach_plain hs) (star_any hs')
  have hvl : vs.length = ps.length := by rw [hl1, hn, hl]
  have hul : (us ++ ([] : List Value)).length = ps.length := by rw [List.append_nil, ← r.length]; exact hvl
  have e0 := I1.env0
  rw [hp, hw, hK] at e0
  have hb' : BindsTo s1 fd ⟨us, []⟩ (ps.zip us) := by
    have z := hb s1 us (by rw [← hK]; exact I1.kIn) hul
    rw [List.append_nil] at z
    exact z
  have z := F.run X.A X.stack s1 H1 ⟨us, []⟩ us vs Q _ hr hgd e0 hb' r hvl q
  rw [← hp, ← hw] at z
  refine wpAny_call (codeAny_mono z fun r s' hq => ?_)
  cases r with
  | error e => exact a.tk e s' (XE.of_call I1 (fun _ _ _ h => h) hq)
  | ok fl =>
    cases fl with
    | ret u => exact I1.after hq
    | next => exact False.elim hq
    | brk => exact False.elim hq
    | cont => exact False.elim hq
end
end MP

/-! MP15: a def keeps its promise; the law's own call. -/
namespace MP
open PySem PySem.Spec PyProof.Rows L2

section
variable {g : G} {mg : Str → Option Value} {base : Heap}
/-- the context of a body -/
abbrev bodyX (g : G) (mg : Str → Option Value) (base : Heap) (N : List Str) (qual : Str) (scope : Scope) (f : Addr) (cdv : Value) (A : Around) (outer : List Env) (s : Shared) (H : Hp) (E : XK) : Cx :=
  cxOf (CX g.P g.w) g.P g.w g.K mg base N qual scope f cdv A outer s H E
abbrev bodyW (E : XK) : WX := fun cls d _ H => E cls d H
theorem body_takes {N : List Str} {qual : Str} {scope : Scope} {f : Addr} {cdv : Value} {A : Around} {outer : List Env} {s : Shared} {H : Hp} {E : XK} : Takes (bodyX g mg base N qual scope f cdv A outer s H E) (bodyW E) :=
  takes_of rfl rfl rfl rfl
theorem body_passes {N : List Str} {qual : Str} {scope : Scope} {f : Addr} {cdv : Value} {A : Around} {outer : List Env} {s : Shared} {H : Hp} {E : XK} :
    PassesOwn (model (bodyX g mg base N qual scope f cdv A outer s H E).prog (bodyX g mg base N qual scope f cdv A outer s H E).w) (bodyX g mg base N qual scope f cdv A outer s H E).A (bodyX g mg base N qual scope f cdv A outer s H E).env (bodyX g mg base N qual scope f cdv A outer s H E).xe :=
  passes_of rfl
theorem body_at {N : List Str} {qual : Str} {scope : Scope} {f : Addr} {cdv : Value} {A : Around} {outer : List Env} {s : Shared} {H : Hp} {E : XK} {k : Nat} (hr : Room k (A.deeper (envOfC qual scope s.heap.objs.size f cdv))) : At g (bodyW E) (bodyX g mg base N qual scope f cdv A outer s H E) :=
  ⟨rfl, rfl, rfl, by have := hr.un; show (A.deeper _).units + 200 < cLine; omega, body_takes⟩
/-- a block within: nothing goes out of it -/
theorem blk_at {W : WX} {X : Cx} (a : At g W X) (s : Shared) (H : Hp) (scope : Scope) (cenv : Env) (fp : List Addr) : At g W0 (X.blk s H scope cenv fp) :=
  ⟨a.p, a.w, a.k, a.hu, fun u s' ⟨_, _, _, _, _, _, _, _, _, _, _, _, _, _, _, _, w⟩ => w.elim⟩
theorem start_get {N : List Str} {vs : List V} {i : Nat} {v : V} (h : vs[i]? = some v) : (L2.start N vs)[i]? = some (some v) := by
  unfold L2.start
  have hi : i < vs.length := (List.getElem?_eq_some_iff.mp h).1
  rw [List.getElem?_append_left (by simpa using hi), List.getElem?_map, h]; rfl
theorem startS_get {n : Nat} {ds : List D} {i : Nat} {s : Sl} (h : (startS n ds)[i]? = some s) : (∃ d, s = .va d ∧ ds[i]? = some d) ∨ s = .un := by
  unfold startS at h
  by_cases hi : i < ds.length
  · rw [List.getElem?_append_left (by simpa using hi), List.getElem?_map] at h
    obtain ⟨d, h1, h2⟩ := Option.map_eq_some_iff.mp h
    exact .inl ⟨d, h2.symm, h1⟩
  · rw [List.getElem?_append_right (by simpa using hi)] at h
    have := List.mem_of_getElem? h
    exact .inr (List.eq_of_mem_replicate this)
theorem start_rep {N : List Str} {vs : List V} {ds : List D} {H Hf : Hp} (f : Sub Hf H) (r : RpA g Hf vs ds) : SRep g (fun a => (∃ o, H a = some o) ∧ Hf a = none) (startS N.length ds) Hf (L2.start N vs) H := by
  refine ⟨?_, f, fun a h => ⟨h.2, h.1⟩, fun i d h => ?_, fun i d h => ?_, fun i j d e a hi _ _ _ => ?_⟩
  · unfold startS L2.start
    rw [List.length_append, List.length_append, List.length_map, List.length_map, List.length_replicate, List.length_replicate, r.length]
  · rcases startS_get h with ⟨d', e, hd⟩ | e
    · cases e
      obtain ⟨v, h1, h2⟩ := r.get hd
      exact ⟨v, start_get h1, h2⟩
    · cases e
  · rcases startS_get h with ⟨d', e, hd⟩ | e <;> cases e
  · rcases startS_get hi with ⟨d', e, hd⟩ | e <;> cases e
/-- the body's end meets the promise -/
theorem body_sp {N : List Str} {f : MS} {W : WX} {vs : List V} {H : Hp} {Q : VK} {E : XK} (hW : W = bodyW E) (h : spOf g (runF N.length f) vs H Q E) : Ts g W f { nx := fun _ H' => Q .non H', rt := Q } (L2.start N vs) H := by
  subst hW
  obtain ⟨ds, Hf, sub, r, h⟩ := h
  refine ⟨_, _, Hf, start_rep sub r, ?_⟩
  have keep : ∀ {H' Hf' : Hp} {S' : Sx} {σ' : L2.St}, Prv (fun a => (∃ o, H a = some o) ∧ Hf a = none) H H' → Sub Hf Hf' → SRep g (fun a => (∃ o, H a = some o) ∧ Hf a = none) S' Hf' σ' H' → Sub H H' ∧ Sub Hf' H' ∧ ∀ a o, H a = some o → Hf a = none → Hf' a = none :=
    fun {H' Hf' S' σ'} pv b R => by
      refine ⟨fun a o ho => ?_, R.sub, fun a o ho hn => (R.priv a ⟨⟨o, ho⟩, hn⟩).1⟩
      cases q : Hf a with
      | none => rw [pv a ⟨⟨o, ho⟩, q⟩]; exact ho
      | some o' =>
        have := sub _ _ q
        rw [ho] at this; cases this
        exact R.sub _ _ (b _ _ q)
  unfold runF at h
  revert h
  cases f (startS N.length ds) with
  | ok k S' =>
    cases k with
    | nx => exact fun h σ' H' Hf' pv b R => let ⟨h1, h2, h3⟩ := keep pv b R; h .non H' Hf' h1 b h2 h3 .non
    | rt d => exact fun h v σ' H' Hf' pv b R x => let ⟨h1, h2, h3⟩ := keep pv b R; h v H' Hf' h1 b h2 h3 x
    | bk => exact fun h => h.elim
    | ct => exact fun h => h.elim
  | ex c fs S' => exact fun h cls dd σ' H' Hf' pv b R x => let ⟨h1, _, _⟩ := keep pv b R; h cls dd H' h1 x
  | no => exact fun h => h.elim
/-- THE RULE: a def by its body -/
theorem fnG_of {x qual : Str} {params : Arguments} {body : List Stmt} {scope : Scope} {dvs : List V} {kws : List (Str × V)} {f : Addr} {fd : FuncData} {N ps : List Str} {k : Nat} {m : MS} (F : FunD g.K x qual params body scope dvs kws f fd) (SC : FnScope N ps scope)
    (hb : ∀ (cdv : Value) (A : Around) (outer : List Env) (s : Shared) (H : Hp) (E : XK), Room k (A.deeper (envOfC qual scope s.heap.objs.size f cdv)) → (A.deeper (envOfC qual scope s.heap.objs.size f cdv)).guards = some [] →
      PSs (bodyX g mg base N qual scope f cdv A outer s H E) body (Ts g (bodyW E) m)) : FnG g mg base (k + 1) f fd ps (runF N.length m) := by
  obtain ⟨oc, od, dV, kV, doc, pm, an, cdv, ct, osl, rfl, lk, hcd, _, _⟩ := F.ex
  refine ⟨fun A outer s H args us vs Q E hr hgd e0 bt r hl hsp => ?_⟩
  have KX : g.K.In s.heap := e0.mod.kin.keeps fun b o e => (e0.bs b o e).1
  have lim : s.heap.NoLimit := e0.mod.nolimit.keeps fun b o e => (e0.bs b o e).1
  have bound : ∀ y ∈ ps.zip us, scope.names.lookup y.1 = some .local ∨ (scope.names.lookup y.1 = some .cell ∧ ((cellsFrom (s.heap.objs.size + 1) scope.names []).lookup y.1).isSome = true) := fun ⟨nm, v⟩ hy =>
    (SC.par nm (List.of_mem_zip hy).1).imp id fun q => ⟨q, PySem.W.cellsFrom_some _ _ _ (.inl q)⟩
  refine codeAny_call_function hr.depth (KX _ _ lk) rfl SC.co SC.gen rfl (PySem.W.codeRec_of KX hcd) (bt _ _ _ _ (wpAny_newFunctionEnv_cells SC.kind bound fun env he s1 z => ?_))
  subst he
  refine ⟨lim.keeps z.toInCall.keep, codeAny_func ?_⟩
  have I0 : Inv (bodyX g mg base N qual scope f cdv A outer s H E) [] (L2.start N vs) H s1 := inv_start SC hr.hd e0 hl r z
  have ht := hb cdv A outer s H E (hr.deeper _) hgd
  refine wpAny_mono (ht.run [] s1 (L2.start N vs) H _ I0 (body_sp rfl hsp)) (fun fl s' hs => ?_) fun _ _ hs => hs
  have done : ∀ {σ' : L2.St} {H' : Hp} {v : V} {u : Value}, Inv (bodyX g mg base N qual scope f cdv A outer s H E) [] σ' H' s' → RelV v u → Q v H' → CE outer g.P g.w H s Q u s' := fun {σ' H' v u} J rv q => ⟨v, H', J.os, J.bare, J.base, J.hok, rv, q⟩
  cases fl with
  | next =>
    obtain ⟨σ', H', J, q⟩ := hs
    exact done (v := V.non) (u := Value.none) J rfl q
  | ret u =>
    obtain ⟨v, σ', H', J, rv, q⟩ := hs
    exact done J rv q
  | brk =>
    obtain ⟨_, _, _, q⟩ := hs
    exact q.elim
  | cont =>
    obtain ⟨_, _, _, q⟩ := hs
    exact q.elim
/-! ### the law's own call -/
theorem rpA_ints {H : Hp} : ∀ ns : List Int, RpA g H (ns.map V.int) (ns.map D.int)
  | [] => .nil
  | n :: ns => .cons (.int n) (rpA_ints ns)
theorem law_end {mb : Str → Option Value} {k : Nat} {fa a : Addr} {fd : FuncData} {x : Str} {Φ : Fn} {s₁ : Shared} {vs : List Value} {ns : List Int}
    (KX : g.K.In s₁.heap) (hns : s₁.heap.Ns mainGlobals mg) (hb : s₁.heap.Ns builtinsNs mb) (hbb : ∀ x : Str, x ≠ "__name__" → mb x = bootBuiltins x) (hlim : s₁.heap.NoLimit) (hg : s₁.gens = #[])
    (ha : s₁.heap.get? a = some { cls := .type "list", data := .seq vs.toArray }) (hi : IntsAre vs ns) (hl : ns.length ≤ sizeLine) (hr : Room k callerA)
    (F : ∀ base : Heap, g.K.In base → base.Ns mainGlobals mg → FnG g mg base k fa fd [x] Φ) (hbind : ∀ (s : Shared) (u : Value), BindsTo s fd ⟨[u], []⟩ [(x, u)])
    (hΦ : Φ [.lst (ns.map D.int)] = .ok (.bl true)) :
    codeAny (model g.P g.w) callerA (.call (.ref fa) ⟨[.ref a], []⟩) (fun r s' => r = .ok (.ret (.bool true)) ∧ OldK s₁.heap s'.heap ∧ s'.os = s₁.os ∧ AllBare s'.gens) s₁ := by
  have vv := vals_ints hi
  have sz := hi.length
  have main : ∀ H : Hp, Only H → SqL g.K H a (ns.map V.int) → HOk g.P g.w H s₁.heap → (∀ b, H b ≠ none → b = a) → (H a ≠ none → g.K.lookup a = none) →
      codeAny (model g.P g.w) callerA (.call (.ref fa) ⟨[.ref a], []⟩) (fun r s' => r = .ok (.ret (.bool true)) ∧ OldK s₁.heap s'.heap ∧ s'.os = s₁.os ∧ AllBare s'.gens) s₁ := by
    intro H only sq ok at_ out
    have stay : ∀ {b : Addr} {o : Obj}, s₁.heap.get? b = some o → H b = none → (hidT s₁.heap H).get? b = some o := fun e n => hidT_get e n
    have undict : ∀ {b : Addr} {o : Obj} {es : Array DictEntry} {ep : Nat}, s₁.heap.get? b = some o → o.data = .dict es ep → H b = none := fun {b o es ep} e d => by
      cases q : H b with
      | none => rfl
      | some u =>
        have z : b = a := at_ b (by rw [q]; simp)
        subst z
        rw [ha] at e; cases e
        have d2 : Data.seq vs.toArray _ = Data.dict es ep := d
        cases d2
    have nsH : ∀ {b : Addr} {m : Str → Option Value}, s₁.heap.Ns b m → (hidT s₁.heap H).Ns b m := fun {b m} ⟨o, es, ep, e, d, r⟩ => ⟨o, es, ep, stay e (undict e d), d, r⟩
    have kB : g.K.In (hidT s₁.heap H) := fun b o e => stay (KX b o e) (by
      cases q : H b with
      | none => rfl
      | some u =>
        have z : b = a := at_ b (by rw [q]; simp)
        subst z
        rw [out (by rw [q]; simp)] at e; cases e)
    have md : Mod g.K mg (hidT s₁.heap H) := ⟨kB, nsH hns, ⟨mb, nsH hb, hbb⟩, let ⟨mc, h1, h2⟩ := hlim; ⟨mc, nsH h1, h2⟩⟩
    have e0 : Env0 g.P g.w g.K mg (hidT s₁.heap H) callerA [] s₁ H := ⟨rfl, md, fun b o e => of_hidT e, Nat.le_of_eq (hidT_size _ _), trivial, fun b hb => absurd (show b ∈ ([] : List Addr) from hb) (by simp), ok, .of_eq hg⟩
    have sp : spOf g Φ [.ref a] H (fun v _ => v = .bl true) (fun _ _ _ => False) := by
      refine ⟨[.lst (ns.map D.int)], H, Sub.refl _, .cons (.lst sq (rpA_ints ns)) .nil, ?_⟩
      rw [hΦ]
      exact fun v H' Hf' _ _ _ _ r => by cases r; rfl
    refine codeAny_mono ((F _ kB (nsH hns)).run callerA [] s₁ H ⟨[.ref a], []⟩ [.ref a] [.ref a] _ _ hr rfl e0 (hbind s₁ (.ref a)) (.cons rfl .nil) rfl sp) fun r s' h => ?_
    cases r with
    | error e =>
      obtain ⟨_, _, _, _, _, _, _, _, _, _, _, _, w⟩ := h
      exact w.elim
    | ok fl =>
      cases fl with
      | next => exact h.elim
      | brk => exact h.elim
      | cont => exact h.elim
      | ret u =>
        obtain ⟨v, H', os, bare, un, ok2, r2, q⟩ := h
        have q : v = .bl true := q
        subst q
        obtain rfl : u = Value.bool true := r2
        refine ⟨rfl, OldK.of_keep fun b o e => ?_, os, bare⟩
        cases q : H b with
        | none => exact un.keep b o e q (fun z => absurd (show b ∈ ([] : List Addr) from z) (by simp)) (by simp)
        | some u =>
          rcases only b with z | ⟨ob, xs, z⟩
          · rw [q] at z; cases z
          · have z2 := un.frzs b ob _ z
            obtain ⟨e1, _⟩ := ok b _ z
            obtain ⟨e2, _⟩ := ok2 b _ z2
            rw [e] at e1; cases e1
            exact e2
  cases hk : g.K.lookup a with
  | some o =>
    have e := KX a o hk
    rw [ha] at e
    cases e
    exact main (fun _ => none) (fun _ => .inl rfl) (.inr ⟨_, vs.toArray, _, hk, rfl, rfl, rfl, by rw [List.size_toArray, sz]; exact hl, by simpa using vv⟩) (fun b u z => by have z' : (none : Option HO) = some u := z; cases z') (fun b z => absurd rfl z) fun z => absurd rfl z
  | none =>
    refine main (fun b => if b = a then some (.frz { cls := .type "list", data := .seq vs.toArray } (.lst (ns.map V.int))) else none) (fun b => ?_) (.inl (.inr ⟨{ cls := .type "list", data := .seq vs.toArray }, if_pos rfl⟩)) (fun b u z => ?_) (fun b z => ?_) fun _ => hk
    · by_cases q : b = a
      · exact .inr ⟨_, _, if_pos q⟩
      · exact .inl (if_neg q)
    · by_cases q : b = a
      · have z2 := (if_pos q).symm.trans z
        cases z2
        subst q
        exact ⟨ha, by rw [List.length_map]; exact hl, vs, _, vv, ha⟩
      · have z2 := (if_neg q).symm.trans z
        cases z2
    · by_cases q : b = a
      · exact q
      · exact absurd (if_neg q) z
theorem walk_law {l : PySem.W.OpenLaw} {n k : Nat} {q : Program} {loose : List Str} {XP : (Str → Option Value) → Heap → Prop} {YP : World → Heap → Prop} {d : DefRec} {x : Str}
    (hn : l.most = some n) (hn2 : n ≤ sizeLine) (hdf : d.params.defaults = []) (hr : Room k callerA)
    (F : ∀ (w : World) (mg : Str → Option Value) (fa : Addr) (h : Heap), YP w h → h.Ns mainGlobals mg → mg d.name = some (.ref fa) →
      ∃ (g : G) (fd : FuncData) (Φ : Fn), g.P = l.prog ∧ g.w = w ∧ g.K.In h ∧ (∀ (s : Shared) (u : Value), BindsTo s fd ⟨[u], []⟩ [(x, u)]) ∧ (∀ ns : List Int, ns.length ≤ n → Φ [.lst (ns.map D.int)] = .ok (.bl true)) ∧
        ∀ base : Heap, g.K.In base → base.Ns mainGlobals mg → FnG g mg base k fa fd [x] Φ) :
    PySem.W.WalkO q loose XP YP l.row.toRowW d [] (fun f vs => PySem.call f vs) := by
  refine Att.attach_call hn hdf fun w s₀ s₁ mg mb fa o pm cd doc a vs ns Gr Y ho hd hcd hmg hobj hints hlen hgn => ?_
  obtain ⟨g, fd, Φ, rfl', rfl'', KX, hb, hΦ, hF⟩ := F w mg fa _ Y Gr.T.g hmg
  rw [← rfl', ← rfl'']
  exact law_end KX Gr.T.g Gr.T.b Gr.T.builtins Gr.T.nolimit hgn hobj hints (Nat.le_trans hlen hn2) hr hF hb (hΦ ns hlen)
end
end MP

/-! MP16: sorted, list of a dict, isinstance, methods of texts, chains of comparisons. -/
namespace MP
open PySem PySem.Spec PyProof.Rows L2

def tyN : D → Option String
  | .non => some "NoneType"
  | .bl _ => some "bool"
  | .int _ => some "int"
  | .str _ => some "str"
  | .tup _ => some "tuple"
  | .lst _ => some "list"
  | _ => none
/-- isinstance(d, T) -/
def isiD (T : String) (d : D) : Option D := (tyN d).bind fun t => (kitB t T).map .bl
def eIsi (T : String) (f : M D) : M D := f >>= fun d => Mo (isiD T d)
def listDctB : List D → Option D
  | [.dct kvs] => some (.lst (kvs.map (·.1)))
  | _ => none
def listA (ds : List D) : Option D := (listB ds).or (listDctB ds)
def strO : D → Option Unit
  | .str _ => some ()
  | _ => none
/-- o.m(e) of a text -/
def eM1 (h : D → D → Option D) (fo fe : M D) : M D := fo >>= fun x => Mo (strO x) >>= fun _ => fe >>= fun y => Mo (h x y)
def strsD : List D → Option (List (List Nat))
  | [] => some []
  | .str x :: ds => (strsD ds).map (x :: ·)
  | _ => none
def joinD : D → D → Option D
  | .str a, .lst xs => (strsD xs).bind fun ys => if (ys.map List.length).sum + ys.length * a.length ≤ 16777216 then some (.str (TL.joinL a ys)) else none
  | .str a, .tup xs => (strsD xs).bind fun ys => if (ys.map List.length).sum + ys.length * a.length ≤ 16777216 then some (.str (TL.joinL a ys)) else none
  | _, _ => none
def countD : D → D → Option D
  | .str a, .str b => some (.int (Txt.count ⟨a.toArray⟩ ⟨b.toArray⟩))
  | _, _ => none
def splitD : D → D → Option D
  | .str a, .str b => if b.length ≠ 0 ∧ a.length + 2 ≤ sizeLine then some (.lst ((Txt.split ⟨a.toArray⟩ ⟨b.toArray⟩).map fun y => .str y.cps.toList)) else none
  | _, _ => none
section
variable {g : G} {W : WX} {X : Cx} {pr : Addr → Prop} {S S' : Sx} {σ : L2.St} {H H1 Hf Hf1 : Hp} {Ψ : Psi} {pos : Pos}
theorem EachIs.rows {P : Heap} : ∀ {vs : List V} {ds : List D} {us : List Value}, RpA g Hf vs ds → Vals vs us → PySem.W.EachIs (fun (u : Value) (d : D) => ∃ v, RelV v u ∧ Rp g Hf v d) us ds
  | _, _, _, .nil, .nil => .nil
  | _, _, _, .cons h r, .cons q t => .cons ⟨_, q, h⟩ (EachIs.rows (P := P) r t)
theorem EachIs.back : ∀ {us : List Value} {ds : List D}, PySem.W.EachIs (fun (u : Value) (d : D) => ∃ v, RelV v u ∧ Rp g Hf v d) us ds → ∃ vs, Vals vs us ∧ RpA g Hf vs ds
  | _, _, .nil => ⟨[], .nil, .nil⟩
  | _, _, .cons ⟨v, h1, h2⟩ t => by
    obtain ⟨vs, h3, h4⟩ := EachIs.back t
    exact ⟨v :: vs, .cons h1 h3, .cons h2 h4⟩
theorem pys_map : ∀ ds : List D, pys ds = ds.map py
  | [] => rfl
  | d :: ds => by rw [pys, List.map_cons, pys_map ds]
theorem fits_mem {n : Nat} : ∀ {ds : List D}, fits n ds = true → ∀ d ∈ ds, fit n d = true
  | [], _, d, hd => nomatch hd
  | e :: ds, h, d, hd => by
    have h' : fit n e = true ∧ fits n ds = true := by simpa [fits] using h
    rcases List.mem_cons.mp hd with z | z
    · rw [z]; exact h'.1
    · exact fits_mem h'.2 d z
section
variable {prog : Program} {w : World} {A : Around} {E : Value → Shared → Prop} {s : Shared}
open PySem.Spec PyProof PyProof.Rows PySem.W
/-- what collecting a tuple's items leaves -/
theorem gather_tup {l : Addr} {vs : List Value} {Q : List Value → Shared → Prop} (hl : IsTup s.heap l vs.toArray) (hz : vs.length ≤ sizeLine)
    (h : Q vs { s with heap := (s.heap.push (seqObj "list" #[] 0)).update s.heap.objs.size (Obj.mapSeq (· ++ vs.toArray)) }) : wpAny (model prog w) A (collect (.ref l)) Q E s := by
  obtain ⟨o, ho, hc, n, hd⟩ := id hl
  have hp : (s.heap.push (seqObj "list" #[] 0)).get? l = some o := Heap.get?_push_of_some _ ho
  have hq : (s.heap.push (seqObj "list" #[] 0)).get? s.heap.objs.size = some (seqObj "list" #[] 0) := Heap.get?_push_size _ rfl
  have fit : (#[] ++ vs.toArray : Array Value).size ≤ sizeLine + 1 := by
    simp only [Array.size_append, List.size_toArray, List.length_nil]
    omega
  unfold collect
  refine wpAny_bind (wpAny_runValue (codeAny_builtin entry_proto_collect' ?_))
  show wpAny _ _ (do again (.builtin "list.__iadd__" ⟨[← newList [], .ref l], []⟩)) _ _ s
  refine wpAny_bind (wpAny_newList (wpAny_pure ⟨Code.quiet_builtin _ (by decide +kernel), codeAny_builtin entry_list_iadd' ?_⟩))
  show wpAny _ _ (Builtin.List.listExtendWith (.ref s.heap.objs.size) (.ref l) (.ref s.heap.objs.size)) _ _ { s with heap := s.heap.push (seqObj "list" #[] 0) }
  unfold Builtin.List.listExtendWith
  refine wpAny_bind (wpAny_typeOf (T := "tuple") ⟨o, hp, hc⟩ ?_)
  have e1 : (Value.type "tuple" == Value.type "tuple") = true := by rfl
  rw [if_pos (by rw [e1]; simp)]
  refine wpAny_bind (listItems_at hp hd ?_)
  refine wpAny_bind (listItems_at (xs := #[]) (n := 0) hq rfl ?_)
  rw [if_neg (by simp)]
  refine wpAny_bind (listUpdate_at (xs := #[]) (n := 0) hq rfl ?_ (Nat.zero_le _) fit)
  refine wpAny_pure ?_
  show wpAny (model prog w) A (do
      let o ← load s.heap.objs.size
      match o.data with
      | .seq xs _ => pure xs.toList
      | _ => unsupported "internal:collect") Q E { s with heap := (s.heap.push (seqObj "list" #[] 0)).update s.heap.objs.size (Obj.mapSeq (· ++ vs.toArray)) }
  refine wpAny_bind (wpAny_load (get?_update_seq hq _) ?_)
  show wpAny _ _ (pure ((#[] : Array Value) ++ vs.toArray).toList) Q E _
  have e2 : ((#[] : Array Value) ++ vs.toArray).toList = vs := by simp
  rw [e2]
  exact wpAny_pure h
theorem tup_sorted {l : Addr} {vs : List Value} {Q : Value → Shared → Prop} (hl : IsTup s.heap l vs.toArray) (hL : vs.length ≤ sizeLine)
    (body : ∀ E' : Value → Shared → Prop, wpAny (model prog w) A.in1.in1 (Builtin.«list.sort» ⟨[.ref (s.heap.objs.size + 1)], []⟩) (fun f s' => f = .done (.ret .none) ∧ Q (.ref (s.heap.objs.size + 1)) s') E' { s with heap := copyHeap s.heap vs }) :
    wpAny (model prog w) A (call (.builtin "sorted") [.ref l]) Q E s := by
  refine call_function_entry_kw kind_sorted plain_sorted entry_sorted (args_sorted1 _) ?_
  unfold Builtin.«sorted»
  refine wpAny_bind (m := checkCount "sorted" 1 1 _) (wpAny_pure ?_)
  refine wpAny_bind (gather_tup hl hL ?_)
  refine wpAny_bind (wpAny_newList ?_ hL)
  have big : ((s.heap.push (seqObj "list" #[] 0)).update s.heap.objs.size (Obj.mapSeq (· ++ vs.toArray))).objs.size = s.heap.objs.size + 1 := by
    rw [Heap.size_update, size_push']
  show wpAny _ _ _ _ _ { s with heap := copyHeap s.heap vs }
  rw [big]
  refine wpAny_bind (wpAny_holding (wpAny_call_entry_kw slot_list_sort ⟨_, copyHeap_at s.heap vs, rfl⟩ entry_list_sort ?go (args_list_sort _)))
  case go =>
    show wpAny (model prog w) A.in1.in1 (Builtin.«list.sort» ⟨[.ref (s.heap.objs.size + 1)], []⟩) _ _ _
    refine wpAny_mono (body _) (fun f s' hf => ?_) fun _ _ e => e
    obtain ⟨rfl, hq⟩ := hf
    exact ⟨_, rfl, wpAny_pure ⟨_, rfl, hq⟩⟩
theorem sorted_seqs {β : Type} {vs : List Value} {bs : List β} {enc : β → PyData} {R : Value → β → Prop} {l : Addr} {Q : Value → Shared → Prop} (hl : s.heap.IsList l vs.toArray ∨ IsTup s.heap l vs.toArray) (e : EachIs R vs bs)
    (er : EachIs (fun v b => ∃ as, Reads s.heap v (enc b) as) vs bs) (hal : AllAlike (bs.map enc)) (hk : Sortable (bs.map enc)) (hL : bs.length ≤ sizeLine) (hu : ∀ b, b ∈ bs → A.units + 2 + (enc b).depth < cLine)
    (h : ∀ out, out.length = bs.length → EachIs R out (bs.mergeSort (dataLe false enc)) → Q (.ref (s.heap.objs.size + 1)) { s with heap := sortedAll s.heap vs (List.toArray out) }) : wpAny (model prog w) A (call (.builtin "sorted") [.ref l]) Q E s := by
  rcases hl with hl | hl
  · exact sorted_data hl e er hal hk hL hu h
  have hz : vs.length ≤ sizeLine := by rw [e.length]; exact hL
  have er' : EachIs (fun v b => ∃ as, Reads (sortingHeap (copyHeap s.heap vs) (s.heap.objs.size + 1) vs) v (enc b) as) vs bs := er.mono fun _ _ ⟨as, r⟩ => ⟨as, PyProof.Rows.Reads.keeps (fun _ _ => sorting_copy_old) r⟩
  have done := h _ (by rw [sortVals_length false rfl]; exact e.length) (sortVals_data false e er' hal)
  exact tup_sorted hl hz fun _ => list_sort_vals (s := { s with heap := copyHeap s.heap vs }) (copyHeap_at s.heap vs)
    (SortsAt.data (s := { s with heap := sortingHeap (copyHeap s.heap vs) (s.heap.objs.size + 1) vs }) (each_map (R := fun v d => ∃ as, Reads (sortingHeap (copyHeap s.heap vs) (s.heap.objs.size + 1) vs) v d as) enc er') hal hk (bound_map hu)) hz ⟨rfl, done⟩
end
theorem sortedB_some {us : List D} {e : D} (h : sortedB us = some e) : ∃ x, (us = [.lst x] ∨ us = [.tup x]) ∧ sortOk x = true ∧ e = .lst (x.mergeSort (PySem.W.dataLe false py)) := by
  unfold sortedB at h
  split at h
  · rename_i x
    simp only [Option.ite_none_right_eq_some, Option.some.injEq] at h
    exact ⟨x, .inl rfl, h.1, h.2.symm⟩
  · rename_i x
    simp only [Option.ite_none_right_eq_some, Option.some.injEq] at h
    exact ⟨x, .inr rfl, h.1, h.2.symm⟩
  · cases h
theorem cal_sorted (a : At g W X) : CalD g W X (.builtin "sorted") sortedB := fun pins s σ0 H xs us Q I rv ⟨σ, pr, S, Hf, ds, R, ra, h⟩ => by
  obtain ⟨e, he, h'⟩ := Mo_af h
  clear h
  obtain ⟨x, hx, hk, rfl⟩ := sortedB_some he
  have shape : ∃ (p : Addr) (vs : List V) (its : List Value), xs = [.ref p] ∧ Vals vs its ∧ (s.heap.IsList p its.toArray ∨ IsTup s.heap p its.toArray) ∧ RpA g Hf vs x := by
    rcases hx with rfl | rfl
    · obtain ⟨v, rfl, rx⟩ := ra.one
      obtain ⟨p, vs, rfl, sq, rp⟩ := rx.list R.sub
      rw [← a.k] at sq
      obtain ⟨its, r1, pl, hz⟩ := I.list sq
      exact ⟨p, vs, its, rfl, r1, .inl pl.isList, rp⟩
    · obtain ⟨v, rfl, rx⟩ := ra.one
      obtain ⟨p, vs, rfl, _, sq, rp⟩ := rx.tuple R.sub
      rw [← a.k] at sq
      obtain ⟨its, r1, pl, hz⟩ := I.tuple sq
      exact ⟨p, vs, its, rfl, r1, .inr pl, rp⟩
  obtain ⟨p, vs, its, rfl, r1, pl, rp⟩ := shape
  rw [Vals.ref1 rv]
  simp only [sortOk, Bool.and_eq_true, Bool.or_eq_true, decide_eq_true_eq, List.all_eq_true] at hk
  obtain ⟨⟨⟨hf, hl⟩, hal⟩, hs⟩ := hk
  have hu := a.hu
  refine sorted_seqs (R := fun (u : Value) (d : D) => ∃ v, RelV v u ∧ Rp g Hf v d) (enc := py) (bs := x) pl (EachIs.rows (P := s.heap) rp r1) ?_ ?_ ?_ hl ?_ fun out ho eo => ?_
  · have key : ∀ {vs : List V} {ds : List D} {us : List Value}, RpA g Hf vs ds → Vals vs us → fits 60 ds = true → PySem.W.EachIs (fun v b => ∃ as, Reads s.heap v (py b) as) us ds := by
      intro vs ds us r q
      induction q generalizing ds with
      | nil => intro _; cases r; exact .nil
      | cons q t ih =>
        intro hf
        cases r with
        | cons h r =>
          rename_i d ds
          have hf' : fit 60 d = true ∧ fits 60 ds = true := by simpa [fits] using hf
          obtain ⟨as, rd⟩ := a.dpR I hf'.1 (h.mono R.sub) q
          exact .cons ⟨as, rd⟩ (ih r hf'.2)
    exact key rp r1 hf
  · intro d hd d' hd'
    rw [← pys_map] at hd hd'
    exact hal d hd d' hd'
  · rcases hs with hs | hs
    · refine .inl fun d hd => ?_
      obtain ⟨b, hb, rfl⟩ := List.mem_map.mp hd
      have := hs b hb
      split at this
      · rename_i y ys
        exact ⟨py y, pys ys, by simp only [py, pys]⟩
      · cases this
    · refine .inr fun d hd => ?_
      obtain ⟨b, hb, rfl⟩ := List.mem_map.mp hd
      have h2 := hs b hb
      have h3 := fits_mem hf b hb
      cases b with
      | non => cases h2
      | tup _ => cases h2
      | dct _ => simp [fit] at h3
      | ins _ _ => simp [fit] at h3
      | bl _ => exact ⟨by simp only [py]; exact fun z => (nomatch z), fun xs z => by simp only [py] at z; cases z⟩
      | int _ => exact ⟨by simp only [py]; exact fun z => (nomatch z), fun xs z => by simp only [py] at z; cases z⟩
      | str _ => exact ⟨by simp only [py]; exact fun z => (nomatch z), fun xs z => by simp only [py] at z; cases z⟩
      | lst _ => exact ⟨by simp only [py]; exact fun z => (nomatch z), fun xs z => by simp only [py] at z; cases z⟩
  · intro b hb
    have := (plain_py (fits_mem hf b hb)).2
    omega
  · obtain ⟨ws, k1, k2⟩ := EachIs.back eo
    obtain ⟨ep, he'⟩ := PyProof.Rows.sortedAll_at s.heap its out.toArray
    have hlen : ws.length ≤ sizeLine := by rw [k2.length, List.length_mergeSort]; exact hl
    have hn : H (s.heap.objs.size + 1) = none := I.hok.fresh (Nat.le_succ _)
    exact ⟨.ref _, upd H (s.heap.objs.size + 1) (.lst ws), I.laid (t' := s.toks) (fun _ _ => PyProof.Rows.sortedAll_old) (Nat.le_succ _) ⟨hlen, out, ep, k1, he'⟩, rfl, lstK R h' k2 hn⟩
theorem rpE_keys : ∀ {es : List DictEntry} {kvs : List (D × D)}, RpE g H es kvs → ∃ vs, Vals vs (es.map (·.key)) ∧ RpA g H vs (kvs.map (·.1))
  | _, _, .nil => ⟨[], .nil, .nil⟩
  | _, _, .cons h1 h2 h3 h4 h5 h6 h7 r => by
    obtain ⟨vs, k1, k2⟩ := rpE_keys r
    exact ⟨_ :: vs, .cons h4 k1, .cons h5 k2⟩
theorem rpE_length : ∀ {es : List DictEntry} {kvs : List (D × D)}, RpE g H es kvs → es.length = kvs.length
  | _, _, .nil => rfl
  | _, _, .cons h1 h2 h3 h4 h5 h6 h7 r => by rw [List.length_cons, List.length_cons, rpE_length r]
theorem cal_listDct (a : At g W X) (hc : X.calm = true) : CalD g W X (.type "list") listDctB := fun pins s σ0 H xs us Q I rv ⟨σ, pr, S, Hf, ds, R, ra, h⟩ => by
  obtain ⟨e, he, h'⟩ := Mo_af h
  clear h
  unfold listDctB at he
  split at he <;> simp only [Option.some.injEq, reduceCtorEq] at he
  rename_i kvs
  subst he
  obtain ⟨v, rfl, rx⟩ := ra.one
  obtain ⟨p, es, rfl, hp, hz, rpe, dk⟩ := rx.dict R.sub
  rw [Vals.ref1 rv]
  obtain ⟨⟨hs, o, ea, ep, h1, h2, h3, h4⟩, _⟩ := (show ObjOk X.prog X.w H s.heap p (DctO p es) from I.hok p _ hp)
  have hl := rpE_length rpe
  have hsz : ea.size = kvs.length := by rw [← hl, ← h4]; simp
  refine PySem.W.kdl_call (KdlSrc.rawDict (es := ea) (ep := ep) hs) (I.ok.hd hc) ⟨o, h1, h2, h3⟩ (by rw [hsz]; exact hz) fun hh tk acc c' hk hD hacc => ?_
  obtain ⟨vs, k1, k2⟩ := rpE_keys rpe
  have hv : acc.toList = es.map (·.key) := by
    apply List.ext_getElem?
    intro j
    rw [Array.getElem?_toList, List.getElem?_map, ← h4, Array.getElem?_toList]
    cases q : acc[j]? with
    | some v =>
      obtain ⟨hi, e⟩ := hacc.2 j v q
      rw [Array.getElem?_eq_getElem hi, e]; rfl
    | none =>
      have : ¬ j < acc.size := fun z => by rw [Array.getElem?_eq_getElem z] at q; cases q
      have hj : ¬ j < ea.size := by rw [← hacc.1]; exact this
      rw [Array.getElem?_eq_none (by omega)]; rfl
  have hn : H s.heap.objs.size = none := I.hok.fresh (Nat.le_refl _)
  have hvl : vs.length ≤ sizeLine := by rw [k2.length, List.length_map]; exact hz
  exact ⟨.ref s.heap.objs.size, upd H s.heap.objs.size (.lst vs), I.laid (t' := tk) hk (Nat.le_refl _) ⟨hvl, acc.toList, c', by rw [hv]; exact k1, by rw [Array.toArray_toList]; exact hD⟩, rfl, lstK R h' k2 hn⟩
theorem CalD.or {f : Value} {h h' : List D → Option D} (a : CalD g W X f h) (b : CalD g W X f h') : CalD g W X f (fun ds => (h ds).or (h' ds)) := fun pins s σ0 H xs us Q I rv ⟨σ, pr, S, Hf, ds, R, ra, k⟩ => by
  cases q : h ds with
  | some e =>
    refine a pins s σ0 H xs us Q I rv ⟨σ, pr, S, Hf, ds, R, ra, ?_⟩
    show Af g W pr (Pw g) (Mo (h ds) S) σ H Hf Q
    have k : Af g W pr (Pw g) (Mo ((h ds).or (h' ds)) S) σ H Hf Q := k
    rw [q] at k ⊢; exact k
  | none =>
    refine b pins s σ0 H xs us Q I rv ⟨σ, pr, S, Hf, ds, R, ra, ?_⟩
    show Af g W pr (Pw g) (Mo (h' ds) S) σ H Hf Q
    have k : Af g W pr (Pw g) (Mo ((h ds).or (h' ds)) S) σ H Hf Q := k
    rw [q] at k; exact k
theorem cal_listA (a : At g W X) (hc : X.calm = true) : CalD g W X (.type "list") listA := (cal_list a).or (cal_listDct a hc)
/-- isinstance -/
theorem se_isi (a : At g W X) {T : String} {x : Str} {e : Expr} {f : M D} {p q : Pos} (hg : Gl X "isinstance") (hm : X.mg "isinstance" = none) (hgT : Gl X x) (hmT : X.mg x = none) (hvT : bootBuiltins x = some (.type T)) (hn : x ≠ "__name__") (hd : (x == ("__debug__" : Str)) = false)
    (he : PE X e (Te g W (Po g) f)) (hs : notStar e = true) : PE X (.Call (.Name "isinstance" p) [e, .Name x q] [] pos) (Te g W (Pw g) (eIsi T f)) :=
  (pe_callB call_isi hg hm (by rfl) (pa_cons he (pa_cons (pe_bltn hgT hmT hvT (v := .ty T) rfl hn hd) pa_nil (starEach_plain rfl)) (starEach_plain hs)) (by decide) (by decide) (starEach_plain hs) (by rw [starEach_plain rfl]; rfl)).imp fun σ H Q ⟨pr, S, Hf, R, h⟩ =>
    (op1 R h).weak fun v H1 ⟨S1, Hf1, d, e1, e2, R1, rx, h⟩ => by
      obtain ⟨r, hr, h⟩ := Mo_af h
      unfold isiD at hr
      obtain ⟨t, ht, hr⟩ := Option.bind_eq_some_iff.mp hr
      obtain ⟨b, hb, rfl⟩ := Option.map_eq_some_iff.mp hr
      refine ⟨v, .ty T, .type t, .type T, b, rfl, .ty T, ?_, kit_ty hb, Af.done h R1 (.inl ⟨rfl, .bl _⟩)⟩
      cases d <;> simp only [tyN, Option.some.injEq, reduceCtorEq] at ht <;> subst ht
      · cases rx.non; exact .base .non
      · cases rx.bl; exact .base (.bl _)
      · cases rx.int; exact .base (.int _)
      · cases rx.str; exact .base (.str _)
      · obtain ⟨p, vs, rfl, _, sq, _⟩ := rx.tuple R1.sub
        rw [← a.k] at sq
        rcases sq with (sq | ⟨o, sq⟩) | ⟨o, _, _, e, c, _⟩
        · exact .base (.tup sq)
        · exact .fTuple sq
        · exact .kTuple e c
      · obtain ⟨p, vs, rfl, sq, _⟩ := rx.list R1.sub
        rw [← a.k] at sq
        rcases sq with (sq | ⟨o, sq⟩) | ⟨o, _, _, e, c, _⟩
        · exact .base (.lst sq)
        · exact .base (.frz sq)
        · exact .kList e c
/-! ### methods of texts -/
def rM1 (g : G) (W : WX) (h : D → D → Option D) : V → List V → Hp → VK → Prop := fun x xs H Q => ∃ y σ pr S Hf d e, xs = [y] ∧ SRep g pr S Hf σ H ∧ Ro g H Hf x d ∧ Ro g H Hf y e ∧ Af g W pr (Pw g) (Mo (h d e) S) σ H Hf Q
theorem se_m1 {id : String} {name : Str} {o e : Expr} {fo fe : M D} {h : D → D → Option D} {apos : Pos} (slot : Slot "str" name id) (ty : typeOf (.builtin id) = pure (.type "method_descriptor")) (rule : MtR X id (rM1 g W h)) (ho : PE X o (Te g W (Po g) fo)) (he : PE X e (Te g W (Po g) fe)) (hs : notStar e = true)
    (hbase : attributeBase o name X.env (eval o X.env) = eval o X.env) (hline : (apos.endLine == pos.line) = true) : PE X (.Call (.Attribute o name apos) [e] [] pos) (Te g W (Pw g) (eM1 h fo fe)) :=
  (pe_m1 slot ty rule ho he (starEach_plain hs) hbase hline).imp fun σ H Q ⟨pr, S, Hf, R, q⟩ => (op1 R q).weak fun v H1 ⟨S1, Hf1, d, e1, e2, R1, rx, q⟩ => by
    obtain ⟨_, hd, q⟩ := Mo_bind_af q
    cases d <;> simp only [strO, reduceCtorEq] at hd
    refine ⟨⟨_, rx.str⟩, (op1 R1 q).weak fun u H2 ⟨S2, Hf2, e', e3, e4, R2, ry, q2⟩ => ⟨u, σ, pr, S2, Hf2, _, e', rfl, R2, rx.mono e3 e4, ry, q2⟩⟩
theorem RpA.strs {H : Hp} : ∀ {vs : List V} {ds : List D} {ys : List (List Nat)}, RpA g H vs ds → strsD ds = some ys → vs = ys.map fun y => V.str ⟨y.toArray⟩
  | _, _, _, .nil, h => by simp only [strsD, Option.some.injEq] at h; subst h; rfl
  | _, _, ys, .cons (d := d) (ds := ds) h r, e => by
    cases d <;> simp only [strsD, reduceCtorEq] at e
    obtain ⟨ys', h2, rfl⟩ := Option.map_eq_some_iff.mp e
    cases h
    rw [RpA.strs r h2]; rfl
theorem join_mk (a : List Nat) (ys : List (List Nat)) : Txt.join ⟨a.toArray⟩ (ys.map fun y => (⟨y.toArray⟩ : Str)) = ⟨(TL.joinL a ys).toArray⟩ := by
  have h := TL.tl_join ⟨a.toArray⟩ (ys.map fun y => (⟨y.toArray⟩ : Str))
  have e : (ys.map fun y => (⟨y.toArray⟩ : Str)).map TL.tl = ys := by
    rw [List.map_map]
    have : (TL.tl ∘ fun y : List Nat => (⟨y.toArray⟩ : Str)) = id := by funext y; simp [TL.tl]
    rw [this, List.map_id]
  rw [e] at h
  have h2 : TL.tl (⟨a.toArray⟩ : Str) = a := by simp [TL.tl]
  rw [h2] at h
  rw [TL.join_eq, ← h]
theorem rm_join (at_ : At g W X) : MtR X "str.join" (rM1 g W joinD) := fun pins s σ0 H x xs v us Q I rx rxs ⟨y, σ, pr, S, Hf, d, e, hxs, R, rd, re, h⟩ => by
  obtain ⟨r, hr, h⟩ := Mo_af h
  refine mt_join pins s σ0 H x xs v us Q I rx rxs ?_
  unfold joinD at hr
  split at hr
  · obtain ⟨ys, hy, hr⟩ := Option.bind_eq_some_iff.mp hr
    simp only [Option.ite_none_right_eq_some, Option.some.injEq] at hr
    obtain ⟨hz, rfl⟩ := hr
    cases rd.str
    obtain ⟨p, vs, rfl, sq, ra⟩ := re.list R.sub
    rw [← at_.k, ra.strs hy] at sq
    refine ⟨_, p, ys.map fun y => ⟨y.toArray⟩, rfl, hxs, .inl (by rw [List.map_map]; exact sq), ?_, ?_⟩
    · rw [List.map_map, List.length_map]
      have : (Str.length ∘ fun y : List Nat => (⟨y.toArray⟩ : Str)) = List.length := by funext y; exact Str.mk_length y
      show (ys.map (Str.length ∘ fun y : List Nat => (⟨y.toArray⟩ : Str))).sum + _ ≤ _
      rw [this, Str.mk_length]
      exact hz
    · rw [join_mk]
      exact flatK R h (.str _) rfl
  · obtain ⟨ys, hy, hr⟩ := Option.bind_eq_some_iff.mp hr
    simp only [Option.ite_none_right_eq_some, Option.some.injEq] at hr
    obtain ⟨hz, rfl⟩ := hr
    cases rd.str
    obtain ⟨p, vs, rfl, _, sq, ra⟩ := re.tuple R.sub
    rw [← at_.k, ra.strs hy] at sq
    refine ⟨_, p, ys.map fun y => ⟨y.toArray⟩, rfl, hxs, .inr (by rw [List.map_map]; exact sq), ?_, ?_⟩
    · rw [List.map_map, List.length_map]
      have : (Str.length ∘ fun y : List Nat => (⟨y.toArray⟩ : Str)) = List.length := by funext y; exact Str.mk_length y
      show (ys.map (Str.length ∘ fun y : List Nat => (⟨y.toArray⟩ : Str))).sum + _ ≤ _
      rw [this, Str.mk_length]
      exact hz
    · rw [join_mk]
      exact flatK R h (.str _) rfl
  · cases hr
theorem rm_count : MtR X "str.count" (rM1 g W countD) := fun pins s σ0 H x xs v us Q I rx rxs ⟨y, σ, pr, S, Hf, d, e, hxs, R, rd, re, h⟩ => by
  obtain ⟨r, hr, h⟩ := Mo_af h
  refine mt_count pins s σ0 H x xs v us Q I rx rxs ?_
  unfold countD at hr
  split at hr <;> simp only [Option.some.injEq, reduceCtorEq] at hr
  subst hr
  cases rd.str
  cases re.str
  exact ⟨_, _, rfl, hxs, flatK R h (.int _) rfl⟩
theorem rpA_strs {H : Hp} : ∀ ys : List Str, RpA g H (ys.map V.str) (ys.map fun y => .str y.cps.toList)
  | [] => .nil
  | y :: ys => .cons (.str' y) (rpA_strs ys)
theorem rm_split : MtR X "str.split" (rM1 g W splitD) := fun pins s σ0 H x xs v us Q I rx rxs ⟨y, σ, pr, S, Hf, d, e, hxs, R, rd, re, h⟩ => by
  obtain ⟨r, hr, h⟩ := Mo_af h
  refine mt_split pins s σ0 H x xs v us Q I rx rxs ?_
  unfold splitD at hr
  split at hr <;> simp only [Option.ite_none_right_eq_some, Option.some.injEq, reduceCtorEq] at hr
  obtain ⟨⟨h1, h2⟩, rfl⟩ := hr
  cases rd.str
  cases re.str
  refine ⟨_, _, rfl, hxs, ?_, by rw [Str.mk_length]; exact h2, fun p hp => lstK R h (rpA_strs _) hp⟩
  rw [Str.mk_length]
  exact beq_eq_false_iff_ne.mpr h1
theorem se_join (a : At g W X) {o e : Expr} {fo fe : M D} {apos : Pos} (ho : PE X o (Te g W (Po g) fo)) (he : PE X e (Te g W (Po g) fe)) (hs : notStar e = true) (hbase : attributeBase o "join" X.env (eval o X.env) = eval o X.env) (hline : (apos.endLine == pos.line) = true) :
    PE X (.Call (.Attribute o "join" apos) [e] [] pos) (Te g W (Pw g) (eM1 joinD fo fe)) := se_m1 PySem.F.slot_str_join PySem.F.type_str_join (rm_join a) ho he hs hbase hline
theorem se_count {o e : Expr} {fo fe : M D} {apos : Pos} (ho : PE X o (Te g W (Po g) fo)) (he : PE X e (Te g W (Po g) fe)) (hs : notStar e = true) (hbase : attributeBase o "count" X.env (eval o X.env) = eval o X.env) (hline : (apos.endLine == pos.line) = true) :
    PE X (.Call (.Attribute o "count" apos) [e] [] pos) (Te g W (Pw g) (eM1 countD fo fe)) := se_m1 PySem.F.slot_str_count PySem.F.type_str_count rm_count ho he hs hbase hline
theorem se_split {o e : Expr} {fo fe : M D} {apos : Pos} (ho : PE X o (Te g W (Po g) fo)) (he : PE X e (Te g W (Po g) fe)) (hs : notStar e = true) (hbase : attributeBase o "split" X.env (eval o X.env) = eval o X.env) (hline : (apos.endLine == pos.line) = true) :
    PE X (.Call (.Attribute o "split" apos) [e] [] pos) (Te g W (Pw g) (eM1 splitD fo fe)) := se_m1 PySem.F.slot_str_split PySem.F.type_str_split rm_split ho he hs hbase hline
end
end MP

/-! MP17: chains of comparisons. -/
namespace MP
open PySem PySem.Spec PyProof.Rows L2

abbrev Lk := (D → D → Option D) × M D
def chM : D → List Lk → M D
  | _, [] => fun _ => .no
  | x, [l] => l.2 >>= fun y => Mo (l.1 x y)
  | x, l :: l' :: r => l.2 >>= fun y => Mo ((l.1 x y).bind blOf) >>= fun k => if k = true then chM y (l' :: r) else pure (.bl false)
/-- a op b op c .. -/
def eCh (fa : M D) (ls : List Lk) : M D := fa >>= fun x => chM x ls
def tCh (fa : M D) (ls : List Lk) : M Bool := eCh fa ls >>= fun x => Mo (blOf x)
section
variable {g : G} {W : WX} {X : Cx} {pr : Addr → Prop} {S S' : Sx} {σ : L2.St} {H H1 Hf Hf1 : Hp} {Ψ : Psi} {pos : Pos}
structure ChP (g : G) (W : WX) (X : Cx) (ops : List CmpOp) (rs : List Expr) (ls : List Lk) : Prop where
  val : ∀ (pos : Pos) (pins : List (Addr × Obj)) (s : Shared) (σ : L2.St) (H : Hp) (x : V) (v : Value) (Q : VK) (pr : Addr → Prop) (S : Sx) (Hf : Hp) (d : D), Inv X pins σ H s → RelV x v → SRep g pr S Hf σ H → Ro g H Hf x d → Af g W pr (Pw g) (chM d ls S) σ H Hf Q →
    wpAny (model X.prog X.w) X.A (compareChain pos v ops (evalEach rs X.env)) (EP X pins σ Q) X.xe s
  tst : ∀ (pos : Pos) (pins : List (Addr × Obj)) (s : Shared) (σ : L2.St) (H : Hp) (x : V) (v : Value) (Q : Bool → Hp → Prop) (pr : Addr → Prop) (S : Sx) (Hf : Hp) (d : D), Inv X pins σ H s → RelV x v → SRep g pr S Hf σ H → Ro g H Hf x d → Af g W pr (Pw g) (chM d ls S) σ H Hf (fun z H' => ∃ k, z = .bl k ∧ Q k H') →
    wpAny (model X.prog X.w) X.A (testChain pos v ops (evalEach rs X.env)) (TP X pins σ Q) X.xe s
/-- from a value's end to a test's -/
theorem aft_af {o : M D} {Q : Bool → Hp → Prop} (h : AfT g W pr ((o >>= fun x => Mo (blOf x)) S) σ H Hf Q) : Af g W pr (Pw g) (o S) σ H Hf (fun z H' => ∃ k, z = .bl k ∧ Q k H') := by
  rw [M.bind_def] at h
  revert h
  cases o S with
  | ok d S' =>
    intro h v H' Hf' a b R' x
    have h : AfT g W pr (Mo (blOf d) S') σ H Hf Q := h
    obtain ⟨r, hr, q⟩ := Mo_aft (AfT.mono h a b) R'
    cases d <;> simp only [blOf, Option.some.injEq, reduceCtorEq] at hr
    subst hr
    rcases x with ⟨_, x⟩ | ⟨p, rfl, _, _, c, _⟩
    · cases x; exact ⟨_, rfl, q⟩
    · cases c
  | ex c fs S' => exact id
  | no => exact id
theorem ch_one {op : CmpOp} {e : Expr} {h : D → D → Option D} {f : M D} (o : Op2 g X (compareOp op) (Pw g) h) (he : PE X e (Te g W (Po g) f)) : ChP g W X [op] [e] [(h, f)] := by
  have main : ∀ (pins : List (Addr × Obj)) (s : Shared) (σ : L2.St) (H : Hp) (x : V) (v : Value) (Q : VK) (pr : Addr → Prop) (S : Sx) (Hf : Hp) (d : D), Inv X pins σ H s → RelV x v → SRep g pr S Hf σ H → Ro g H Hf x d → Af g W pr (Pw g) (chM d [(h, f)] S) σ H Hf Q →
      wpAny (model X.prog X.w) X.A (eval e X.env) (fun b s₁ => wpAny (model X.prog X.w) X.A (compareOp op v b) (EP X pins σ Q) X.xe s₁) X.xe s := by
    intro pins s σ H x v Q pr S Hf d I rv R rx k
    refine thn (he.run pins s σ H _ I (op1 R k)) fun u s1 ⟨y, H1, I1, r1, S1, Hf1, d1, e1, e2, R1, ry, k1⟩ => ?_
    obtain ⟨r, hr, k2⟩ := Mo_af k1
    exact o pins s1 σ H1 x y v u Q σ pr S1 Hf1 d d1 r I1 rv r1 R1 (rx.mono e1 e2) ry hr k2
  refine ⟨fun pos pins s σ H x v Q pr S Hf d I rv R rx k => chain_last (main pins s σ H x v Q pr S Hf d I rv R rx k), fun pos pins s σ H x v Q pr S Hf d I rv R rx k => test_last (thn (main pins s σ H x v _ pr S Hf d I rv R rx k) fun u s1 q => thn q fun c s2 ⟨z, H2, I2, r2, b, e, q2⟩ => ?_)⟩
  subst e
  cases r2
  exact wpAny_truthy_bool ⟨H2, I2, q2⟩
theorem ch_more {op op' : CmpOp} {ops : List CmpOp} {e e' : Expr} {es : List Expr} {h : D → D → Option D} {f : M D} {l : Lk} {ls : List Lk} (o : Op2 g X (compareOp op) (Pw g) h) (he : PE X e (Te g W (Po g) f)) (c : ChP g W X (op' :: ops) (e' :: es) (l :: ls)) :
    ChP g W X (op :: op' :: ops) (e :: e' :: es) ((h, f) :: l :: ls) := by
  refine ⟨fun pos pins s σ H x v Q pr S Hf d I rv R rx k => ?_, fun pos pins s σ H x v Q pr S Hf d I rv R rx k => ?_⟩
  · refine chain_link (thn (he.run pins s σ H _ I (op1 R k)) fun u s1 ⟨y, H1, I1, r1, S1, Hf1, d1, e1, e2, R1, ry, k1⟩ => ?_)
    obtain ⟨kb, hk, k2⟩ := Mo_bind_af k1
    obtain ⟨r, hr, hb⟩ := Option.bind_eq_some_iff.mp hk
    cases r <;> simp only [blOf, Option.some.injEq, reduceCtorEq] at hb
    subst hb
    rename_i b
    refine thn (o pins s1 σ H1 x y v u (fun z H' => z = .bl b ∧ ∃ Hf', Sub H1 H' ∧ Sub Hf1 Hf' ∧ SRep g pr S1 Hf' σ H') σ pr S1 Hf1 d d1 _ I1 rv r1 R1 (rx.mono e1 e2) ry hr fun w H' Hf' a' b' R' xx => ?_) fun c s2 ⟨z, H2, I2, r2, ez, Hf2, a2, b2, R2⟩ => ?_
    · rcases xx with ⟨_, xx⟩ | ⟨p, rfl, _, _, cc, _⟩
      · cases xx; exact ⟨rfl, Hf', a', b', R'⟩
      · cases cc
    · subst ez
      cases r2
      refine wpAny_truthy_bool ?_
      have k3 := Af.mono k2 a2 b2
      cases b with
      | true => exact iteT (c.val pos pins s2 σ H2 y u Q pr S1 Hf2 d1 I2 r1 R2 (ry.mono a2 b2) k3)
      | false => exact iteF ⟨.bl false, H2, I2, rfl, Af.done k3 R2 (.inl ⟨rfl, .bl false⟩)⟩
  · refine test_link (thn (he.run pins s σ H _ I (op1 (Ψ := Pw g) R k)) fun u s1 ⟨y, H1, I1, r1, S1, Hf1, d1, e1, e2, R1, ry, k1⟩ => ?_)
    obtain ⟨kb, hk, k2⟩ := Mo_bind_af k1
    obtain ⟨r, hr, hb⟩ := Option.bind_eq_some_iff.mp hk
    cases r <;> simp only [blOf, Option.some.injEq, reduceCtorEq] at hb
    subst hb
    rename_i b
    refine thn (o pins s1 σ H1 x y v u (fun z H' => z = .bl b ∧ ∃ Hf', Sub H1 H' ∧ Sub Hf1 Hf' ∧ SRep g pr S1 Hf' σ H') σ pr S1 Hf1 d d1 _ I1 rv r1 R1 (rx.mono e1 e2) ry hr fun w H' Hf' a' b' R' xx => ?_) fun c' s2 ⟨z, H2, I2, r2, ez, Hf2, a2, b2, R2⟩ => ?_
    · rcases xx with ⟨_, xx⟩ | ⟨p, rfl, _, _, cc, _⟩
      · cases xx; exact ⟨rfl, Hf', a', b', R'⟩
      · cases cc
    · subst ez
      cases r2
      refine wpAny_truthy_bool ?_
      have k3 := Af.mono k2 a2 b2
      cases b with
      | true => exact iteT (c.tst pos pins s2 σ H2 y u Q pr S1 Hf2 d1 I2 r1 R2 (ry.mono a2 b2) k3)
      | false =>
        obtain ⟨k', e', q'⟩ := Af.done k3 R2 (.inl ⟨rfl, .bl false⟩)
        cases e'
        exact iteF ⟨H2, I2, q'⟩
theorem se_ch {a b c : Expr} {op op' : CmpOp} {ops : List CmpOp} {es : List Expr} {fa : M D} {ls : List Lk} (ha : PE X a (Te g W (Po g) fa)) (k : ChP g W X (op :: op' :: ops) (b :: c :: es) ls) (hm : lastMarks (op :: op' :: ops) (b :: c :: es) = false) :
    PE X (.Compare a (op :: op' :: ops) (b :: c :: es) pos) (Te g W (Pw g) (eCh fa ls)) := ⟨fun pins s σ H Q I ⟨pr, S, Hf, R, h⟩ =>
  Compare_chain (thn (ha.run pins s σ H _ I (op1 R h)) fun u s1 ⟨y, H1, I1, r1, S1, Hf1, d1, e1, e2, R1, ry, k1⟩ => k.val pos pins s1 σ H1 y u Q pr S1 Hf1 d1 I1 r1 R1 ry k1) hm⟩
theorem st_ch {a b c : Expr} {op op' : CmpOp} {ops : List CmpOp} {es : List Expr} {fa : M D} {ls : List Lk} (ha : PE X a (Te g W (Po g) fa)) (k : ChP g W X (op :: op' :: ops) (b :: c :: es) ls) (hm : lastMarks (op :: op' :: ops) (b :: c :: es) = false) :
    PT X (.Compare a (op :: op' :: ops) (b :: c :: es) pos) (Tt g W (MP.tCh fa ls)) := ⟨fun pins s σ H Q I ⟨pr, S, Hf, R, h⟩ =>
  isTrue_chain (thn (ha.run pins s σ H _ I (op1 R (aft_af h))) fun u s1 ⟨y, H1, I1, r1, S1, Hf1, d1, e1, e2, R1, ry, k1⟩ => k.tst pos pins s1 σ H1 y u Q pr S1 Hf1 d1 I1 r1 R1 ry k1) hm⟩
end
end MP

/-! MP18: comprehensions of dicts. -/
namespace MP
open PySem PySem.Spec PyProof.Rows L2

section
variable {g0 : G} {W : WX} {X : Cx}
theorem dctO_new {P : Program} {w : World} {H : Hp} {hp : Heap} (hb : sysModules < hp.objs.size) : ObjOk P w H (hp.push { cls := .type "dict", data := .dict #[] }) hp.objs.size (DctO hp.objs.size []) :=
  ⟨⟨beq_eq_false_iff_ne.mpr (Ne.symm (Nat.ne_of_lt hb)), _, #[], 0, Heap.get?_push_size _ rfl, ⟨rfl, rfl, rfl⟩, rfl, rfl⟩, ⟨_, Heap.get?_push_size _ rfl⟩,
      fun ha hb ⟨hs, o', ea', ep', k1, k2, k3, k4⟩ k => ⟨hs, o', ea', ep', k _ k1, k2, k3, k4⟩⟩
/-- one pair is put into the new dict -/
def PutO (g : G) (p : Addr) (y z : V) (H : Hp) (Nx : Hp → Prop) : Prop := ∃ es kvs dk d Hf, H p = some (DctO p es) ∧ kvs.length < sizeLine ∧ RpE g Hf es kvs ∧ DKind kvs ∧ Sub Hf H ∧ askOk kvs dk = true ∧ Rp g Hf y dk ∧ Rp g Hf z d ∧
  ∀ es', RpE g Hf es' (dput kvs dk d) → DKind (dput kvs dk d) → Nx (upd H p (DctO p es'))
theorem dput_own {pins : List (Addr × Obj)} {σ : L2.St} {H : Hp} {s : Shared} {p : Addr} {y z : V} {u r : Value} {Nx : Hp → Prop} {Q : Unit → Shared → Prop} {E : Value → Shared → Prop} (at_ : At g0 W X) (I : Inv X pins σ H s) (ry : RelV y u) (rz : RelV z r) (h : PutO g0 p y z H Nx)
    (k : ∀ {s' : Shared} {H' : Hp}, Inv X pins σ H' s' → Nx H' → Q () s') : wpAny (model X.prog X.w) X.A (dictSet p u r) Q E s := by
  obtain ⟨es, kvs, dk, d, Hf, hp, hlt, rpe, dkk, sub, ha, rdk, rd, nx⟩ := h
  obtain ⟨nk, hk, hd, hc⟩ := askOk_cases ha
  have da := dct_at at_ I (.of hp) (Nat.le_of_lt hlt) rpe sub dkk
  have mu : Mut (H p) := by rw [hp]; exact True.intro
  rcases hc with ⟨t1, t2⟩ | ⟨t1, t2⟩
  · obtain ⟨xs, dx, x⟩ := da.tup t2
    obtain ⟨b, rfl⟩ := isTup_ref t1 rdk
    cases ry
    have room : (nestedKind X.prog X.w).room X.A := by
      have := at_.hu
      show X.A.units + 8 < cLine
      omega
    refine wpAny_dictSet_heap (hsz := by rw [x.length]; exact Nat.le_of_lt hlt) room ⟨nested_of at_.k I _ nk _ _ hk (rdk.mono sub) rfl, hd⟩ dx fun h' dd' hsb => ?_
    obtain ⟨⟨es', rp', ok'⟩, dk'⟩ := dct_newH at_.w da.sys (x.sto (v := z) hk hd t1 rdk rz rd) dd'
    have he : ∃ q, h'.get? p = some q := let ⟨q, _, _, hq, _⟩ := dd'; ⟨q, hq⟩
    exact k (d_write I mu hsb he (ok' _ _)) (nx es' rp' dk')
  · obtain ⟨xs, dx, x⟩ := da.is t2
    obtain ⟨ks, hks⟩ := keyS_of t1
    have ki : (mixKind X.prog X.w).is ks u = true := keyS_rp hks rdk ry
    refine wpAny_dictSet_pairs (hsz := by rw [x.length]; exact Nat.le_of_lt hlt) ki dx fun h' dd' hsb => ?_
    obtain ⟨⟨es', rp', ok'⟩, dk'⟩ := dct_newL at_.w da.sys (x.sto (v := z) hks rz rd) dd'
    have he : ∃ q, h'.get? p = some q := let ⟨q, _, _, hq, _⟩ := dd'; ⟨q, hq⟩
    exact k (d_write I mu hsb he (ok' _ _)) (nx es' rp' dk')
def tDcO (g0 : G) (wi : TI) (g : TG) (tt : TT) (tk tv : TE) (vs : List Nat) : TE := fun σ H Q => wi σ H fun J H1 => ∀ p, H1 p = none → ∃ Iv : Nat → Nat → Hp → Prop, (∃ m, Iv 0 m (upd H1 p (DctO p []))) ∧ ∀ i m H, Iv i m H →
  (J.stop i H ∧ Q (.ref p) H) ∨ (J.go i H ∧ ∃ Nx : Hp → Prop, (∀ H', Nx H' → ∃ m', m' < m ∧ Iv (i + 1) m' H') ∧ ∀ x H', J.yld i H x H' → g x (L2.wipe σ vs) H' fun σ2 H2 => L2.wipe σ2 vs = L2.wipe σ vs ∧ tt σ2 H2 fun b H3 =>
    if b = true then tk σ2 H3 fun y H4 => tv σ2 H4 fun z H5 => PutO g0 p y z H5 Nx else Nx H3)
theorem dc_own {pn0 : List (Addr × Obj)} {s : Shared} {σ : L2.St} {H : Hp} {Qv : VK} {ek ev tgt itr : Expr} {cnd : List Expr} {sco : Scope} {ow0 : List (Str × Nat)} {p0 p1 : Pos} {w1 : TI} {g : TG} {t1 : TT} {k1t v1t : TE} {use0 : Option (Value → Sem Unit)} {Qf0 : Value → Shared → Prop}
    (at0 : At g0 W X) (calm0 : X.calm = true) (nodN : X.N.Nodup) (I : Inv X pn0 σ H s) (hit0 : PI X tgt itr w1) (bok : BlkOk X.N X.env.scope sco ow0)
    (hg0 : ∀ (s : Shared) (H : Hp) (Cl0 : Addr) (cl : List (Str × Addr)) (fpA : List Addr), PG (X.blk s H sco (compEnvC sco cl Cl0 X.env) fpA) tgt g) (ht0 : ∀ (s : Shared) (H : Hp) (Cl0 : Addr) (cl : List (Str × Addr)) (fpA : List Addr), PTs (X.blk s H sco (compEnvC sco cl Cl0 X.env) fpA) cnd t1)
    (hk0 : ∀ (s : Shared) (H : Hp) (Cl0 : Addr) (cl : List (Str × Addr)) (fpA : List Addr), PE (X.blk s H sco (compEnvC sco cl Cl0 X.env) fpA) ek k1t)
    (he0 : ∀ (s : Shared) (H : Hp) (Cl0 : Addr) (cl : List (Str × Addr)) (fpA : List Addr), PE (X.blk s H sco (compEnvC sco cl Cl0 X.env) fpA) ev v1t) (hs0 : ∀ xx, foldedSetIterable itr X.env xx = pure xx)
    (hh0 : tDcO g0 w1 g t1 k1t v1t (ow0.map (·.2)) σ H Qv)
    (outR : ∀ Dl Cl0 s' m H', Inv X pn0 σ H' s' → Qv (.ref Dl) H' → s'.heap.Ns Cl0 m → FpOk X pn0 H' Cl0 → compPost (model X.prog X.w) X.A X.xe use0 Qf0 (.ref Dl) Cl0 (.ok .next) s') :
    wpAny (model X.prog X.w) X.A (comprehension (.DictComp ek ev [⟨tgt, itr, cnd, 0⟩] sco p0) sco X.env p1 newDict false (eval itr X.env) use0) Qf0 X.xe s := by
  have frees : ∀ y ∈ sco.names, y.2 = .free → ∃ c, X.env.cells.lookup y.1 = some c := fun y hy eq0 => by
    rcases bok.free y hy eq0 with k | k
    · exact I.ok.has _ (.inl k)
    · exact I.ok.has _ (.inr k)
  refine wpAny_comprehension_free (use := use0) rfl hs0 (closure_ok frees) bok.kind (fun y hy eq0 => by rw [bok.uniq y hy, eq0])
    (thn (hit0.run pn0 s σ H _ I hh0) fun xv0 s1 hx => thn hx fun iv0 s2 h2 => ?_)
  obtain ⟨itA, fpA, tnA, Jt, HA, eq0, IA, Tn, gA, fA, qq0⟩ := h2
  subst eq0
  refine wpAny_newObj_type (newEnv_comp ?_)
  generalize eqD : s2.heap.objs.size = Dl
  have dnew : HA Dl = none := IA.hok.fresh (Nat.le_of_eq eqD)
  obtain ⟨Wn, ⟨mz, wz⟩, trn⟩ := qq0 Dl dnew
  -- the new list
  generalize es3 : ({ s2 with heap := s2.heap.push { cls := .type "dict", data := .dict #[] } } : Shared) = sB
  have IB : Inv X pn0 σ (upd HA Dl (DctO Dl [])) sB := by
    rw [← es3]
    refine IA.laid (t' := s2.toks) (fun ad ob eq0 => Heap.get?_push_of_some _ eq0) (Nat.le_of_eq eqD) ?_
    rw [← eqD]
    exact dctO_new IA.big
  have eqB : sB.heap = s2.heap.push { cls := .type "dict", data := .dict #[] } := by rw [← es3]
  have szl : ∀ ad ∈ fpA, ad < s2.heap.objs.size := fun ad hb0 => by
    obtain ⟨ob, eq0, _⟩ := Tn.obj _ _ gA ad hb0
    exact Heap.lt_size eq0
  have fB : ∀ ad ∈ fpA, FpOk X pn0 (upd HA Dl (DctO Dl [])) ad ∧ ad < sB.heap.objs.size := fun ad hb0 => by
    have hlt0 := szl ad hb0
    refine ⟨⟨?_, (fA ad hb0).2⟩, by rw [eqB, Heap.size_push]; exact Nat.lt_succ_of_lt hlt0⟩
    rw [upd_ne (by rw [← eqD]; exact Nat.ne_of_lt hlt0)]
    exact (fA ad hb0).1
  have gB : tnA 0 sB.heap := Tn.keep _ _ _ gA fun ad _ ob eq0 => by rw [eqB]; exact Heap.get?_push_of_some _ eq0
  have IC := block_start IB bok nodN fB
  have qg := hg0 sB (upd HA Dl (DctO Dl [])) sB.heap.objs.size (cellsFrom (sB.heap.objs.size + 1) sco.names (cloFrom X.env.cells sco.names [])) fpA
  have qt := ht0 sB (upd HA Dl (DctO Dl [])) sB.heap.objs.size (cellsFrom (sB.heap.objs.size + 1) sco.names (cloFrom X.env.cells sco.names [])) fpA
  have qk := hk0 sB (upd HA Dl (DctO Dl [])) sB.heap.objs.size (cellsFrom (sB.heap.objs.size + 1) sco.names (cloFrom X.env.cells sco.names [])) fpA
  have qe := he0 sB (upd HA Dl (DctO Dl [])) sB.heap.objs.size (cellsFrom (sB.heap.objs.size + 1) sco.names (cloFrom X.env.cells sco.names [])) fpA
  show codeAny _ _ (.compStart (.DictComp ek ev [⟨tgt, itr, cnd, 0⟩] sco p0) 0 (.ref itA) (.ref Dl) (compEnvC sco (cellsFrom (sB.heap.objs.size + 1) sco.names (cloFrom X.env.cells sco.names [])) sB.heap.objs.size X.env)) (compPost (model X.prog X.w) X.A X.xe use0 Qf0 (.ref Dl) sB.heap.objs.size) { sB with heap := pushCells (sB.heap.push { cls := .type "dict", data := .dict #[] }) sco.names }
  have nof : ∀ ad ∈ fpA, (upd HA Dl (DctO Dl [])) ad = none := fun ad hb0 => (fB ad hb0).1.1
  generalize eqce : compEnvC sco (cellsFrom (sB.heap.objs.size + 1) sco.names (cloFrom X.env.cells sco.names [])) sB.heap.objs.size X.env = cen at IC qg qt qk qe ⊢
  have cloc : cen.locals = sB.heap.objs.size := by subst eqce; rfl
  generalize eqH3 : upd HA Dl (DctO Dl []) = HB at IB IC qg qt qk qe wz nof fB
  generalize es4 : ({ sB with heap := pushCells (sB.heap.push { cls := .type "dict", data := .dict #[] }) sco.names } : Shared) = sC at IC ⊢
  have gC : tnA 0 sC.heap := Tn.keep _ _ _ gB fun ad _ ob eq0 => by rw [← es4]; exact pushCells_keeps _ _ _ _ (Heap.get?_push_of_some _ eq0)
  have stay0 : ∀ {σ' : L2.St} {H' : Hp} {s' : Shared}, Inv (X.blk sB HB sco cen fpA) [] σ' H' s' → (∀ ad ∈ fpA, H' ad = none) → ∀ ad ∈ fpA, FpOk (X.blk sB HB sco cen fpA) [] H' ad := fun {σ' H' s'} I' hn0 ad hb0 =>
    ⟨hn0 ad hb0, (I'.ok.exf ad hb0).1, I'.ok.exfs ad hb0, .inl hb0, fun xx c eq0 => (I'.ok.exf ad hb0).2 xx c eq0, fun p hp => absurd (show p ∈ ([] : List (Addr × Obj)) ++ [] from hp) (by simp)⟩
  have lp : codeAny (model X.prog X.w) X.A (.compLoop (.DictComp ek ev [⟨tgt, itr, cnd, 0⟩] sco p0) 0 (.ref itA) (.ref Dl) cen) (compPost (model X.prog X.w) X.A X.xe use0 Qf0 (.ref Dl) sB.heap.objs.size) sC := by
    refine L2.compLoop_anyD (fun nn s' => ∃ ix H', Inv (X.blk sB HB sco cen fpA) [] (L2.wipe σ (ow0.map (·.2))) H' s' ∧ tnA ix s'.heap ∧ (∀ ad ∈ fpA, H' ad = none) ∧ Wn ix nn H') ?_ mz ⟨0, HB, IC, gC, nof, wz⟩
    rintro nn z5 ⟨ix, G5, J5, g5, nf5, wv5⟩
    rcases trn ix nn G5 wv5 with ⟨stops, qqs⟩ | ⟨goes, Nxt0, hNxt, stp⟩
    · have tdn := Tn.done (X.blk sB HB sco cen fpA) rfl rfl rfl calm0 ix [] z5 _ G5 (fun _ _ => False) J5 (stay0 J5 nf5) g5 stops
      refine thnF tdn fun rs z6 ⟨hr0, J6⟩ => ?_
      subst hr0
      -- back in the def's context
      have J7 : Inv X pn0 σ G5 z6 := IB.call' (ch := fpA) J6.os J6.base J6.hok J6.bare fun ad hb0 => ⟨(fB ad hb0).1.2.2.2.1, (fB ad hb0).1.2.1, (fB ad hb0).1.2.2.2.2.1, (fB ad hb0).1.2.2.2.2.2⟩
      have nCl : G5 sB.heap.objs.size = none := by
        have zz : G5 cen.locals = none := J6.free
        rw [cloc] at zz
        exact zz
      obtain ⟨m, hn0, _⟩ := J6.loc
      have hn0 : z6.heap.Ns cen.locals m := hn0
      rw [cloc] at hn0
      exact outR Dl sB.heap.objs.size z6 m G5 J7 qqs hn0 (IB.fpOk (Nat.le_refl _) nCl)
    · have tit := Tn.item (X.blk sB HB sco cen fpA) rfl rfl rfl calm0 ix [] z5 _ G5 (fun _ _ => False) J5 (stay0 J5 nf5) g5 goes
      refine thnF tit fun rs z6 ⟨uu, hr0, h6⟩ => ?_
      subst hr0
      refine thnF h6 fun _ z7 ⟨xx, G7, J7, rr7, yy7, g7, nf7⟩ => ?_
      have J7p := J7.pinned (stay0 J7 nf7) (Tn.obj _ _ g7)
      refine thnF (qg.run _ z7 _ G7 xx uu _ J7p rr7 (stp xx G7 yy7)) fun _ z8 ⟨τ8, G8, J8, hv8, r8q⟩ => ?_
      refine thnF (qt.run _ z8 τ8 G8 _ J8 r8q) fun ad z9 ⟨G9, J9, r9q⟩ => ?_
      -- the turn's end
      have fin0 : ∀ {s' : Shared} {H' : Hp}, Inv (X.blk sB HB sco cen fpA) ([] ++ pinsAt fpA z7.heap) τ8 H' s' → Nxt0 H' → ∃ m, m < nn ∧ ∃ ix H', Inv (X.blk sB HB sco cen fpA) [] (L2.wipe σ (ow0.map (·.2))) H' s' ∧ tnA ix s'.heap ∧ (∀ ad ∈ fpA, H' ad = none) ∧ Wn ix m H' := fun {s' H'} I' nx0 => by
        obtain ⟨m1, hm0, w1q⟩ := hNxt H' nx0
        have pin' : ∀ ad ∈ fpA, ∀ ob, z7.heap.get? ad = some ob → s'.heap.get? ad = some ob ∧ H' ad = none := fun ad hb0 ob eq0 =>
          let zz := I'.pin (ad, ob) (List.mem_append_right _ (List.mem_append_right _ (mem_pinsAt hb0 eq0)))
          ⟨zz.1, zz.2.1⟩
        have hl0 : (L2.wipe σ (ow0.map (·.2))).length = τ8.length := by rw [← hv8, wipe_length]
        refine ⟨m1, hm0, ix + 1, H', (I'.unpinned (pins := [])).weak hl0 (fun j v eq0 => ?_), Tn.keep _ _ _ g7 fun ad hb0 ob eq0 => (pin' ad hb0 ob eq0).1, fun ad hb0 => ?_, w1q⟩
        · rw [← hv8] at eq0
          exact (wipe_some eq0).1
        · obtain ⟨ob, eq0, _⟩ := Tn.obj _ _ g7 ad hb0
          exact (pin' ad hb0 ob eq0).2
      cases ad with
      | false =>
        simp only [Bool.false_eq_true, if_false] at r9q ⊢
        exact fin0 J9 r9q
      | true =>
        simp only [if_true] at r9q ⊢
        refine thnF (qk.run _ z9 τ8 G9 _ J9 r9q) fun zz z10 ⟨yk0, G10, J10, rr10, r10q⟩ => ?_
        refine thnF (qe.run _ z10 τ8 G10 _ J10 r10q) fun z2 z11 ⟨yv0, G11, J11, rr11, put⟩ => ?_
        exact dput_own (X := X.blk sB HB sco cen fpA) (blk_at at0 sB HB sco cen fpA) J11 rr10 rr11 put fun J12 nx0 => fin0 J12 nx0
  exact codeAny_compStart_dict lp (Tn.self X.A 0 _ _ _ gC lp)
end
def dcTurn (p : Pt) (tt : M Bool) (tk tv : M D) (d : D) : M (Option (D × D)) := pTg p d >>= fun _ => tt >>= fun b => if b = true then tk >>= fun k => tv >>= fun v => pure (some (k, v)) else pure none
def dcGo (vs : List Nat) (p : Pt) (tt : M Bool) (tk tv : M D) : List D → List (D × D) → Sx → Ou (List (D × D))
  | [], acc, S => .ok acc S
  | d :: ds, acc, S => match dcTurn p tt tk tv d (wipeS S vs) with
    | .ok none S1 => dcGo vs p tt tk tv ds acc S1
    | .ok (some kv) S1 => if askOk acc kv.1 && decide (acc.length < sizeLine) then dcGo vs p tt tk tv ds (dput acc kv.1 kv.2) S1 else .no
    | _ => .no
def dcAll (vs : List Nat) (p : Pt) (tt : M Bool) (tk tv : M D) (ds : List D) : M D := fun S =>
  if noOw S vs then (match dcGo vs p tt tk tv ds [] (wipeS S vs) with
    | .ok rs S' => .ok (.dct rs) (putBack S S' vs)
    | _ => .no) else .no
def eDc (vs : List Nat) (src : M (List D)) (p : Pt) (tt : M Bool) (tk tv : M D) : M D := src >>= dcAll vs p tt tk tv
theorem dcTurn_ok {p : Pt} {tt : M Bool} {tk tv : M D} {d : D} {r : Option (D × D)} {S S1 : Sx} (h : dcTurn p tt tk tv d S = .ok r S1) :
    ∃ S2 b S3, p.go d S = some S2 ∧ tt S2 = .ok b S3 ∧ ((b = true ∧ ∃ x y S4, tk S3 = .ok x S4 ∧ tv S4 = .ok y S1 ∧ r = some (x, y)) ∨ (b = false ∧ S1 = S3 ∧ r = none)) := by
  unfold dcTurn at h
  rw [M.bind_def] at h
  cases hg : p.go d S with
  | none =>
    have e : pTg p d S = .no := by unfold pTg; rw [hg]
    rw [e] at h; cases h
  | some S2 =>
    have e : pTg p d S = .ok () S2 := by unfold pTg; rw [hg]
    rw [e] at h
    dsimp only at h
    rw [M.bind_def] at h
    cases ht : tt S2 with
    | no => rw [ht] at h; cases h
    | ex c fs S' => rw [ht] at h; cases h
    | ok b S3 =>
      rw [ht] at h
      dsimp only at h
      refine ⟨S2, b, S3, rfl, ht, ?_⟩
      cases b with
      | false =>
        rw [if_neg (by decide)] at h
        cases h
        exact .inr ⟨rfl, rfl, rfl⟩
      | true =>
        rw [if_pos rfl, M.bind_def] at h
        cases he : tk S3 with
        | no => rw [he] at h; cases h
        | ex c fs S' => rw [he] at h; cases h
        | ok x S4 =>
          rw [he] at h
          dsimp only at h
          rw [M.bind_def] at h
          cases hv : tv S4 with
          | no => rw [hv] at h; cases h
          | ex c fs S' => rw [hv] at h; cases h
          | ok y S5 =>
            rw [hv] at h
            cases h
            exact .inl ⟨rfl, x, y, S4, rfl, hv, rfl⟩
section
variable {g : G} {W : WX} {X : Cx} {pr : Addr → Prop} {S S' : Sx} {σ : L2.St} {H H1 Hf Hf1 : Hp} {pos : Pos} {vs : List Nat}
theorem dc_pure {src : M (List D)} {p : Pt} {tt : M Bool} {tk tv : M D} {Q : VK} (hp : ∀ i ∈ p.at, i ∈ vs) (h : Te g W (Pw g) (eDc vs src p tt tk tv) σ H Q) :
    tDcO g (Ti g W src) (Gt g p) (Tt g W0 tt) (Te g W0 (Ps g) tk) (Te g W0 (Ps g) tv) vs σ H Q := by
  obtain ⟨pr, S, Hf, R, h⟩ := h
  refine ⟨pr, S, Hf, R, ?_⟩
  unfold eDc at h
  rw [M.bind_def] at h
  revert h
  cases src S with
  | no => exact id
  | ex c fs S' => exact id
  | ok ds S1 =>
    intro h J H1 Hf1 a b R1 wk P hP
    dsimp only at h
    unfold dcAll at h
    split at h
    · rename_i no
      split at h
      · rename_i rs S2 hgo
        obtain ⟨np, nf, nu⟩ := R1.new_free hP
        refine ⟨fun i m H => m = ds.length - i ∧ i ≤ ds.length ∧ ∃ S3 Hf3 es acc, SRep g (fun a => pr a ∨ a = P) (wipeS S3 vs) Hf3 (L2.wipe σ vs) H ∧ Sub Hf1 Hf3 ∧ Sub H1 H ∧ H P = some (DctO P es) ∧ RpE g Hf3 es acc ∧ DKind acc ∧ acc.length ≤ sizeLine ∧
          dcGo vs p tt tk tv (ds.drop i) acc S3 = .ok rs S2, ⟨ds.length, by simp, Nat.zero_le _, wipeS S1 vs, Hf1, [], [], ?_, Sub.refl _, Sub.upd hP, upd_same, .nil, ⟨.inl (fun p hp => nomatch hp), List.nodup_nil⟩, Nat.zero_le _, hgo⟩, ?_⟩
        · have z := ((R1.growH (Sub.upd (o := DctO P []) hP)).privD nf ⟨_, upd_same⟩ nu).wipe vs |>.wipe vs
          rw [wipe_idem] at z
          exact z
        · rintro i m H2 ⟨rfl, hi, S3, Hf3, es, acc, R3, f3, e3, hac, ra, dk, hz, hg3⟩
          by_cases hlt : i < ds.length
          · have hd : ds.drop i = ds[i] :: ds.drop (i + 1) := List.drop_eq_getElem_cons hlt
            rw [hd, dcGo] at hg3
            cases ht : dcTurn p tt tk tv ds[i] (wipeS S3 vs) with
            | no => rw [ht] at hg3; cases hg3
            | ex c fs S' => rw [ht] at hg3; cases hg3
            | ok r S4 =>
              rw [ht] at hg3
              obtain ⟨S5, bb, S6, h5, h6, h7⟩ := dcTurn_ok ht
              refine .inr ⟨wk.go i H2 (f3.trans R3.sub) hlt, fun H => i + 1 ≤ ds.length ∧ ∃ S3 Hf3 es acc, SRep g (fun a => pr a ∨ a = P) (wipeS S3 vs) Hf3 (L2.wipe σ vs) H ∧ Sub Hf1 Hf3 ∧ Sub H1 H ∧ H P = some (DctO P es) ∧ RpE g Hf3 es acc ∧ DKind acc ∧ acc.length ≤ sizeLine ∧
                dcGo vs p tt tk tv (ds.drop (i + 1)) acc S3 = .ok rs S2, fun H' q => ⟨ds.length - (i + 1), by omega, rfl, q⟩, fun x H3 y => ?_⟩
              obtain ⟨Hf4, e4, f4, R4, r4⟩ := wk.yld i ds[i] x H2 H3 (by simp [hlt]) y Hf3 _ _ _ f3 R3
              refine ⟨_, _, Hf4, ds[i], S5, R4, r4, h5, fun σ5 R5 w5 => ?_⟩
              have w5 := w5 vs hp
              rw [wipe_idem] at w5
              refine ⟨w5, _, S5, Hf4, R5, ?_⟩
              rw [h6]
              intro H6 Hf6 e6 f6 R6
              rcases h7 with ⟨rfl, kk, vv, S7, h8, h9, rfl⟩ | ⟨rfl, rfl, rfl⟩
              · dsimp only at hg3
                split at hg3
                · rename_i hc
                  simp only [Bool.and_eq_true, decide_eq_true_eq] at hc
                  obtain ⟨hask, hsz⟩ := hc
                  refine iteT ⟨_, S6, Hf6, R6, ?_⟩
                  rw [h8]
                  intro v H8 Hf8 e8 f8 R8 x8
                  refine ⟨_, S7, Hf8, R8, ?_⟩
                  rw [h9]
                  intro u H9 Hf9 e9 f9 R9 x9
                  have e39 : Sub H2 H9 := e4.trans (e6.trans (e8.trans e9))
                  have f39 : Sub Hf3 Hf9 := f4.trans (f6.trans (f8.trans f9))
                  refine ⟨es, acc, kk, vv, Hf9, e39 _ _ hac, hsz, ra.mono f39, dk, R9.sub, hask, x8.mono f9, x9, fun es' rp' dk' => ⟨hlt, S4, Hf9, es', dput acc kk vv, ?_, f3.trans f39, ?_, upd_same, rp', dk', ?_, hg3⟩⟩
                  · have z := (R9.updD (o := DctO P es')).wipe vs
                    rw [w5] at z
                    exact z
                  · intro b u hb
                    have q : b ≠ P := ne_of_none hb hP
                    rw [upd_ne q]
                    exact e39 _ _ (e3 _ _ hb)
                  · unfold dput; split <;> simp <;> omega
                · cases hg3
              · refine iteF ⟨hlt, S4, Hf6, es, acc, ?_, f3.trans (f4.trans f6), e3.trans (e4.trans e6), e6 _ _ (e4 _ _ hac), ra.mono (f4.trans f6), dk, hz, hg3⟩
                have z := R6.wipe vs
                rw [w5] at z
                exact z
          · have e : i = ds.length := by omega
            subst e
            rw [List.drop_length] at hg3
            cases hg3
            refine .inl ⟨wk.stop _ H2 (f3.trans R3.sub) rfl, ?_⟩
            have R9 := SRep.back (R1.growH e3) R3.lessD f3 no
            rw [putBack_wipe] at R9
            refine h _ H2 Hf3 (a.trans e3) (b.trans f3) R9 (.inr ⟨P, rfl, a.free hP, (R3.priv P (.inr rfl)).1, .dct hac hz ra dk, fun j e hj hs => ?_⟩)
            obtain ⟨q, k1, k2, k3, k4⟩ := R9.ow j e hj
            rw [hs] at k1; cases k1
            rw [putBack_get] at hj
            by_cases hjv : j ∈ vs
            · rw [if_pos hjv] at hj
              split at hj
              · have := List.all_eq_true.mp no j hjv
                cases hsj : S1[j]? with
                | none => rw [hsj] at hj; cases hj
                | some t => rw [hsj] at hj this; cases hj; cases this
              · cases hj
            · rw [if_neg hjv] at hj
              have hj2 : (wipeS S2 vs)[j]? = some (.ow e) := (wipeS_get (by intro z; cases z)).mpr ⟨hj, hjv⟩
              obtain ⟨q, m1, m2, m3, m4⟩ := R3.ow j e hj2
              rw [wipe_get_some hjv, hs] at m1; cases m1
              exact m3 (.inr rfl)
      · exact h.elim
    · exact h.elim
theorem se_dc (at0 : At g W X) {kx vx tg iter : Expr} {ifs : List Expr} {scope : Scope} {own : List (Str × Nat)} {src : M (List D)} {p : Pt} {tt : M Bool} {tk tv : M D} (hc : X.calm = true) (hN : X.N.Nodup) (hi : PI X tg iter (Ti g W src)) (ok : BlkOk X.N X.env.scope scope own)
    (hg : ∀ (s : Shared) (H : Hp) (C : Addr) (cl : List (Str × Addr)) (fp : List Addr), PG (X.blk s H scope (compEnvC scope cl C X.env) fp) tg (Gt g p))
    (ht : ∀ (s : Shared) (H : Hp) (C : Addr) (cl : List (Str × Addr)) (fp : List Addr), PTs (X.blk s H scope (compEnvC scope cl C X.env) fp) ifs (Tt g W0 tt))
    (hk : ∀ (s : Shared) (H : Hp) (C : Addr) (cl : List (Str × Addr)) (fp : List Addr), PE (X.blk s H scope (compEnvC scope cl C X.env) fp) kx (Te g W0 (Ps g) tk))
    (he : ∀ (s : Shared) (H : Hp) (C : Addr) (cl : List (Str × Addr)) (fp : List Addr), PE (X.blk s H scope (compEnvC scope cl C X.env) fp) vx (Te g W0 (Ps g) tv)) (hp : ∀ i ∈ p.at, i ∈ own.map (·.2))
    (hs : ∀ x, foldedSetIterable iter X.env x = pure x) : PE X (.DictComp kx vx [⟨tg, iter, ifs, 0⟩] scope pos) (Te g W (Pw g) (eDc (own.map (·.2)) src p tt tk tv)) := by
  refine ⟨fun pins s σ H Q I h => ?_⟩
  rw [arm_eval_DictComp]
  refine dc_own at0 hc hN I hi ok hg ht hk he hs (dc_pure hp h) fun p' C s' m H' I' q hn f => ⟨m, hn, fun h'' sb => ?_⟩
  obtain ⟨f0, f1, f2, f3, f4, f5⟩ := f
  exact ⟨.ref p', H', I'.turned (t' := s'.toks) (fun b o hb e => (sb.2 b hb).trans e) f0 f1 f3 f4 f5, rfl, q⟩
end
end MP

/-! MP19: name = a comprehension on one line. -/
namespace MP
open PySem PySem.Spec PyProof.Rows L2

section
variable {g : G} {W : WX} {X : Cx} {pos spos py : Pos}
theorem ss_setLc {i : Nat} {y : Str} {elt tg iter : Expr} {ifs : List Expr} {scope : Scope} {own : List (Str × Nat)} {src : M (List D)} {p : Pt} {tt : M Bool} {te : M D} (hc : X.calm = true) (hN : X.N.Nodup) (hy : X.N[i]? = some y) (hyl : X.env.scope.names.lookup y = some .local)
    (hsw : swapsWith (.ListComp elt [⟨tg, iter, ifs, 0⟩] scope pos) (some (.Name y py)) spos.line X.env = pure true) (hi : PI X tg iter (Ti g W src)) (ok : BlkOk X.N X.env.scope scope own)
    (hg : ∀ (s : Shared) (H : Hp) (C : Addr) (cl : List (Str × Addr)) (fp : List Addr), PG (X.blk s H scope (compEnvC scope cl C X.env) fp) tg (Gt g p))
    (ht : ∀ (s : Shared) (H : Hp) (C : Addr) (cl : List (Str × Addr)) (fp : List Addr), PTs (X.blk s H scope (compEnvC scope cl C X.env) fp) ifs (Tt g W0 tt))
    (he : ∀ (s : Shared) (H : Hp) (C : Addr) (cl : List (Str × Addr)) (fp : List Addr), PE (X.blk s H scope (compEnvC scope cl C X.env) fp) elt (Te g W0 (Ps g) te)) (hp : ∀ i ∈ p.at, i ∈ own.map (·.2))
    (hs : ∀ x, foldedSetIterable iter X.env x = pure x) : PS X (.Assign [.Name y py] (.ListComp elt [⟨tg, iter, ifs, 0⟩] scope pos) spos) (Ts g W (mSetO i (eLc (own.map (·.2)) src p tt te))) :=
  (ps_setLc hc hN hy hyl hsw hi ok hg ht he hs).imp fun D σ H ⟨pr, S, Hf, R, h⟩ => by
    have key : ∀ (Q : VK), Te g W (Pw g) (eLc (own.map (·.2)) src p tt te) σ H Q → tLc (Ti g W src) (Gt g p) (Tt g W0 tt) (Te g W0 (Ps g) te) (own.map (·.2)) σ H Q := fun Q q => lc_pure (wi := fun _ _ _ => True) hp q
    refine key _ ((Ts.expr (Ψ := Pw g) R h).weak fun v H1 ⟨S1, Hf1, d, _, R1, x, h1⟩ => ?_)
    rcases x with ⟨hc, x⟩ | ⟨a, rfl, h0, hn, c, hu⟩
    · have h1 : AfS g W pr (Ou.ok Fl.nx (S1.set i (if isCont d = true then .ow d else .va d))) H1 Hf1 D := h1
      rw [hc] at h1
      exact AfS.nx (W := W) (R1.setV x) h1
    · have hc : isCont d = true := by cases c <;> rfl
      have h1 : AfS g W pr (Ou.ok Fl.nx (S1.set i (if isCont d = true then .ow d else .va d))) H1 Hf1 D := h1
      rw [hc] at h1
      have np : ¬ pr a := fun hp => by
        obtain ⟨_, u, hu⟩ := R.priv a hp
        rw [h0] at hu; cases hu
      exact AfS.nx (W := W) (R1.setO hn np c fun j e _ hj => hu j e hj) h1
theorem sw_trueD {kx vx : Expr} {gs : List Comprehension} {scope : Scope} {y : Str} {l : Nat} {env : Env} (hk : env.scope.kind = .function) (hy : env.scope.names.lookup y = some .local) (hl : (py.line == pos.line) = true)
    (ha : (scope.names.any fun (n, k) => n == y && (k == .local || k == .cell)) = false) : swapsWith (.DictComp kx vx gs scope pos) (some (.Name y py)) l env = pure true := by
  have ky : env.kindOf y = some .local := hy
  have hb : env.blockKind = .function := by unfold Env.blockKind; rw [hk]; rfl
  unfold swapsWith
  simp only [hb, ky, ha, Expr.pos, hl]
  rfl
theorem ss_setDc (at0 : At g W X) {i : Nat} {y : Str} {kx vx tg iter : Expr} {ifs : List Expr} {scope : Scope} {own : List (Str × Nat)} {src : M (List D)} {p : Pt} {tt : M Bool} {tk tv : M D} (hc : X.calm = true) (hN : X.N.Nodup) (hy : X.N[i]? = some y) (hyl : X.env.scope.names.lookup y = some .local)
    (hsw : swapsWith (.DictComp kx vx [⟨tg, iter, ifs, 0⟩] scope pos) (some (.Name y py)) spos.line X.env = pure true) (hi : PI X tg iter (Ti g W src)) (ok : BlkOk X.N X.env.scope scope own)
    (hg : ∀ (s : Shared) (H : Hp) (C : Addr) (cl : List (Str × Addr)) (fp : List Addr), PG (X.blk s H scope (compEnvC scope cl C X.env) fp) tg (Gt g p))
    (ht : ∀ (s : Shared) (H : Hp) (C : Addr) (cl : List (Str × Addr)) (fp : List Addr), PTs (X.blk s H scope (compEnvC scope cl C X.env) fp) ifs (Tt g W0 tt))
    (hk : ∀ (s : Shared) (H : Hp) (C : Addr) (cl : List (Str × Addr)) (fp : List Addr), PE (X.blk s H scope (compEnvC scope cl C X.env) fp) kx (Te g W0 (Ps g) tk))
    (he : ∀ (s : Shared) (H : Hp) (C : Addr) (cl : List (Str × Addr)) (fp : List Addr), PE (X.blk s H scope (compEnvC scope cl C X.env) fp) vx (Te g W0 (Ps g) tv)) (hp : ∀ i ∈ p.at, i ∈ own.map (·.2))
    (hs : ∀ x, foldedSetIterable iter X.env x = pure x) : PS X (.Assign [.Name y py] (.DictComp kx vx [⟨tg, iter, ifs, 0⟩] scope pos) spos) (Ts g W (mSetO i (eDc (own.map (·.2)) src p tt tk tv))) := by
  refine ⟨fun pins s σ H En I ⟨pr, S, Hf, R, h⟩ => ?_⟩
  rw [exec_Assign_Name_used _ _ _ _ hsw]
  refine wpAny_bind (wpAny_standAt (wpAny_bind ?_))
  show wpAny _ X.A (do let _ ← comprehension (.DictComp kx vx [⟨tg, iter, ifs, 0⟩] scope pos) scope X.env (firstIterPos [⟨tg, iter, ifs, 0⟩] pos) newDict false (eval iter X.env) (some (assign (.Name y py) X.env))) _ _ s
  have q : Te g W (Pw g) (eDc (own.map (·.2)) src p tt tk tv) σ H fun v H1 => En.nx (σ.set i (some v)) H1 := (Ts.expr (Ψ := Pw g) R h).weak fun v H1 ⟨S1, Hf1, d, _, R1, x, h1⟩ => by
    rcases x with ⟨hc, x⟩ | ⟨a, rfl, h0, hn, c, hu⟩
    · have h1 : AfS g W pr (Ou.ok Fl.nx (S1.set i (if isCont d = true then .ow d else .va d))) H1 Hf1 En := h1
      rw [hc] at h1
      exact AfS.nx (W := W) (R1.setV x) h1
    · have hc : isCont d = true := by cases c <;> rfl
      have h1 : AfS g W pr (Ou.ok Fl.nx (S1.set i (if isCont d = true then .ow d else .va d))) H1 Hf1 En := h1
      rw [hc] at h1
      have np : ¬ pr a := fun hp => by
        obtain ⟨_, u, hu⟩ := R.priv a hp
        rw [h0] at hu; cases hu
      exact AfS.nx (W := W) (R1.setO hn np c fun j e _ hj => hu j e hj) h1
  refine wpAny_bind (thn (dc_own (Qf0 := fun _ s' => SP X pins En .next s') at0 hc hN I hi ok hg ht hk he hs (dc_pure hp q) fun L C s' m H' I' q hn f => ?_) fun _ s' hq => wpAny_pure (wpAny_pure hq))
  show wpAny _ _ (assign (.Name y py) X.env (.ref L)) _ _ _
  refine wpAny_assign_Name (store_ok2 (v := V.ref L) I' hN hy (.inl hyl) rfl (fun s2 I2 ⟨a, sb, ha⟩ => ?_) (.inr hyl))
  obtain ⟨f0, f1, f2, f3, f4, f5⟩ := f
  have ne : C ≠ a := by
    rcases ha with z | z
    · rw [z]; exact f1
    · exact fun e => f4 y a z e.symm
  exact ⟨m, hn.sameBut sb ne, fun h3 sb3 => ⟨_, H', I2.turned (t' := s2.toks) (fun b o hb e => (sb3.2 b hb).trans e) f0 f1 f3 f4 f5, q⟩⟩
end
end MP

/-! MP20: rules in the form in which the printed walks use them. -/
namespace MP
open PySem PySem.Spec PyProof.Rows L2

def okN (x : Str) : Bool := !(x == ("__debug__" : Str)) && !(x == ("__classdict__" : Str))
def visB (sc : Scope) (x : Str) : Bool := match sc.names.lookup x with
  | some .local => true
  | some .cell => true
  | some .free => true
  | _ => false
def locB (sc : Scope) (x : Str) : Bool := match sc.names.lookup x with
  | some .local => true
  | some .cell => true
  | _ => false
def lclB (sc : Scope) (x : Str) : Bool := match sc.names.lookup x with
  | some .local => true
  | _ => false
def glB (sc : Scope) (x : Str) : Bool := match sc.names.lookup x with
  | some .globalImplicit => true
  | _ => false
theorem visB_ok {sc : Scope} {x : Str} (h : visB sc x = true) : Vis sc x := by
  unfold visB at h
  unfold Vis
  split at h <;> simp_all
theorem locB_ok {sc : Scope} {x : Str} (h : locB sc x = true) : L2.Loc sc x := by
  unfold locB at h
  unfold L2.Loc
  split at h <;> simp_all
theorem lclB_ok {sc : Scope} {x : Str} (h : lclB sc x = true) : sc.names.lookup x = some .local := by
  unfold lclB at h
  split at h <;> simp_all
theorem glB_ok {sc : Scope} {x : Str} (h : glB sc x = true) : sc.names.lookup x = some .globalImplicit := by
  unfold glB at h
  split at h <;> simp_all
/-- what a body's context gives -/
structure Bd (g : G) (W : WX) (X : Cx) (k : Nat) (N : List Str) (sc ws : Scope) : Prop where
  at_ : At g W X
  hr : Room k X.A
  gd : X.A.guards = some []
  calm : X.calm = true
  nn : X.N = N
  nd : N.Nodup
  sn : X.env.scope = sc
  ok : N.all okN = true
  fn : ∀ x, L2.Loc ws x → L2.Loc sc x ∧ (X.fn x = true ∨ sc.names.lookup x = some .local)
  fun_ : sc.kind = .function
section
variable {g : G} {W : WX} {X : Cx} {k : Nat} {N : List Str} {sc sc' ws : Scope} {x : Str} {i : Nat} {p pos : Pos}
theorem Bd.blk (B : Bd g W X k N sc ws) (hk : sc'.kind = .function) (s : Shared) (H : Hp) (C : Addr) (cl : List (Str × Addr)) (fp : List Addr) : Bd g W0 (X.blk s H sc' (compEnvC sc' cl C X.env) fp) k N (relS sc' sc) sc' :=
  ⟨blk_at B.at_ _ _ _ _ _, B.hr, B.gd, B.calm, B.nn, B.nd, (by rw [← B.sn]; rfl), B.ok, fun x h => by
    rcases h with z | z
    · exact ⟨.inl (lookup_relS_keep (by decide) z), .inr (lookup_relS_keep (by decide) z)⟩
    · exact ⟨.inr (lookup_relS_keep (by decide) z), .inl (show (sc'.names.lookup x == some .cell) = true by rw [z]; rfl)⟩, hk⟩
theorem body_bd {mg : Str → Option Value} {base : Heap} {qual : Str} {f : Addr} {cdv : Value} {A : Around} {outer : List Env} {s : Shared} {H : Hp} {E : XK} (hr : Room k (A.deeper (envOfC qual sc s.heap.objs.size f cdv))) (hgd : (A.deeper (envOfC qual sc s.heap.objs.size f cdv)).guards = some [])
    (nd : N.Nodup) (ok : N.all okN = true) (hk : sc.kind = .function) : Bd g (bodyW E) (bodyX g mg base N qual sc f cdv A outer s H E) k N sc sc :=
  ⟨body_at hr, hr, hgd, rfl, rfl, nd, rfl, ok, fun x h => ⟨h, .inl rfl⟩, hk⟩
theorem Bd.okn (B : Bd g W X k N sc ws) (h : N[i]? = some x) : (x == ("__debug__" : Str)) = false ∧ (x == ("__classdict__" : Str)) = false := by
  have := List.all_eq_true.mp B.ok x (List.mem_of_getElem? h)
  simpa [okN] using this
theorem o_v (B : Bd g W X k N sc ws) (i : Nat) (v : visB sc x = true) (h : N[i]? = some x) : PE X (.Name x p) (Te g W (Po g) (oVar i)) :=
  so_var (by rw [B.nn]; exact h) (by rw [B.sn]; exact visB_ok v) (B.okn h).1 (B.okn h).2
theorem s_v (B : Bd g W X k N sc ws) (i : Nat) (v : visB sc x = true) (h : N[i]? = some x) : PE X (.Name x p) (Te g W (Ps g) (eVar i)) :=
  se_var (by rw [B.nn]; exact h) (by rw [B.sn]; exact visB_ok v) (B.okn h).1 (B.okn h).2
theorem g_v (B : Bd g W X k N sc ws) (i : Nat) (v : locB ws x = true) (h : N[i]? = some x) : PG X (.Name x p) (Gt g (.nm i)) :=
  sg_name (by rw [B.nn]; exact B.nd) (by rw [B.nn]; exact h) (by rw [B.sn]; exact (B.fn _ (locB_ok v)).1) (by rw [B.sn]; exact (B.fn _ (locB_ok v)).2)
theorem g_tp (B : Bd g W X k N sc ws) {es : List Expr} {kk : Nat} {ps : List Pt} (h : PGs X es (Gts g ps))
    (hn : (assignEach es X.env).length = ps.length := by rfl) (hst : (assignEach es X.env).findIdx? (·.1) = none := by rfl) : PG X (.Tuple es kk pos) (Gt g (.tp ps)) := sg_tup B.at_.k B.calm h hn hst
theorem Bd.gl (B : Bd g W X k N sc ws) (h : glB sc x = true) : Gl X x := by
  show X.env.kindOf x = some .globalImplicit
  have := glB_ok h
  rw [← B.sn] at this
  exact this
def eS (x : Str) : M D := eC (.str x.cps.toList)
theorem w_str {z : Str} {j : Nat} : PE X (.Constant (.str z) j pos) (Te g W (Pw g) (eS z)) := se_str
/-- calls of built-in functions -/
theorem w_bi {id : String} {e : Expr} {es : List Expr} {fs : List (M D)} {h : List D → Option D} (B : Bd g W X k N sc ws) (hm : X.mg x = none) (hg : glB sc x = true) (hc : CalD g W X (.builtin id) h) (ha : PA X (e :: es) (Tao g W (evs fs))) (hv : bootBuiltins x = some (.builtin id) := by rfl)
    (hn : x ≠ "__name__" := by decide) (hd : (x == ("__debug__" : Str)) = false := by decide) (hs : notStar e = true := by rfl) (hs' : es.all notStar = true := by rfl) : PE X (.Call (.Name x p) (e :: es) [] pos) (Te g W (Pw g) (eCal h fs)) := se_callB hc (B.gl hg) hm hv ha hn hd hs hs'
theorem w_ty {id : String} {e : Expr} {es : List Expr} {fs : List (M D)} {h : List D → Option D} (B : Bd g W X k N sc ws) (hm : X.mg x = none) (hg : glB sc x = true) (hc : CalD g W X (.type id) h) (ha : PA X (e :: es) (Tao g W (evs fs))) (hv : bootBuiltins x = some (.type id) := by rfl)
    (hn : x ≠ "__name__" := by decide) (hd : (x == ("__debug__" : Str)) = false := by decide) (hs : notStar e = true := by rfl) (hs' : es.all notStar = true := by rfl) : PE X (.Call (.Name x p) (e :: es) [] pos) (Te g W (Pw g) (eCal h fs)) := se_callTy hc (B.gl hg) hm hv ha hn hd hs hs'
theorem a_nm {es : List Expr} {as : List Ar} (B : Bd g W X k N sc ws) (i : Nat) (v : visB sc x = true) (h : N[i]? = some x) (h2 : PA X es (Tar g W as)) : PA X (.Name x p :: es) (Tar g W (.nm i :: as)) :=
  sar_nm (by rw [B.nn]; exact h) (by rw [B.sn]; exact visB_ok v) (B.okn h).1 (B.okn h).2 h2
theorem a_ex {e : Expr} {es : List Expr} {f : M D} {as : List Ar} (h1 : PE X e (Te g W (Ps g) f)) (h2 : PA X es (Tar g W as)) (hs : notStar e = true := by rfl) : PA X (e :: es) (Tar g W (.ex f :: as)) := sar_ex h1 h2 hs
theorem o_cons {e : Expr} {es : List Expr} {f : M D} {fs : List (M D)} (h1 : PE X e (Te g W (Po g) f)) (h2 : PA X es (Tao g W (evs fs))) (hs : notStar e = true := by rfl) : PA X (e :: es) (Tao g W (evs (f :: fs))) := sao_cons h1 h2 hs
theorem s_cons {e : Expr} {es : List Expr} {f : M D} {fs : List (M D)} (h1 : PE X e (Te g W (Ps g) f)) (h2 : PA X es (Tas g W (evs fs))) (hs : notStar e = true := by rfl) : PA X (e :: es) (Tas g W (evs (f :: fs))) := sas_cons h1 h2 hs
theorem s_call {n : Nat} {Φ : Fn} {e : Expr} {es : List Expr} {as : List Ar} (B : Bd g W X k N sc ws) (c : Cl g X.mg X.base k x n Φ) (hg : glB sc x = true) (ha : PA X (e :: es) (Tar g W as)) (hn : as.length = n := by rfl)
    (hd : (x == ("__debug__" : Str)) = false := by decide) (hs : notStar e = true := by rfl) (hs' : es.all notStar = true := by rfl) : PE X (.Call (.Name x p) (e :: es) [] pos) (Te g W (Ps g) (eCall Φ as)) := se_call c B.at_ B.hr B.gd (B.gl hg) ha hn hd hs hs'
theorem w_isi {T : String} {y : Str} {e : Expr} {f : M D} {q : Pos} (B : Bd g W X k N sc ws) (hm : X.mg "isinstance" = none) (hg : glB sc "isinstance" = true) (hmT : X.mg y = none) (hgT : glB sc y = true) (he : PE X e (Te g W (Po g) f)) (hv : bootBuiltins y = some (.type T) := by rfl)
    (hn : y ≠ "__name__" := by decide) (hd : (y == ("__debug__" : Str)) = false := by decide) (hs : notStar e = true := by rfl) : PE X (.Call (.Name "isinstance" p) [e, .Name y q] [] pos) (Te g W (Pw g) (eIsi T f)) :=
  se_isi B.at_ (B.gl hg) hm (B.gl hgT) hmT hv hn hd he hs
theorem s_ix {a b : Expr} {fa fb : M D} (B : Bd g W X k N sc ws) (ha : PE X a (Te g W (Po g) fa)) (hb : PE X b (Te g W (Po g) fb)) (hs : noSlice b = true := by rfl) : PE X (.Subscript a b pos) (Te g W (Ps g) (eBin ixA fa fb)) := se_ix (ixA_ok B.at_) ha hb hs
theorem w_cmp [Anti (Pw g)] {a b : Expr} {op : CmpOp} {fa fb : M D} {h : D → D → Option D} (o : Op2 g X (compareOp op) (Pw g) h) (ha : PE X a (Te g W (Po g) fa)) (hb : PE X b (Te g W (Po g) fb)) (hm : behindInMarks op b = false := by with_unfolding_all rfl) :
    PE X (.Compare a [op] [b] pos) (Te g W (Pw g) (eBin h fa fb)) := se_cmp o ha hb hm
theorem t_cmp {a b : Expr} {op : CmpOp} {fa fb : M D} {h : D → D → Option D} (o : Op2 g X (compareOp op) (Pw g) h) (ha : PE X a (Te g W (Po g) fa)) (hb : PE X b (Te g W (Po g) fb)) (hm : behindInMarks op b = false := by with_unfolding_all rfl) :
    PT X (.Compare a [op] [b] pos) (Tt g W (MP.tCmp h fa fb)) := st_cmp o ha hb hm
theorem t_val (B : Bd g W X k N sc ws) {a : Expr} {fa : M D} (ha : PE X a (Te g W (Po g) fa)) (he : ∀ whole, isTrue a X.env whole = (do let v ← whole; standAt a.pos; holding [v] (truthy v)) := by intro _; rfl) : PT X a (Tt g W (tVal fa)) := st_val B.at_ ha he
theorem w_ch {a b c : Expr} {op op' : CmpOp} {ops : List CmpOp} {es : List Expr} {fa : M D} {ls : List Lk} (ha : PE X a (Te g W (Po g) fa)) (k : ChP g W X (op :: op' :: ops) (b :: c :: es) ls) (hm : lastMarks (op :: op' :: ops) (b :: c :: es) = false := by with_unfolding_all rfl) :
    PE X (.Compare a (op :: op' :: ops) (b :: c :: es) pos) (Te g W (Pw g) (eCh fa ls)) := se_ch ha k hm
theorem t_ch {a b c : Expr} {op op' : CmpOp} {ops : List CmpOp} {es : List Expr} {fa : M D} {ls : List Lk} (ha : PE X a (Te g W (Po g) fa)) (k : ChP g W X (op :: op' :: ops) (b :: c :: es) ls) (hm : lastMarks (op :: op' :: ops) (b :: c :: es) = false := by with_unfolding_all rfl) :
    PT X (.Compare a (op :: op' :: ops) (b :: c :: es) pos) (Tt g W (MP.tCh fa ls)) := st_ch ha k hm
theorem i_rg1 (B : Bd g W X k N sc ws) {tg a : Expr} {f : M D} (hm : X.mg "range" = none) (hg : glB sc "range" = true) (ha : PE X a (Te g W (Po g) f)) (hs : notStar a = true := by rfl) : PI X tg (.Call (.Name "range" p) [a] [] pos) (Ti g W (iRg1 f)) := si_rg1 (B.gl hg) hm ha hs
theorem i_rg2 (B : Bd g W X k N sc ws) {tg a b : Expr} {f f' : M D} (hm : X.mg "range" = none) (hg : glB sc "range" = true) (ha : PE X a (Te g W (Po g) f)) (hb : PE X b (Te g W (Po g) f')) (hs : notStar a = true := by rfl) (hs2 : notStar b = true := by rfl) : PI X tg (.Call (.Name "range" p) [a, b] [] pos) (Ti g W (iRg2 f f')) := si_rg2 (B.gl hg) hm ha hb hs hs2
/-- statements -/
theorem y_setV (B : Bd g W X k N sc ws) (i : Nat) {e : Expr} {f : M D} {p' : Pos} (v : locB ws x = true) (h : N[i]? = some x) (he : PE X e (Te g W (Ps g) f)) (hs : swapsWith e (some (.Name x p')) pos.line X.env = pure false := by rfl) : PS X (.Assign [.Name x p'] e pos) (Ts g W (mSetV i f)) :=
  ss_setV (by rw [B.nn]; exact B.nd) (by rw [B.nn]; exact h) (by rw [B.sn]; exact (B.fn _ (locB_ok v)).1) he hs (by rw [B.sn]; exact (B.fn _ (locB_ok v)).2)
theorem y_setO (B : Bd g W X k N sc ws) (i : Nat) {e : Expr} {f : M D} {p' : Pos} (v : locB ws x = true) (h : N[i]? = some x) (he : PE X e (Te g W (Pw g) f)) (hs : swapsWith e (some (.Name x p')) pos.line X.env = pure false := by rfl) : PS X (.Assign [.Name x p'] e pos) (Ts g W (mSetO i f)) :=
  ss_setO (by rw [B.nn]; exact B.nd) (by rw [B.nn]; exact h) (by rw [B.sn]; exact (B.fn _ (locB_ok v)).1) he hs (by rw [B.sn]; exact (B.fn _ (locB_ok v)).2)
theorem y_st (B : Bd g W X k N sc ws) (i : Nat) {ke e : Expr} {fk fv : M D} {p1 p2 : Pos} (v : visB sc x = true) (h : N[i]? = some x) (hk : PE X ke (Te g W (Po g) fk)) (he : PE X e (Te g W (Ps g) fv)) (hs : swapsWithSole [.Subscript (.Name x p1) ke p2] e pos.line X.env = pure false := by rfl) (hw : swappedStores [.Subscript (.Name x p1) ke p2] e X.env = pure none := by rfl)
    (h1 : (assignEach [.Subscript (.Name x p1) ke p2] X.env).map (·.2) = [assign (.Subscript (.Name x p1) ke p2) X.env] := by rfl)
    (ha : ∀ v, assign (.Subscript (.Name x p1) ke p2) X.env v = (do
      let ov ← holding [v] (eval (.Name x p1) X.env)
      let iv ← holding [v, ov] (eval ke X.env)
      standAt p2
      holding [v, ov, iv] (setItem ov iv v)
      release [v, ov, iv] []) := by intro _; rfl) : PS X (.Assign [.Subscript (.Name x p1) ke p2] e pos) (Ts g W (mSt i fk fv)) :=
  ss_st B.at_ (by rw [B.nn]; exact h) (by rw [B.sn]; exact visB_ok v) (B.okn h).1 (B.okn h).2 hk he hs hw h1 ha
theorem y_app (B : Bd g W X k N sc ws) (i : Nat) {e : Expr} {fv : M D} {p1 p2 p3 : Pos} (v : visB sc x = true) (h : N[i]? = some x) (he : PE X e (Te g W (Ps g) fv)) (hst : notStar e = true := by rfl)
    (hs : swapsWith (.Call (.Attribute (.Name x p1) "append" p2) [e] [] p3) none pos.line X.env = pure false := by rfl)
    (hbase : attributeBase (.Name x p1) "append" X.env (eval (.Name x p1) X.env) = eval (.Name x p1) X.env := by rfl)
    (hline : (p2.endLine == p3.line) = true := by rfl) : PS X (.Expr (.Call (.Attribute (.Name x p1) "append" p2) [e] [] p3) pos) (Ts g W (mApp i fv)) :=
  ss_app B.at_ (by rw [B.nn]; exact h) (by rw [B.sn]; exact visB_ok v) (B.okn h).1 (B.okn h).2 he hst hs hbase hline
theorem y_iadd (B : Bd g W X k N sc ws) (i : Nat) {e : Expr} {fv : M D} {p1 : Pos} (v : locB ws x = true) (h : N[i]? = some x) (he : PE X e (Te g W (Ps g) fv)) : PS X (.AugAssign (.Name x p1) .Add e pos) (Ts g W (mAug addI i fv)) :=
  ss_aug B.at_ (by rw [B.nn]; exact B.nd) (by rw [B.nn]; exact h) (by rw [B.sn]; exact (B.fn _ (locB_ok v)).1) op2_iadd he (by rw [B.sn]; exact (B.fn _ (locB_ok v)).2)
theorem y_for (B : Bd g W X k N sc ws) (hp : PassesOwn (model X.prog X.w) X.A X.env X.xe) {tgt iter : Expr} {body : List Stmt} {src : M (List D)} {p : Pt} {f : MS} (hi : PI X tgt iter (Ti g W src)) (ht : PG X tgt (Gt g p)) (hb : PSs X body (Ts g W f))
    (hs : ∀ x, foldedSetIterable iter X.env x = pure x := by intro _; rfl) : PS X (.For tgt iter body [] pos) (Ts g W (mFor src (pTg p) f)) := ss_for hp B.calm hi ht hb hs
/-- comprehensions -/
theorem w_lc (B : Bd g W X k N sc ws) {elt tg iter : Expr} {ifs : List Expr} {src : M (List D)} {p : Pt} {tt : M Bool} {te : M D} (own : List (Str × Nat)) (ok : blkC N sc sc' own = true) (hk : sc'.kind = .function) (hi : PI X tg iter (Ti g W src))
    (hb : ∀ (X' : Cx), X'.mg = X.mg → X'.base = X.base → Bd g W0 X' k N (relS sc' sc) sc' → PG X' tg (Gt g p) ∧ PTs X' ifs (Tt g W0 tt) ∧ PE X' elt (Te g W0 (Ps g) te)) (hp : p.at.all (fun i => (own.map (·.2)).contains i) = true := by rfl)
    (hs : ∀ x, foldedSetIterable iter X.env x = pure x := by intro _; rfl) : PE X (.ListComp elt [⟨tg, iter, ifs, 0⟩] sc' pos) (Te g W (Pw g) (eLc (own.map (·.2)) src p tt te)) :=
  se_lc B.calm (by rw [B.nn]; exact B.nd) hi (by rw [B.nn, B.sn]; exact blkOk_by ok) (fun s H C cl fp => (hb (X.blk s H sc' (compEnvC sc' cl C X.env) fp) rfl rfl (B.blk hk s H C cl fp)).1) (fun s H C cl fp => (hb (X.blk s H sc' (compEnvC sc' cl C X.env) fp) rfl rfl (B.blk hk s H C cl fp)).2.1) (fun s H C cl fp => (hb (X.blk s H sc' (compEnvC sc' cl C X.env) fp) rfl rfl (B.blk hk s H C cl fp)).2.2)
    (fun i hi => by simpa using List.all_eq_true.mp hp i hi) hs
theorem y_lc (B : Bd g W X k N sc ws) (i : Nat) {spos py : Pos} {elt tg iter : Expr} {ifs : List Expr} {src : M (List D)} {p : Pt} {tt : M Bool} {te : M D} (own : List (Str × Nat)) (v : lclB sc x = true) (h : N[i]? = some x) (ok : blkC N sc sc' own = true) (hk : sc'.kind = .function) (hi : PI X tg iter (Ti g W src))
    (hb : ∀ (X' : Cx), X'.mg = X.mg → X'.base = X.base → Bd g W0 X' k N (relS sc' sc) sc' → PG X' tg (Gt g p) ∧ PTs X' ifs (Tt g W0 tt) ∧ PE X' elt (Te g W0 (Ps g) te)) (hl : (py.line == pos.line) = true := by rfl)
    (ha : (sc'.names.any fun (n, k) => n == x && (k == .local || k == .cell)) = false := by decide +kernel) (hp : p.at.all (fun i => (own.map (·.2)).contains i) = true := by rfl)
    (hs : ∀ x, foldedSetIterable iter X.env x = pure x := by intro _; rfl) : PS X (.Assign [.Name x py] (.ListComp elt [⟨tg, iter, ifs, 0⟩] sc' pos) spos) (Ts g W (mSetO i (eLc (own.map (·.2)) src p tt te))) :=
  ss_setLc B.calm (by rw [B.nn]; exact B.nd) (by rw [B.nn]; exact h) (by rw [B.sn]; exact lclB_ok v) (sw_true (by rw [B.sn]; exact B.fun_) (by rw [B.sn]; exact lclB_ok v) hl ha) hi (by rw [B.nn, B.sn]; exact blkOk_by ok) (fun s H C cl fp => (hb (X.blk s H sc' (compEnvC sc' cl C X.env) fp) rfl rfl (B.blk hk s H C cl fp)).1) (fun s H C cl fp => (hb (X.blk s H sc' (compEnvC sc' cl C X.env) fp) rfl rfl (B.blk hk s H C cl fp)).2.1) (fun s H C cl fp => (hb (X.blk s H sc' (compEnvC sc' cl C X.env) fp) rfl rfl (B.blk hk s H C cl fp)).2.2)
    (fun i hi => by simpa using List.all_eq_true.mp hp i hi) hs
theorem w_dc (B : Bd g W X k N sc ws) {kx vx tg iter : Expr} {ifs : List Expr} {src : M (List D)} {p : Pt} {tt : M Bool} {tk tv : M D} (own : List (Str × Nat)) (ok : blkC N sc sc' own = true) (hk : sc'.kind = .function) (hi : PI X tg iter (Ti g W src))
    (hb : ∀ (X' : Cx), X'.mg = X.mg → X'.base = X.base → Bd g W0 X' k N (relS sc' sc) sc' → PG X' tg (Gt g p) ∧ PTs X' ifs (Tt g W0 tt) ∧ PE X' kx (Te g W0 (Ps g) tk) ∧ PE X' vx (Te g W0 (Ps g) tv)) (hp : p.at.all (fun i => (own.map (·.2)).contains i) = true := by rfl)
    (hs : ∀ x, foldedSetIterable iter X.env x = pure x := by intro _; rfl) : PE X (.DictComp kx vx [⟨tg, iter, ifs, 0⟩] sc' pos) (Te g W (Pw g) (eDc (own.map (·.2)) src p tt tk tv)) :=
  se_dc B.at_ B.calm (by rw [B.nn]; exact B.nd) hi (by rw [B.nn, B.sn]; exact blkOk_by ok) (fun s H C cl fp => (hb (X.blk s H sc' (compEnvC sc' cl C X.env) fp) rfl rfl (B.blk hk s H C cl fp)).1) (fun s H C cl fp => (hb (X.blk s H sc' (compEnvC sc' cl C X.env) fp) rfl rfl (B.blk hk s H C cl fp)).2.1) (fun s H C cl fp => (hb (X.blk s H sc' (compEnvC sc' cl C X.env) fp) rfl rfl (B.blk hk s H C cl fp)).2.2.1) (fun s H C cl fp => (hb (X.blk s H sc' (compEnvC sc' cl C X.env) fp) rfl rfl (B.blk hk s H C cl fp)).2.2.2)
    (fun i hi => by simpa using List.all_eq_true.mp hp i hi) hs
theorem y_dc (B : Bd g W X k N sc ws) (i : Nat) {spos py : Pos} {kx vx tg iter : Expr} {ifs : List Expr} {src : M (List D)} {p : Pt} {tt : M Bool} {tk tv : M D} (own : List (Str × Nat)) (v : lclB sc x = true) (h : N[i]? = some x) (ok : blkC N sc sc' own = true) (hk : sc'.kind = .function) (hi : PI X tg iter (Ti g W src))
    (hb : ∀ (X' : Cx), X'.mg = X.mg → X'.base = X.base → Bd g W0 X' k N (relS sc' sc) sc' → PG X' tg (Gt g p) ∧ PTs X' ifs (Tt g W0 tt) ∧ PE X' kx (Te g W0 (Ps g) tk) ∧ PE X' vx (Te g W0 (Ps g) tv)) (hl : (py.line == pos.line) = true := by rfl)
    (ha : (sc'.names.any fun (n, k) => n == x && (k == .local || k == .cell)) = false := by decide +kernel) (hp : p.at.all (fun i => (own.map (·.2)).contains i) = true := by rfl)
    (hs : ∀ x, foldedSetIterable iter X.env x = pure x := by intro _; rfl) : PS X (.Assign [.Name x py] (.DictComp kx vx [⟨tg, iter, ifs, 0⟩] sc' pos) spos) (Ts g W (mSetO i (eDc (own.map (·.2)) src p tt tk tv))) :=
  ss_setDc B.at_ B.calm (by rw [B.nn]; exact B.nd) (by rw [B.nn]; exact h) (by rw [B.sn]; exact lclB_ok v) (sw_trueD (by rw [B.sn]; exact B.fun_) (by rw [B.sn]; exact lclB_ok v) hl ha) hi (by rw [B.nn, B.sn]; exact blkOk_by ok) (fun s H C cl fp => (hb (X.blk s H sc' (compEnvC sc' cl C X.env) fp) rfl rfl (B.blk hk s H C cl fp)).1) (fun s H C cl fp => (hb (X.blk s H sc' (compEnvC sc' cl C X.env) fp) rfl rfl (B.blk hk s H C cl fp)).2.1) (fun s H C cl fp => (hb (X.blk s H sc' (compEnvC sc' cl C X.env) fp) rfl rfl (B.blk hk s H C cl fp)).2.2.1) (fun s H C cl fp => (hb (X.blk s H sc' (compEnvC sc' cl C X.env) fp) rfl rfl (B.blk hk s H C cl fp)).2.2.2)
    (fun i hi => by simpa using List.all_eq_true.mp hp i hi) hs
end
/-- a def of the table, by its body -/
theorem cl_of {g : G} {mg : Str → Option Value} {base : Heap} {fa : List He.Fa} {fn : List He.DefD} (c : He.SaysD fa fn g.K) (KI : g.K.In base) (Gn : base.Ns mainGlobals mg) (i j : Nat) {d : He.DefD} {k n : Nat} {m : MS} {N ps : List Str}
    (hd : fn[i]? = some d) (hj : fa[j]? = some (.glo d.name)) (hat : d.at_ = (d.name, none)) (hdf : d.dfl = []) (hn : ps.length = n) (SC : FnScope N ps d.scope) (ok : N.all okN = true)
    (hbind : ∀ (kV doc pm : Value) (an : Option Addr) (cdv ct : Value) (us : List Value), us.length = ps.length → bindArgs (PySem.W.fnOf d.name d.qual d.params d.body d.scope .none kV doc pm an cdv ct) ⟨us, []⟩ = pure (ps.zip us))
    (hb : ∀ {W : WX} {X : Cx}, X.mg = mg → X.base = base → Bd g W X k N d.scope d.scope → PassesOwn (model X.prog X.w) X.A X.env X.xe → PSs X d.body (Ts g W m)) : Cl g mg base (k + 1) d.name n (runF N.length m) := by
  obtain ⟨fd, F⟩ := c.def_ i hd
  have hm := He.glo_ok KI Gn (c.fact j hj)
  have ef : He.fAd g.K d.at_ = He.ga g.K d.name := by rw [hat]; rfl
  have e0 : d.dvs g.K = [] := by unfold He.DefD.dvs; rw [hdf]; rfl
  rw [ef, e0] at F
  exact ⟨_, fd, ps, hm, F.kp, F.bindsN hbind, hn, fnG_of F SC fun cdv A outer s H E hr hgd => hb rfl rfl (body_bd hr hgd SC.nd ok SC.kind) body_passes⟩
end MP

/-! EV: evaluation of pure readings: equations for simp, rules for loops and comprehensions. -/
namespace MP
open PySem PySem.Spec PyProof.Rows L2

section
variable {α β : Type} {S S' : Sx}
@[simp] theorem ev_bind (x : M α) (f : α → M β) (s : Sx) : (x >>= f) s = match x s with
  | .ok a s' => f a s'
  | .ex c fs s' => .ex c fs s'
  | .no => .no := (rfl)
@[simp] theorem ev_pure (a : α) (s : Sx) : (pure a : M α) s = .ok a s := (rfl)
@[simp] theorem ev_mo (x : Option α) (s : Sx) : Mo x s = match x with
  | some a => .ok a s
  | none => .no := (rfl)
@[simp] theorem ev_seq (f k : MS) (s : Sx) : mSeq f k s = (f >>= fun o => match o with
  | .nx => k
  | o => pure o) s := (rfl)
@[simp] theorem ev_if (t : M Bool) (a b : MS) (s : Sx) : mIf t a b s = (t >>= fun k => if k = true then a else b) s := (rfl)
@[simp] theorem ev_ite {c : Prop} [Decidable c] (a b : M α) (s : Sx) : (if c then a else b : M α) s = if c then a s else b s := by split <;> rfl
@[simp] theorem ev_nx (s : Sx) : mNx s = .ok .nx s := (rfl)
@[simp] theorem ev_bk (s : Sx) : mBk s = .ok .bk s := (rfl)
@[simp] theorem ev_ct (s : Sx) : mCt s = .ok .ct s := (rfl)
@[simp] theorem ev_rt (f : M D) (s : Sx) : mRt f s = (f >>= fun d => pure (.rt d)) s := (rfl)
@[simp] theorem ev_drop (f : M D) (s : Sx) : mDrop f s = (f >>= fun _ => pure .nx) s := (rfl)
@[simp] theorem ev_c (d : D) (s : Sx) : eC d s = .ok d s := (rfl)
@[simp] theorem ev_s (x : Str) (s : Sx) : eS x s = .ok (.str x.cps.toList) s := (rfl)
@[simp] theorem ev_d0 (s : Sx) : eDct0 s = .ok (.dct []) s := (rfl)
@[simp] theorem ev_o (i : Nat) (s : Sx) : oVar i s = match s[i]? with
  | some (.va d) => .ok d s
  | some (.ow d) => .ok d s
  | _ => .no := (rfl)
@[simp] theorem ev_e (i : Nat) (s : Sx) : eVar i s = match s[i]? with
  | some (.va d) => .ok d s
  | some (.ow d) => .ok d (s.set i (.va d))
  | _ => .no := (rfl)
@[simp] theorem ev_bin (h : D → D → Option D) (fa fb : M D) (s : Sx) : eBin h fa fb s = (fa >>= fun x => fb >>= fun y => Mo (h x y)) s := (rfl)
@[simp] theorem ev_un (h : D → Option D) (fa : M D) (s : Sx) : eUn h fa s = (fa >>= fun x => Mo (h x)) s := (rfl)
@[simp] theorem ev_not (fa : M D) (s : Sx) : eNot fa s = eUn notV fa s := (rfl)
@[simp] theorem ev_cmp (h : D → D → Option D) (fa fb : M D) (s : Sx) : MP.tCmp h fa fb s = (eBin h fa fb >>= fun x => Mo (blOf x)) s := (rfl)
@[simp] theorem ev_tval (fa : M D) (s : Sx) : tVal fa s = (fa >>= fun x => Mo (truthD x)) s := (rfl)
@[simp] theorem ev_tnot (t : M Bool) (s : Sx) : MP.tNot t s = (t >>= fun k => pure (!k)) s := (rfl)
@[simp] theorem ev_tand (t u : M Bool) (s : Sx) : MP.tAnd t u s = (t >>= fun k => if k = true then u else pure false) s := (rfl)
@[simp] theorem ev_tor (t u : M Bool) (s : Sx) : MP.tOr t u s = (t >>= fun k => if k = true then pure true else u) s := (rfl)
@[simp] theorem ev_eand (fa fb : M D) (s : Sx) : eAnd fa fb s = (fa >>= fun x => Mo (truthD x) >>= fun k => if k = true then fb else pure x) s := (rfl)
@[simp] theorem ev_eor (fa fb : M D) (s : Sx) : eOr fa fb s = (fa >>= fun x => Mo (truthD x) >>= fun k => if k = true then pure x else fb) s := (rfl)
@[simp] theorem ev_eif (t : M Bool) (fa fb : M D) (s : Sx) : eIf t fa fb s = (t >>= fun k => if k = true then fa else fb) s := (rfl)
@[simp] theorem ev_evs0 (s : Sx) : evs [] s = .ok [] s := (rfl)
@[simp] theorem ev_evs1 (f : M D) (fs : List (M D)) (s : Sx) : evs (f :: fs) s = (f >>= fun d => evs fs >>= fun ds => pure (d :: ds)) s := (rfl)
@[simp] theorem ev_tup (fs : List (M D)) (s : Sx) : eTup fs s = (evs fs >>= fun ds => Mo (tupD ds)) s := (rfl)
@[simp] theorem ev_lst (fs : List (M D)) (s : Sx) : eLst fs s = (evs fs >>= fun ds => Mo (lstD ds)) s := (rfl)
@[simp] theorem ev_cal (h : List D → Option D) (fs : List (M D)) (s : Sx) : eCal h fs s = (evs fs >>= fun ds => Mo (h ds)) s := (rfl)
@[simp] theorem ev_isi (T : String) (f : M D) (s : Sx) : eIsi T f s = (f >>= fun d => Mo (isiD T d)) s := (rfl)
@[simp] theorem ev_m1 (h : D → D → Option D) (fo fe : M D) (s : Sx) : eM1 h fo fe s = (fo >>= fun x => Mo (strO x) >>= fun _ => fe >>= fun y => Mo (h x y)) s := (rfl)
@[simp] theorem ev_sl (fa : M D) (lo hi : Option (M D)) (s : Sx) : eSl fa lo hi s = (fa >>= fun x => ePart lo >>= fun l => ePart hi >>= fun h => Mo (slD l h x)) s := (rfl)
@[simp] theorem ev_part0 (s : Sx) : ePart none s = .ok none s := (rfl)
@[simp] theorem ev_part1 (f : M D) (s : Sx) : ePart (some f) s = (f >>= fun x => Mo (intOf x) >>= fun i => pure (some i)) s := (rfl)
@[simp] theorem ev_ch (fa : M D) (ls : List Lk) (s : Sx) : eCh fa ls s = (fa >>= fun x => chM x ls) s := (rfl)
@[simp] theorem ev_tch (fa : M D) (ls : List Lk) (s : Sx) : MP.tCh fa ls s = (eCh fa ls >>= fun x => Mo (blOf x)) s := (rfl)
@[simp] theorem ev_ch1 (x : D) (h : D → D → Option D) (f : M D) (s : Sx) : chM x [(h, f)] s = (f >>= fun y => Mo (h x y)) s := (rfl)
@[simp] theorem ev_ch2 (x : D) (h : D → D → Option D) (f : M D) (l : Lk) (r : List Lk) (s : Sx) : chM x ((h, f) :: l :: r) s = (f >>= fun y => Mo ((h x y).bind blOf) >>= fun k => if k = true then chM y (l :: r) else pure (.bl false)) s := (rfl)
@[simp] theorem ev_setV (i : Nat) (f : M D) (s : Sx) : mSetV i f s = (f >>= slV i) s := (rfl)
@[simp] theorem ev_slV (i : Nat) (d : D) (s : Sx) : slV i d s = .ok .nx (s.set i (.va d)) := (rfl)
@[simp] theorem ev_setO (i : Nat) (f : M D) (s : Sx) : mSetO i f s = (f >>= slO i) s := (rfl)
@[simp] theorem ev_slO (i : Nat) (d : D) (s : Sx) : slO i d s = .ok .nx (s.set i (if isCont d = true then .ow d else .va d)) := (rfl)
@[simp] theorem ev_asg (p : Pt) (f : M D) (s : Sx) : mAsg p f s = (f >>= fun d => pTg p d >>= fun _ => pure .nx) s := (rfl)
@[simp] theorem ev_ptg (p : Pt) (d : D) (s : Sx) : pTg p d s = match p.go d s with
  | some s2 => .ok () s2
  | none => .no := (rfl)
@[simp] theorem ev_app (i : Nat) (fv : M D) (s : Sx) : mApp i fv s = (slOwnL i >>= fun _ => fv >>= fun v => slApp i v) s := (rfl)
@[simp] theorem ev_slownl (i : Nat) (s : Sx) : slOwnL i s = match s[i]? with
  | some (.ow (.lst _)) => .ok () s
  | _ => .no := (rfl)
@[simp] theorem ev_slapp (i : Nat) (v : D) (s : Sx) : slApp i v s = match s[i]? with
  | some (.ow (.lst xs)) => if xs.length < sizeLine then .ok .nx (s.set i (.ow (.lst (xs ++ [v])))) else .no
  | _ => .no := (rfl)
@[simp] theorem ev_st (i : Nat) (fk fv : M D) (s : Sx) : mSt i fk fv s = (fv >>= fun v => slOwn i >>= fun _ => fk >>= fun k => slSet i k v) s := (rfl)
@[simp] theorem ev_slown (i : Nat) (s : Sx) : slOwn i s = match s[i]? with
  | some (.ow _) => .ok () s
  | _ => .no := (rfl)
@[simp] theorem ev_slset (i : Nat) (k v : D) (s : Sx) : slSet i k v s = match s[i]? with
  | some (.ow d) => (match setD d k v with
    | some d' => .ok .nx (s.set i (.ow d'))
    | none => .no)
  | _ => .no := (rfl)
@[simp] theorem ev_aug (h : D → D → Option D) (i : Nat) (fv : M D) (s : Sx) : mAug h i fv s = (oVar i >>= fun _ => fv >>= fun v => slAug h i v) s := (rfl)
@[simp] theorem ev_slaug (h : D → D → Option D) (i : Nat) (v : D) (s : Sx) : slAug h i v s = match s[i]? with
  | some (.va d) => (match h d v with
    | some d' => .ok .nx (s.set i (.va d'))
    | none => .no)
  | _ => .no := (rfl)
@[simp] theorem ev_for (src : M (List D)) (tg : D → M Unit) (b : MS) (s : Sx) : mFor src tg b s = (src >>= fun ds => forGo tg b ds) s := (rfl)
@[simp] theorem ev_iseq (f : M D) (s : Sx) : iSeq f s = (f >>= fun d => Mo (itemsD d)) s := (rfl)
@[simp] theorem ev_rg1 (f : M D) (s : Sx) : iRg1 f s = (evs [f] >>= fun ds => Mo (range1D ds)) s := (rfl)
@[simp] theorem ev_rg2 (f k : M D) (s : Sx) : iRg2 f k s = (evs [f, k] >>= fun ds => Mo (range2D ds)) s := (rfl)
@[simp] theorem ev_call (Φ : Fn) (as : List Ar) (s : Sx) : eCall Φ as s = (arEv as >>= callM Φ as) s := (rfl)
@[simp] theorem ev_callM (Φ : Fn) (as : List Ar) (os : List (Option D)) (s : Sx) : callM Φ as os s = match arRead s as os with
  | none => .no
  | some ds => (match Φ ds with
    | .ok d => .ok d (if flatD d = true then s else frzs s (arNm as))
    | .ex c fs => .ex c fs s
    | .no => .no) := (rfl)
@[simp] theorem ev_ar0 (s : Sx) : arEv [] s = .ok [] s := (rfl)
@[simp] theorem ev_ar1 (i : Nat) (r : List Ar) (s : Sx) : arEv (.nm i :: r) s = (oVar i >>= fun _ => arEv r >>= fun ds => pure (none :: ds)) s := (rfl)
@[simp] theorem ev_ar2 (f : M D) (r : List Ar) (s : Sx) : arEv (.ex f :: r) s = (f >>= fun d => arEv r >>= fun ds => pure (some d :: ds)) s := (rfl)
@[simp] theorem ev_tyes (s : Sx) : tYesM s = .ok true s := (rfl)
end
/-! ### operators on sorts -/
section
variable {i j : Int} {x y : List Nat} {xs ys : List D} {a b : Bool} {d : D}
@[simp] theorem addD_int : addD (.int i) (.int j) = some (.int (i + j)) := (rfl)
@[simp] theorem addD_str : addD (.str x) (.str y) = if x.length + y.length ≤ sizeLine then some (.str (x ++ y)) else none := (rfl)
@[simp] theorem addD_tup : addD (.tup xs) (.tup ys) = if xs.length + ys.length ≤ sizeLine then some (.tup (xs ++ ys)) else none := (rfl)
@[simp] theorem addD_lst : addD (.lst xs) (.lst ys) = if xs.length + ys.length ≤ sizeLine then some (.lst (xs ++ ys)) else none := (rfl)
@[simp] theorem addI_int : addI (.int i) (.int j) = some (.int (i + j)) := (rfl)
@[simp] theorem subD_int : subD (.int i) (.int j) = some (.int (i - j)) := (rfl)
@[simp] theorem mulD_int : mulD (.int i) (.int j) = if smallI i || smallI j then some (.int (i * j)) else none := (rfl)
@[simp] theorem mulD_str : mulD (.str x) (.int j) = if Nat.ble j.natAbs 999 && Nat.ble x.length 999 then some (.str (List.replicate j.toNat x).flatten) else none := (rfl)
@[simp] theorem fdivD_int : fdivD (.int i) (.int j) = if 0 < j ∧ j.natAbs.log2 < 9000 then some (.int (i / j)) else none := (rfl)
@[simp] theorem modD_int : modD (.int i) (.int j) = if 0 < j then some (.int (i % j)) else none := (rfl)
@[simp] theorem powD_int : powD (.int i) (.int j) = if 0 ≤ j ∧ j ≤ 1000000 ∧ i.natAbs < 2 ^ 64 then some (.int (i ^ j.toNat)) else none := (rfl)
@[simp] theorem shlD_int : shlD (.int i) (.int j) = if 0 ≤ j ∧ j ≤ 1000000 ∧ i.natAbs < 2 ^ 64 then some (.int (i * 2 ^ j.toNat)) else none := (rfl)
@[simp] theorem shrD_int : shrD (.int i) (.int j) = if 0 ≤ j then some (.int (i / 2 ^ j.toNat)) else none := (rfl)
@[simp] theorem andD_int : andD (.int i) (.int j) = some (.int (Builtin.bitAnd i j)) := (rfl)
@[simp] theorem negD_int : negD (.int i) = some (.int (-i)) := (rfl)
@[simp] theorem blOf_bl : blOf (.bl a) = some a := (rfl)
@[simp] theorem intOf_int : intOf (.int i) = some i := (rfl)
@[simp] theorem strO_str : strO (.str x) = some () := (rfl)
@[simp] theorem truthD_bl : truthD (.bl a) = some a := (rfl)
@[simp] theorem truthD_int : truthD (.int i) = some (i != 0) := (rfl)
@[simp] theorem truthD_lst : truthD (.lst xs) = some (!xs.isEmpty) := (rfl)
@[simp] theorem truthD_tup : truthD (.tup xs) = some (!xs.isEmpty) := (rfl)
@[simp] theorem truthD_non : truthD .non = some false := (rfl)
@[simp] theorem notV_bl : notV (.bl a) = some (.bl (!a)) := (rfl)
@[simp] theorem ltD_int : ltD (.int i) (.int j) = some (.bl (decide (i < j))) := (rfl)
@[simp] theorem leD_int : leD (.int i) (.int j) = some (.bl (decide (i ≤ j))) := (rfl)
@[simp] theorem gtD_int : gtD (.int i) (.int j) = some (.bl (decide (j < i))) := (rfl)
@[simp] theorem geD_int : geD (.int i) (.int j) = some (.bl (decide (j ≤ i))) := (rfl)
@[simp] theorem eqD_int : eqD (.int i) (.int j) = some (.bl (decide (i = j))) := by simp [eqD, fit, deq]
@[simp] theorem neD_int : neD (.int i) (.int j) = some (.bl (!decide (i = j))) := by simp [neD, fit, deq]
@[simp] theorem eqD_str : eqD (.str x) (.str y) = some (.bl (decide (x = y))) := by simp [eqD, fit, deq]
@[simp] theorem neD_str : neD (.str x) (.str y) = some (.bl (!decide (x = y))) := by simp [neD, fit, deq]
@[simp] theorem absB_int : absB [.int i] = some (.int (if i < 0 then -i else i)) := (rfl)
@[simp] theorem intB_int : intB [.int i] = some (.int i) := (rfl)
@[simp] theorem intB_bl : intB [.bl a] = some (.int (if a = true then 1 else 0)) := (rfl)
@[simp] theorem lenB_lst : lenB [.lst xs] = some (.int xs.length) := (rfl)
@[simp] theorem lenB_tup : lenB [.tup xs] = some (.int xs.length) := (rfl)
@[simp] theorem lenB_str : lenB [.str x] = if x.length ≤ sizeLine then some (.int x.length) else none := (rfl)
@[simp] theorem tupleB_tup : tupleB [.tup xs] = some (.tup xs) := (rfl)
@[simp] theorem tupleB_lst : tupleB [.lst xs] = some (.tup xs) := (rfl)
@[simp] theorem listA_lst : listA [.lst xs] = some (.lst xs) := (rfl)
@[simp] theorem listA_tup : listA [.tup xs] = some (.lst xs) := (rfl)
@[simp] theorem listA_dct {kvs : List (D × D)} : listA [.dct kvs] = some (.lst (kvs.map (·.1))) := (rfl)
@[simp] theorem maxB_int : maxB [.int i, .int j] = some (.int (if j > i then j else i)) := (rfl)
@[simp] theorem minB_int : minB [.int i, .int j] = some (.int (if j < i then j else i)) := (rfl)
@[simp] theorem ixA_lst : ixA (.lst xs) (.int i) = L2.atI xs i := by unfold ixA; simp [ix0, ixDct]
@[simp] theorem ixA_tup : ixA (.tup xs) (.int i) = L2.atI xs i := by unfold ixA; simp [ix0, ixDct]
@[simp] theorem slD_lst {lo hi : Option Int} : slD lo hi (.lst xs) = some (.lst (cut xs lo hi)) := (rfl)
@[simp] theorem slD_tup {lo hi : Option Int} : slD lo hi (.tup xs) = some (.tup (cut xs lo hi)) := (rfl)
@[simp] theorem itemsD_lst : itemsD (.lst xs) = some xs := (rfl)
@[simp] theorem itemsD_tup : itemsD (.tup xs) = some xs := (rfl)
@[simp] theorem itemsD_str : itemsD (.str x) = some (x.map fun c => .str [c]) := (rfl)
@[simp] theorem isCont_lst : isCont (.lst xs) = true := (rfl)
@[simp] theorem isCont_tup : isCont (.tup xs) = false := (rfl)
@[simp] theorem isCont_int : isCont (.int i) = false := (rfl)
@[simp] theorem isCont_str : isCont (.str x) = false := (rfl)
@[simp] theorem isCont_bl : isCont (.bl a) = false := (rfl)
@[simp] theorem isCont_dct {kvs : List (D × D)} : isCont (.dct kvs) = true := (rfl)
@[simp] theorem flatD_lst : flatD (.lst xs) = false := (rfl)
@[simp] theorem flatD_tup : flatD (.tup xs) = false := (rfl)
@[simp] theorem flatD_int : flatD (.int i) = true := (rfl)
@[simp] theorem flatD_str : flatD (.str x) = true := (rfl)
@[simp] theorem flatD_bl : flatD (.bl a) = true := (rfl)
@[simp] theorem flatD_non : flatD .non = true := (rfl)
@[simp] theorem tupD_nil : tupD [] = some (.tup []) := (rfl)
@[simp] theorem lstD_nil : lstD [] = some (.lst []) := (rfl)
@[simp] theorem tupD_1 : tupD [d] = some (.tup [d]) := (rfl)
@[simp] theorem tupD_2 {e : D} : tupD [d, e] = some (.tup [d, e]) := (rfl)
@[simp] theorem tupD_3 {e f : D} : tupD [d, e, f] = some (.tup [d, e, f]) := (rfl)
@[simp] theorem tupD_4 {e f h : D} : tupD [d, e, f, h] = some (.tup [d, e, f, h]) := (rfl)
@[simp] theorem lstD_1 : lstD [d] = some (.lst [d]) := (rfl)
@[simp] theorem lstD_2 {e : D} : lstD [d, e] = some (.lst [d, e]) := (rfl)
@[simp] theorem lstD_3 {e f : D} : lstD [d, e, f] = some (.lst [d, e, f]) := (rfl)
@[simp] theorem go_nm {n : Nat} {S : Sx} : Pt.go (.nm n) d S = some (S.set n (.va d)) := by simp [Pt.go]
@[simp] theorem go_tt {ps : List Pt} {S : Sx} : Pt.go (.tp ps) (.tup xs) S = Pt.gos ps xs S := by simp [Pt.go]
@[simp] theorem go_tl {ps : List Pt} {S : Sx} : Pt.go (.tp ps) (.lst xs) S = Pt.gos ps xs S := by simp [Pt.go]
@[simp] theorem gos_0 {S : Sx} : Pt.gos [] [] S = some S := by simp [Pt.gos]
@[simp] theorem gos_1 {p : Pt} {ps : List Pt} {S : Sx} : Pt.gos (p :: ps) (d :: xs) S = match Pt.go p d S with
  | some S' => Pt.gos ps xs S'
  | none => none := by rw [Pt.gos] <;> rfl
@[simp] theorem arR_0 {S : Sx} : arRead S [] [] = some [] := (rfl)
@[simp] theorem arR_n {S : Sx} {n : Nat} {r : List Ar} {o : Option D} {os : List (Option D)} : arRead S (.nm n :: r) (o :: os) = match slotD S n, arRead S r os with
  | some d, some ds => some (d :: ds)
  | _, _ => none := (rfl)
@[simp] theorem arR_e {S : Sx} {f : M D} {r : List Ar} {os : List (Option D)} : arRead S (.ex f :: r) (some d :: os) = (arRead S r os).map (d :: ·) := (rfl)
@[simp] theorem slot_def {S : Sx} {n : Nat} : slotD S n = match S[n]? with
  | some (.va d) => some d
  | some (.ow d) => some d
  | _ => none := (rfl)
@[simp] theorem arNm_0 : arNm [] = [] := (rfl)
@[simp] theorem arNm_n {n : Nat} {r : List Ar} : arNm (.nm n :: r) = n :: arNm r := (rfl)
@[simp] theorem arNm_e {f : M D} {r : List Ar} : arNm (.ex f :: r) = arNm r := (rfl)
@[simp] theorem frzs_0 {S : Sx} : frzs S [] = S := (rfl)
@[simp] theorem frzs_1 {S : Sx} {n : Nat} {is : List Nat} : frzs S (n :: is) = frzs (frzAt S n) is := (rfl)
@[simp] theorem frzAt_def {S : Sx} {n : Nat} : MP.frzAt S n = match S[n]? with
  | some (.ow d) => S.set n (.va d)
  | _ => S := (rfl)
@[simp] theorem wipeS_0 {S : Sx} : wipeS S [] = S := (rfl)
@[simp] theorem wipeS_1 {S : Sx} {v : Nat} {vs : List Nat} : wipeS S (v :: vs) = (wipeS S vs).set v .un := (rfl)
end
theorem szl : 16777216 ≤ sizeLine := by rw [sizeLine_eq]; omega
theorem smallN {i : Nat} (h : i < 18446744073709551616) : smallI (i : Int) = true := by
  unfold smallI
  exact Nat.ble_eq_true_of_le (by omega)
theorem ixNN {n j : Nat} (h : j < n) : ixN n (j : Int) = some j := by
  unfold ixN
  simp [h]
theorem atI_nat {xs : List D} {j : Nat} : L2.atI xs (j : Int) = xs[j]? := by
  unfold L2.atI
  by_cases h : j < xs.length
  · rw [ixNN h]; rfl
  · have e : ixN xs.length (j : Int) = none := by unfold ixN; simp; omega
    rw [e, List.getElem?_eq_none (by omega)]; rfl
theorem rgD_mem {lo : Int} {n : Nat} {d : D} (h : d ∈ rgD lo n) : ∃ i : Nat, i < n ∧ d = .int (lo + i) := by
  unfold rgD at h
  obtain ⟨i, hi, rfl⟩ := List.mem_map.mp h
  exact ⟨i, List.mem_range.mp hi, rfl⟩
theorem rgD_length {lo : Int} {n : Nat} : (rgD lo n).length = n := by unfold rgD; rw [List.length_map, List.length_range]
@[simp] theorem range1_int {j : Int} : range1D [.int j] = if smallR j then some (rgD 0 j.toNat) else none := (rfl)
theorem smallRN {i : Nat} (h : i < 4611686018427387904) : smallR (i : Int) = true := Nat.ble_eq_true_of_le (by omega)
theorem range1_nat {n : Nat} (h : n < 4611686018427387904) : range1D [.int (n : Int)] = some (rgD 0 n) := by
  have e : smallR (n : Int) = true := Nat.ble_eq_true_of_le (by omega)
  rw [range1_int, if_pos e]; rfl
/-! ### loops -/
/-- a loop that walks all its items: the invariant by what is left -/
theorem for_inv {tg : D → M Unit} {b : MS} (I : List D → Sx → Prop) (step : ∀ d ds S, I (d :: ds) S → ∃ S1, tg d S = .ok () S1 ∧ ∃ S2, (b S1 = .ok .nx S2 ∨ b S1 = .ok .ct S2) ∧ I ds S2) :
    ∀ {ds : List D} {S : Sx}, I ds S → ∃ S', forGo tg b ds S = .ok .nx S' ∧ I [] S'
  | [], S, h => ⟨S, rfl, h⟩
  | d :: ds, S, h => by
    obtain ⟨S1, h1, S2, h2, h3⟩ := step d ds S h
    obtain ⟨S', h4, h5⟩ := for_inv I step h3
    refine ⟨S', ?_, h5⟩
    rw [forGo_cons, ev_bind, h1]
    dsimp only
    rw [ev_bind]
    rcases h2 with h2 | h2 <;> (rw [h2]; exact h4)
/-- one that may leave the def or break -/
theorem for_inv' {tg : D → M Unit} {b : MS} (I : List D → Sx → Prop) (R : Ou Fl → Prop) (nil : ∀ S, I [] S → R (.ok .nx S))
    (step : ∀ d ds S, I (d :: ds) S → ∃ S1, tg d S = .ok () S1 ∧ ((∃ S2, (b S1 = .ok .nx S2 ∨ b S1 = .ok .ct S2) ∧ I ds S2) ∨ (∃ S2, b S1 = .ok .bk S2 ∧ R (.ok .nx S2)) ∨ (∃ e S2, b S1 = .ok (.rt e) S2 ∧ R (.ok (.rt e) S2)) ∨ ∃ c fs S2, b S1 = .ex c fs S2 ∧ R (.ex c fs S2))) :
    ∀ {ds : List D} {S : Sx}, I ds S → R (forGo tg b ds S)
  | [], S, h => nil S h
  | d :: ds, S, h => by
    obtain ⟨S1, h1, h2⟩ := step d ds S h
    rw [forGo_cons, ev_bind, h1]
    dsimp only
    rw [ev_bind]
    rcases h2 with ⟨S2, h2, h3⟩ | ⟨S2, h2, h3⟩ | ⟨e, S2, h2, h3⟩ | ⟨c, fs, S2, h2, h3⟩
    · rcases h2 with h2 | h2 <;> (rw [h2]; exact for_inv' I R nil step h3)
    · rw [h2]; exact h3
    · rw [h2]; exact h3
    · rw [h2]; exact h3
/-- a while loop, by a measure -/
theorem whileN_mono {c : M Bool} {b : MS} : ∀ {n m : Nat} {S : Sx}, n ≤ m → whileN c b n S ≠ .no → whileN c b m S = whileN c b n S
  | 0, m, S, _, h => absurd rfl h
  | n + 1, 0, S, h, _ => by omega
  | n + 1, m + 1, S, h, hn => by
    rw [whileN_succ, ev_bind] at hn
    rw [whileN_succ, whileN_succ, ev_bind, ev_bind]
    cases hc : c S with
    | no => rfl
    | ex _ _ _ => rfl
    | ok k S1 =>
      rw [hc] at hn
      dsimp only at hn ⊢
      cases k with
      | false => rfl
      | true =>
        rw [if_pos rfl, ev_bind] at hn
        rw [if_pos rfl, if_pos rfl, ev_bind, ev_bind]
        cases hb : b S1 with
        | no => rfl
        | ex _ _ _ => rfl
        | ok o S2 =>
          rw [hb] at hn
          cases o with
          | nx => exact whileN_mono (by omega) hn
          | ct => exact whileN_mono (by omega) hn
          | bk => rfl
          | rt d => rfl
theorem mWhile_of {c : M Bool} {b : MS} {n : Nat} {S : Sx} {o : Ou Fl} (h : whileN c b n S = o) (hn : o ≠ .no) : mWhile c b S = o := by
  have ex : ∃ n, whileN c b n S ≠ .no := ⟨n, by rw [h]; exact hn⟩
  unfold mWhile
  rw [dif_pos ex]
  have h2 := Classical.choose_spec ex
  rcases Nat.le_total (Classical.choose ex) n with q | q
  · rw [← whileN_mono q h2, h]
  · rw [whileN_mono q (by rw [h]; exact hn), h]
theorem while_inv {c : M Bool} {b : MS} (I : Nat → Sx → Prop) (R : Ou Fl → Prop) (hR : ¬ R .no)
    (step : ∀ n S, I n S → ∃ k S1, c S = .ok k S1 ∧ ((k = false ∧ R (.ok .nx S1)) ∨ (k = true ∧ ((∃ S2, (b S1 = .ok .nx S2 ∨ b S1 = .ok .ct S2) ∧ ∃ m, m < n ∧ I m S2) ∨ (∃ S2, b S1 = .ok .bk S2 ∧ R (.ok .nx S2)) ∨ (∃ e S2, b S1 = .ok (.rt e) S2 ∧ R (.ok (.rt e) S2)) ∨ ∃ cc fs S2, b S1 = .ex cc fs S2 ∧ R (.ex cc fs S2))))) :
    ∀ n S, I n S → R (mWhile c b S) := by
  have main : ∀ n S, I n S → ∃ o, whileN c b (n + 1) S = o ∧ R o := by
    intro n
    induction n using Nat.strongRecOn with
    | _ n ih =>
      intro S hS
      obtain ⟨k, S1, h1, h2⟩ := step n S hS
      rw [whileN_succ, ev_bind, h1]
      dsimp only
      rcases h2 with ⟨rfl, h2⟩ | ⟨rfl, h2⟩
      · exact ⟨_, rfl, h2⟩
      · rw [if_pos rfl, ev_bind]
        rcases h2 with ⟨S2, h3, m, hm, h4⟩ | ⟨S2, h3, h4⟩ | ⟨e, S2, h3, h4⟩ | ⟨cc, fs, S2, h3, h4⟩
        · obtain ⟨o, ho, hr⟩ := ih m hm S2 h4
          have hn : whileN c b n S2 = o := by
            rw [← ho]
            exact whileN_mono (by omega) (by rw [ho]; intro z; exact hR (z ▸ hr))
          rcases h3 with h3 | h3 <;> (rw [h3]; exact ⟨o, hn, hr⟩)
        · rw [h3]; exact ⟨_, rfl, h4⟩
        · rw [h3]; exact ⟨_, rfl, h4⟩
        · rw [h3]; exact ⟨_, rfl, h4⟩
  intro n S hS
  obtain ⟨o, ho, hr⟩ := main n S hS
  rw [mWhile_of ho fun z => hR (z ▸ hr)]
  exact hr
/-! ### comprehensions that leave the slots as they are -/
theorem putBack_same {S S' : Sx} {vs : List Nat} (h : wipeS S' vs = wipeS S vs) : putBack S S' vs = S := by
  have hl : S'.length = S.length := by
    have := congrArg List.length h
    rwa [wipeS_length, wipeS_length] at this
  apply List.ext_getElem?
  intro k
  rw [putBack_get, hl]
  by_cases q : k ∈ vs
  · rw [if_pos q]
    by_cases z : k < S.length
    · rw [if_pos z, List.getElem?_eq_getElem z]; rfl
    · rw [if_neg z, List.getElem?_eq_none (by omega)]
  · rw [if_neg q]
    have out : ∀ (T : Sx) (vs : List Nat), k ∉ vs → (wipeS T vs)[k]? = T[k]? := by
      intro T vs
      induction vs with
      | nil => intro _; rfl
      | cons v vs ih =>
        intro z
        simp only [List.mem_cons, not_or] at z
        unfold wipeS
        rw [List.getElem?_set_ne (fun e => z.1 e.symm), ih z.2]
    rw [← out S' vs q, ← out S vs q, h]
theorem lcGo_ok {vs : List Nat} {p : Pt} {tt : M Bool} {te : M D} {S0 : Sx} {r : D → Option D} : ∀ {ds : List D} {S : Sx}, wipeS S vs = S0 → (∀ d ∈ ds, ∃ S', lcTurn p tt te d S0 = .ok (r d) S' ∧ wipeS S' vs = S0) →
    ∃ S', lcGo vs p tt te ds S = .ok (ds.filterMap r) S' ∧ wipeS S' vs = S0
  | [], S, h, _ => ⟨S, rfl, h⟩
  | d :: ds, S, h, ht => by
    obtain ⟨S1, h1, h2⟩ := ht d List.mem_cons_self
    obtain ⟨S2, h3, h4⟩ := lcGo_ok (ds := ds) h2 fun e he => ht e (List.mem_cons_of_mem _ he)
    refine ⟨S2, ?_, h4⟩
    rw [lcGo, h, h1]
    dsimp only
    rw [h3]
    cases hr : r d <;> simp [List.filterMap_cons, hr]
theorem wipeS_idem {S : Sx} {vs : List Nat} : wipeS (wipeS S vs) vs = wipeS S vs := by
  apply List.ext_getElem?
  intro k
  have get : ∀ (T : Sx) (vs : List Nat), (wipeS T vs)[k]? = if k ∈ vs then (if k < T.length then some .un else none) else T[k]? := by
    intro T vs
    induction vs with
    | nil => simp [wipeS]
    | cons v vs ih =>
      unfold wipeS
      by_cases q : k = v
      · subst q
        rw [List.getElem?_set, wipeS_length]
        simp
      · rw [List.getElem?_set_ne (Ne.symm q), ih]
        simp [q]
  rw [get, get, wipeS_length]
  by_cases q : k ∈ vs
  · rw [if_pos q, if_pos q]
  · rw [if_neg q, if_neg q]
theorem ev_lc {vs : List Nat} {src : M (List D)} {p : Pt} {tt : M Bool} {te : M D} {S S1 : Sx} {ds : List D} (r : D → Option D) (hs : src S = .ok ds S1) (no : noOw S1 vs = true) (hl : ds.length < sizeLine)
    (ht : ∀ d ∈ ds, ∃ S', lcTurn p tt te d (wipeS S1 vs) = .ok (r d) S' ∧ wipeS S' vs = wipeS S1 vs) : eLc vs src p tt te S = .ok (.lst (ds.filterMap r)) S1 := by
  obtain ⟨S', h1, h2⟩ := lcGo_ok (vs := vs) (S := wipeS S1 vs) wipeS_idem ht
  unfold eLc
  rw [ev_bind, hs]
  dsimp only
  unfold lcAll
  rw [no, decide_eq_true hl, h1]
  dsimp only [Bool.and_self]
  rw [putBack_same h2]
  rfl
/-- one that takes each item -/
theorem ev_lcm {vs : List Nat} {src : M (List D)} {p : Pt} {te : M D} {S S1 : Sx} {ds : List D} (r : D → D) (hs : src S = .ok ds S1) (no : noOw S1 vs = true) (hl : ds.length < sizeLine)
    (ht : ∀ d ∈ ds, ∃ S2 S', p.go d (wipeS S1 vs) = some S2 ∧ te S2 = .ok (r d) S' ∧ wipeS S' vs = wipeS S1 vs) : eLc vs src p tYesM te S = .ok (.lst (ds.map r)) S1 := by
  have e : ds.map r = ds.filterMap (fun d => some (r d)) := by rw [List.filterMap_eq_map']
  rw [e]
  refine ev_lc _ hs no hl fun d hd => ?_
  obtain ⟨S2, S', h1, h2, h3⟩ := ht d hd
  refine ⟨S', ?_, h3⟩
  unfold lcTurn
  simp [h1, h2]
end MP

/-! the pure readings of the defs (printed by pr.py) -/
namespace MP
open PySem PySem.Spec PyProof.Rows L2
noncomputable section
def m_law_cell : MS :=
  (mSeq (mIf (MP.tCmp ltD (oVar 1) (eCal lenB [(oVar 0)]))
  (mRt (eBin ixA (oVar 0) (oVar 1)))
  mNx)
  (mRt (eC (.int 0))))
def p_law_cell : Fn := runF 2 m_law_cell
def m_law_spread : MS :=
  (mRt (eLc [1] (iRg1 (eC (.int 63))) (.nm 1) tYesM (eBin addD (eCall p_law_cell [.nm 0, .nm 1]) (eBin mulD (oVar 1) (eCall p_law_cell [.nm 0, .ex (eC (.int 0))])))))
def p_law_spread : Fn := runF 2 m_law_spread
def l_law_numbers_1 : MS :=
  (mIf (MP.tAnd (MP.tCmp geD (eCal absB [(oVar 0)]) (eBin powD (eC (.int 10)) (eC (.int 18)))) (MP.tCmp gtD (oVar 3) (eC (.int 0))))
  (mSeq (mApp 2 (eBin modD (eCal intB [(oVar 3)]) (eC (.int 1009))))
  (mSetO 3 (eBin fdivD (oVar 3) (eC (.int 1009)))))
  (mSeq (mSetO 5 (eBin modD (eCal intB [(eBin addD (eBin mulD (eCal absB [(oVar 0)]) (eC (.int 48271))) (eBin mulD (eBin addD (oVar 4) (eC (.int 1))) (eC (.int 69621))))]) (eC (.int 2147483647))))
  (mSeq (mSetO 6 (eBin modD (eCal intB [(eBin addD (eBin addD (eBin mulD (eCal absB [(oVar 0)]) (eC (.int 16807))) (eBin mulD (eBin mulD (eBin addD (oVar 4) (eC (.int 1))) (eBin addD (oVar 4) (eC (.int 3)))) (eC (.int 40692)))) (eC (.int 12345)))]) (eC (.int 2147483399))))
  (mSeq (mSetO 7 (eBin modD (eCal intB [(eBin addD (eBin addD (eBin mulD (oVar 5) (oVar 6)) (eBin fdivD (oVar 5) (eC (.int 7)))) (eBin fdivD (oVar 6) (eC (.int 11))))]) (eC (.int 2147483629))))
  (mSeq (mSetO 7 (eBin modD (eCal intB [(eBin addD (eBin mulD (oVar 7) (eC (.int 48271))) (eBin mulD (eBin fdivD (oVar 7) (eC (.int 65536))) (eC (.int 7))))]) (eC (.int 2147483647))))
  (mApp 2 (eBin modD (eCal intB [(eBin fdivD (oVar 7) (eC (.int 16)))]) (eC (.int 1009)))))))))
def m_law_numbers : MS :=
  (mSeq (mSetO 2 (eLst []))
  (mSeq (mSetO 3 (eCal absB [(oVar 0)]))
  (mSeq (mFor (iRg1 (oVar 1)) (pTg (.nm 4)) l_law_numbers_1)
  (mRt (eVar 2)))))
def p_law_numbers : Fn := runF 8 m_law_numbers
def m_law_subset : MS :=
  (mSeq (mSetO 2 (eBin modD (eCal intB [(eBin ixA (oVar 0) (eC (.int 0)))]) (eC (.int 9))))
  (mRt (eLc [3] (iRg1 (eBin ixA (eLst [(eC (.int 1)), (eC (.int 2)), (eC (.int 4)), (eC (.int 8)), (eC (.int 16)), (eC (.int 32)), (eC (.int 64))]) (oVar 1))) (.nm 3) (MP.tCmp ltD (eBin modD (eCal intB [(eBin ixA (oVar 0) (eBin addD (eC (.int 1)) (oVar 3)))]) (eC (.int 8))) (oVar 2)) (eVar 3))))
def p_law_subset : Fn := runF 4 m_law_subset
def l_law_covered_1 : MS :=
  (mSeq (mIf (MP.tCmp neD (oVar 2) (eS "1"))
  (mApp 3 (eBin mulD (eC (.int 2)) (oVar 4)))
  mNx)
  (mIf (MP.tCmp neD (oVar 2) (eS "0"))
  (mApp 3 (eBin addD (eBin mulD (eC (.int 2)) (oVar 4)) (eC (.int 1))))
  mNx))
def l_law_covered_2 : MS :=
  (mSeq (mSetO 3 (eLst []))
  (mSeq (mFor (iSeq (eVar 1)) (pTg (.nm 4)) l_law_covered_1)
  (mSetV 1 (eVar 3))))
def m_law_covered : MS :=
  (mSeq (mSetO 1 (eLst [(eC (.int 0))]))
  (mSeq (mFor (iSeq (eVar 0)) (pTg (.nm 2)) l_law_covered_2)
  (mRt (eVar 1))))
def p_law_covered : Fn := runF 5 m_law_covered
def l_law_implicants_1 : MS :=
  (mSeq (mApp 4 (eBin addD (oVar 5) (eS "-")))
  (mSeq (mApp 4 (eBin addD (oVar 5) (eS "0")))
  (mApp 4 (eBin addD (oVar 5) (eS "1")))))
def l_law_implicants_2 : MS :=
  (mSeq (mSetO 4 (eLst []))
  (mSeq (mFor (iSeq (eVar 2)) (pTg (.nm 5)) l_law_implicants_1)
  (mSetV 2 (eVar 4))))
def l_law_implicants_3 : MS :=
  (mIf (MP.tCmp notInA (oVar 8) (oVar 1))
  (mSetO 7 (eC (.bl false)))
  mNx)
def l_law_implicants_4 : MS :=
  (mSeq (mSetO 7 (eC (.bl true)))
  (mSeq (mFor (iSeq (eCall p_law_covered [.nm 5])) (pTg (.nm 8)) l_law_implicants_3)
  (mIf (tVal (oVar 7))
  (mApp 6 (eVar 5))
  mNx)))
def m_law_implicants : MS :=
  (mSeq (mSetO 2 (eLst [(eS "")]))
  (mSeq (mFor (iRg1 (oVar 0)) (pTg (.nm 3)) l_law_implicants_2)
  (mSeq (mSetO 6 (eLst []))
  (mSeq (mFor (iSeq (eVar 2)) (pTg (.nm 5)) l_law_implicants_4)
  (mRt (eVar 6))))))
def p_law_implicants : Fn := runF 9 m_law_implicants
def l_law_primes_1 : MS :=
  (mIf (MP.tAnd (MP.tCmp neD (eBin ixA (oVar 4) (oVar 6)) (eS "-")) (MP.tCmp inA (eBin addD (eBin addD (eSl (oVar 4) none (some (oVar 6))) (eS "-")) (eSl (oVar 4) (some (eBin addD (oVar 6) (eC (.int 1)))) none)) (oVar 2)))
  (mSetO 5 (eC (.bl false)))
  mNx)
def l_law_primes_2 : MS :=
  (mSeq (mSetO 5 (eC (.bl true)))
  (mSeq (mFor (iRg1 (oVar 0)) (pTg (.nm 6)) l_law_primes_1)
  (mIf (tVal (oVar 5))
  (mApp 3 (eVar 4))
  mNx)))
def m_law_primes : MS :=
  (mSeq (mSetV 2 (eCall p_law_implicants [.nm 0, .nm 1]))
  (mSeq (mSetO 3 (eLst []))
  (mSeq (mFor (iSeq (eVar 2)) (pTg (.nm 4)) l_law_primes_2)
  (mRt (eCal tupleB [(eCal sortedB [(oVar 3)])])))))
def p_law_primes : Fn := runF 7 m_law_primes
def l_law_weights_1 : MS :=
  (mSetO 1 (eBin addD (oVar 1) (eLc [3] (iSeq (eVar 1)) (.nm 3) tYesM (eBin addD (oVar 3) (eC (.int 1))))))
def m_law_weights : MS :=
  (mSeq (mSetO 1 (eLst [(eC (.int 0))]))
  (mSeq (mFor (iRg1 (oVar 0)) (pTg (.nm 2)) l_law_weights_1)
  (mRt (eVar 1))))
def p_law_weights : Fn := runF 4 m_law_weights
def l_law_shuffles_1 : MS :=
  (mSeq (mSetO 8 (eBin addD (oVar 6) (oVar 7)))
  (mIf (MP.tAnd (MP.tCmp leD (eM1 countD (oVar 8) (eS "1")) (oVar 1)) (MP.tAnd (MP.tCmp leD (eM1 countD (oVar 8) (eS "0")) (oVar 2)) (MP.tCmp leD (eM1 countD (oVar 8) (eS "-")) (eBin subD (eBin subD (oVar 0) (oVar 1)) (oVar 2)))))
  (mApp 5 (eVar 8))
  mNx))
def l_law_shuffles_2 : MS :=
  (mFor (iSeq (eS "-01")) (pTg (.nm 7)) l_law_shuffles_1)
def l_law_shuffles_3 : MS :=
  (mSeq (mSetO 5 (eLst []))
  (mSeq (mFor (iSeq (eVar 3)) (pTg (.nm 6)) l_law_shuffles_2)
  (mSetV 3 (eVar 5))))
def m_law_shuffles : MS :=
  (mSeq (mSetO 3 (eLst [(eS "")]))
  (mSeq (mFor (iRg1 (oVar 0)) (pTg (.nm 4)) l_law_shuffles_3)
  (mRt (eVar 3))))
def p_law_shuffles : Fn := runF 9 m_law_shuffles
def m_law_counted : MS :=
  (mSeq (mSetO 2 (eBin modD (eCal intB [(eBin ixA (oVar 0) (eC (.int 0)))]) (eBin addD (oVar 1) (eC (.int 1)))))
  (mSeq (mSetO 3 (eBin addD (oVar 2) (eBin modD (eCal intB [(eBin ixA (oVar 0) (eC (.int 1)))]) (eBin subD (eBin addD (oVar 1) (eC (.int 1))) (oVar 2)))))
  (mSeq (mSetV 4 (eCall p_law_weights [.nm 1]))
  (mSeq (mSetO 5 (eLc [6] (iRg1 (eCal lenB [(oVar 4)])) (.nm 6) (MP.tCh (oVar 2) [(leD, (eBin ixA (oVar 4) (oVar 6))), (leD, (oVar 3))]) (eVar 6)))
  (mRt (eTup [(eVar 5), (eCall p_law_shuffles [.nm 1, .nm 2, .ex (eBin subD (oVar 1) (oVar 3))])]))))))
def p_law_counted : Fn := runF 7 m_law_counted
def l_law_far_cubes_1 : MS :=
  (mSetO 6 (eBin addD (oVar 6) (eBin ixA (eLst [(eS "-"), (eS "0"), (eS "1")]) (eBin modD (eCal intB [(eBin ixA (oVar 0) (eBin addD (eBin addD (eC (.int 2)) (eBin mulD (eC (.int 5)) (oVar 5))) (oVar 7)))]) (eC (.int 3))))))
def l_law_far_cubes_2 : MS :=
  (mSeq (mSetV 6 (eBin ixA (eLst [(eS "000"), (eS "011"), (eS "101"), (eS "110")]) (oVar 5)))
  (mSeq (mFor (iRg1 (eBin subD (oVar 1) (eC (.int 3)))) (pTg (.nm 7)) l_law_far_cubes_1)
  (mSeq (mSetO 6 (eBin addD (eSl (oVar 6) (some (oVar 2)) none) (eSl (oVar 6) none (some (oVar 2)))))
  (mSeq (mApp 3 (eVar 6))
  (mSetO 4 (eBin addD (oVar 4) (eCall p_law_covered [.nm 6])))))))
def m_law_far_cubes : MS :=
  (mSeq (mSetO 2 (eBin modD (eCal intB [(eBin ixA (oVar 0) (eC (.int 0)))]) (oVar 1)))
  (mSeq (mSetO 3 (eLst []))
  (mSeq (mSetO 4 (eLst []))
  (mSeq (mFor (iRg1 (eBin addD (eC (.int 1)) (eBin modD (eCal intB [(eBin ixA (oVar 0) (eC (.int 1)))]) (eC (.int 4))))) (pTg (.nm 5)) l_law_far_cubes_2)
  (mRt (eTup [(eCal sortedB [(oVar 4)]), (eVar 3)]))))))
def p_law_far_cubes : Fn := runF 8 m_law_far_cubes
def l_law_both_1 : MS :=
  (mSetO 6 (eBin addD (oVar 6) (eLc [9] (iSeq (eVar 4)) (.nm 9) tYesM (eBin addD (eBin mulD (oVar 8) (oVar 5)) (oVar 9)))))
def l_law_both_2 : MS :=
  (mSetO 7 (eBin addD (oVar 7) (eLc [11] (iSeq (eCall p_law_primes [.nm 2, .nm 4])) (.nm 11) tYesM (eBin addD (oVar 10) (oVar 11)))))
def m_law_both : MS :=
  (mSeq (mSetV 3 (eCall p_law_subset [.ex (eSl (oVar 0) none (some (eC (.int 17)))), .nm 1]))
  (mSeq (mSetV 4 (eCall p_law_subset [.ex (eSl (oVar 0) (some (eC (.int 17))) (some (eC (.int 34)))), .nm 2]))
  (mSeq (mSetV 5 (eBin ixA (eLst [(eC (.int 1)), (eC (.int 2)), (eC (.int 4)), (eC (.int 8)), (eC (.int 16))]) (oVar 2)))
  (mSeq (mSetO 6 (eLst []))
  (mSeq (mSetO 7 (eLst []))
  (mSeq (mFor (iSeq (eVar 3)) (pTg (.nm 8)) l_law_both_1)
  (mSeq (mFor (iSeq (eCall p_law_primes [.nm 1, .nm 3])) (pTg (.nm 10)) l_law_both_2)
  (mRt (eTup [(eVar 6), (eVar 7)])))))))))
def p_law_both : Fn := runF 12 m_law_both
def l_law_either_1 : MS :=
  (mSetO 7 (eBin addD (oVar 7) (eLc [9] (iRg1 (oVar 5)) (.nm 9) (MP.tOr (MP.tCmp inA (oVar 8) (oVar 3)) (MP.tCmp inA (oVar 9) (oVar 4))) (eBin addD (eBin mulD (oVar 8) (oVar 5)) (oVar 9)))))
def m_law_either : MS :=
  (mSeq (mSetV 3 (eCall p_law_subset [.ex (eSl (oVar 0) none (some (eC (.int 17)))), .nm 1]))
  (mSeq (mSetV 4 (eCall p_law_subset [.ex (eSl (oVar 0) (some (eC (.int 17))) (some (eC (.int 34)))), .nm 2]))
  (mSeq (mSetV 5 (eBin ixA (eLst [(eC (.int 1)), (eC (.int 2)), (eC (.int 4)), (eC (.int 8)), (eC (.int 16))]) (oVar 2)))
  (mSeq (mSetV 6 (eBin ixA (eLst [(eC (.int 1)), (eC (.int 2)), (eC (.int 4)), (eC (.int 8)), (eC (.int 16))]) (oVar 1)))
  (mSeq (mSetO 7 (eLst []))
  (mSeq (mFor (iRg1 (oVar 6)) (pTg (.nm 8)) l_law_either_1)
  (mSeq (mIf (MP.tOr (MP.tCmp eqD (eCal lenB [(oVar 3)]) (oVar 6)) (MP.tCmp eqD (eCal lenB [(oVar 4)]) (oVar 5)))
  (mRt (eTup [(eVar 7), (eLst [(eBin mulD (eS "-") (eBin addD (oVar 1) (oVar 2)))])]))
  mNx)
  (mSeq (mSetO 10 (eLc [11] (iSeq (eCall p_law_primes [.nm 1, .nm 3])) (.nm 11) tYesM (eBin addD (oVar 11) (eBin mulD (eS "-") (oVar 2)))))
  (mRt (eTup [(eVar 7), (eBin addD (oVar 10) (eLc [11] (iSeq (eCall p_law_primes [.nm 2, .nm 4])) (.nm 11) tYesM (eBin addD (eBin mulD (eS "-") (oVar 1)) (oVar 11))))]))))))))))
def p_law_either : Fn := runF 12 m_law_either
def l_law_opposite_1 : MS :=
  (mSeq (mIf (MP.tCmp eqD (eBin ixA (oVar 0) (oVar 3)) (eS "0"))
  (mApp 2 (eBin addD (eBin addD (eBin mulD (eS "-") (oVar 3)) (eS "1")) (eBin mulD (eS "-") (eBin subD (eBin subD (oVar 1) (eC (.int 1))) (oVar 3)))))
  mNx)
  (mIf (MP.tCmp eqD (eBin ixA (oVar 0) (oVar 3)) (eS "1"))
  (mApp 2 (eBin addD (eBin addD (eBin mulD (eS "-") (oVar 3)) (eS "0")) (eBin mulD (eS "-") (eBin subD (eBin subD (oVar 1) (eC (.int 1))) (oVar 3)))))
  mNx))
def m_law_opposite : MS :=
  (mSeq (mSetO 1 (eCal lenB [(oVar 0)]))
  (mSeq (mSetO 2 (eLst []))
  (mSeq (mFor (iRg1 (oVar 1)) (pTg (.nm 3)) l_law_opposite_1)
  (mRt (eVar 2)))))
def p_law_opposite : Fn := runF 4 m_law_opposite
def l_law_case_1 : MS :=
  (mSeq (mSetO 10 (eLc [6] (iRg1 (oVar 2)) (.nm 6) tYesM (eBin modD (eCal intB [(eBin fdivD (oVar 9) (eBin ixA (eLst [(eC (.int 128)), (eC (.int 64)), (eC (.int 32)), (eC (.int 16)), (eC (.int 8)), (eC (.int 4)), (eC (.int 2)), (eC (.int 1))]) (eBin addD (eBin subD (eC (.int 8)) (oVar 2)) (oVar 6))))]) (eC (.int 2)))))
  (mApp 4 (eM1 joinD (eS "") (eLc [11] (iSeq (eVar 10)) (.nm 11) tYesM (eCal strB [(oVar 11)])))))
def m_law_case : MS :=
  (mSeq (mSetO 2 (eBin addD (eC (.int 6)) (eBin modD (eCal intB [(eBin ixA (oVar 0) (eC (.int 0)))]) (eC (.int 3)))))
  (mSeq (mIf (MP.tCmp ltD (oVar 1) (eC (.int 3)))
  (mSeq (mSetO 2 (eBin modD (eCal intB [(eBin ixA (oVar 0) (eC (.int 0)))]) (eC (.int 7))))
  (mSeq (mSetV 3 (eCall p_law_subset [.ex (eSl (oVar 0) (some (eC (.int 1))) none), .nm 2]))
  (mRt (eTup [(eVar 2), (eVar 3), (eCall p_law_primes [.nm 2, .nm 3])]))))
  mNx)
  (mSeq (mIf (MP.tCmp eqD (oVar 1) (eC (.int 3)))
  (mAsg (.tp [(.nm 3), (.nm 4)]) (eCall p_law_counted [.ex (eSl (oVar 0) (some (eC (.int 1))) none), .nm 2]))
  mNx)
  (mSeq (mIf (MP.tCmp eqD (oVar 1) (eC (.int 4)))
  (mAsg (.tp [(.nm 3), (.nm 4)]) (eCall p_law_far_cubes [.ex (eSl (oVar 0) (some (eC (.int 1))) none), .nm 2]))
  mNx)
  (mSeq (mIf (MP.tCmp eqD (oVar 1) (eC (.int 5)))
  (mAsg (.tp [(.nm 3), (.nm 4)]) (eCall p_law_both [.ex (eSl (oVar 0) (some (eC (.int 1))) none), .ex (eBin subD (oVar 2) (eC (.int 4))), .ex (eC (.int 4))]))
  mNx)
  (mSeq (mIf (MP.tCmp eqD (oVar 1) (eC (.int 6)))
  (mAsg (.tp [(.nm 3), (.nm 4)]) (eCall p_law_either [.ex (eSl (oVar 0) (some (eC (.int 1))) none), .ex (eC (.int 4)), .ex (eBin subD (oVar 2) (eC (.int 4)))]))
  mNx)
  (mSeq (mIf (MP.tCmp eqD (oVar 1) (eC (.int 7)))
  (mSeq (mSetO 5 (eM1 joinD (eS "") (eLc [6] (iRg1 (oVar 2)) (.nm 6) tYesM (eBin ixA (eLst [(eS "-"), (eS "0"), (eS "1")]) (eBin modD (eCal intB [(eBin ixA (oVar 0) (eBin addD (eC (.int 2)) (oVar 6)))]) (eC (.int 3)))))))
  (mSeq (mSetV 7 (eCall p_law_covered [.nm 5]))
  (mSeq (mSetV 8 (eCall p_law_weights [.nm 2]))
  (mSeq (mSetO 3 (eLc [6] (iRg1 (eCal lenB [(oVar 8)])) (.nm 6) (MP.tCmp notInA (oVar 6) (oVar 7)) (eVar 6)))
  (mSeq (mSetV 4 (eCall p_law_opposite [.nm 5]))
  (mIf (MP.tCmp eqD (eBin modD (eCal intB [(eBin ixA (oVar 0) (eC (.int 1)))]) (eC (.int 4))) (eC (.int 0)))
  (mSeq (mSetO 3 (eLc [6] (iRg1 (eCal lenB [(oVar 8)])) (.nm 6) (MP.tCmp eqD (eBin modD (eCal intB [(eBin addD (eBin ixA (oVar 8) (oVar 6)) (eBin ixA (oVar 0) (eC (.int 2))))]) (eC (.int 2))) (eC (.int 0))) (eVar 6)))
  (mSeq (mSetO 4 (eLst []))
  (mFor (iSeq (eVar 3)) (pTg (.nm 9)) l_law_case_1)))
  mNx))))))
  mNx)
  (mRt (eTup [(eVar 2), (eVar 3), (eVar 4)])))))))))
def p_law_case : Fn := runF 12 m_law_case
def l_merged_1 : MS :=
  (mSeq (mSetO 9 (eBin shlD (eC (.int 1)) (oVar 8)))
  (mSeq (mSetO 10 (eTup [(eBin addD (oVar 6) (oVar 9)), (eVar 7)]))
  (mIf (MP.tAnd (MP.tCmp eqD (eBin andD (oVar 6) (oVar 9)) (eC (.int 0))) (MP.tAnd (MP.tCmp eqD (eBin andD (oVar 7) (oVar 9)) (eC (.int 0))) (MP.tCmp inA (oVar 10) (oVar 2))))
  (mSeq (mSt 4 (eTup [(eVar 6), (eBin addD (oVar 7) (oVar 9))]) (eC (.bl true)))
  (mSeq (mSt 5 (eTup [(eVar 6), (eVar 7)]) (eC (.bl true)))
  (mSt 5 (oVar 10) (eC (.bl true)))))
  mNx)))
def l_merged_2 : MS :=
  (mFor (iRg1 (oVar 0)) (pTg (.nm 8)) l_merged_1)
def m_merged : MS :=
  (mSeq (mSetO 2 (eDc [3] (iSeq (eVar 1)) (.nm 3) tYesM (eVar 3) (eC (.bl true))))
  (mSeq (mSetO 4 eDct0)
  (mSeq (mSetO 5 eDct0)
  (mSeq (mFor (iSeq (eVar 1)) (pTg (.tp [(.nm 6), (.nm 7)])) l_merged_2)
  (mRt (eTup [(eCal listA [(oVar 4)]), (eLc [3] (iSeq (eVar 1)) (.nm 3) (MP.tCmp notInA (oVar 3) (oVar 5)) (eVar 3))]))))))
def p_merged : Fn := runF 11 m_merged
def l_cube_text_1 : MS :=
  (mSeq (mSetO 5 (eBin shlD (eC (.int 1)) (eBin subD (eBin subD (oVar 0) (eC (.int 1))) (oVar 4))))
  (mIf (MP.tCmp neD (eBin andD (oVar 2) (oVar 5)) (eC (.int 0)))
  (mApp 3 (eS "-"))
  (mIf (MP.tCmp neD (eBin andD (oVar 1) (oVar 5)) (eC (.int 0)))
  (mApp 3 (eS "1"))
  (mApp 3 (eS "0")))))
def m_cube_text : MS :=
  (mSeq (mSetO 3 (eLst []))
  (mSeq (mFor (iRg1 (oVar 0)) (pTg (.nm 4)) l_cube_text_1)
  (mRt (eM1 joinD (eS "") (oVar 3)))))
def p_cube_text : Fn := runF 6 m_cube_text
def l_prime_cubes_1 : MS :=
  (mApp 4 (eCall p_cube_text [.nm 0, .nm 6, .nm 7]))
def l_prime_cubes_2 : MS :=
  (mSeq (mAsg (.tp [(.nm 2), (.nm 5)]) (eCall p_merged [.nm 0, .nm 2]))
  (mFor (iSeq (eVar 5)) (pTg (.tp [(.nm 6), (.nm 7)])) l_prime_cubes_1))
def m_prime_cubes : MS :=
  (mSeq (mSetO 2 (eLc [3] (iSeq (eVar 1)) (.nm 3) tYesM (eTup [(eVar 3), (eC (.int 0))])))
  (mSeq (mSetO 4 (eLst []))
  (mSeq (mWhile (MP.tCmp gtD (eCal lenB [(oVar 2)]) (eC (.int 0))) l_prime_cubes_2)
  (mRt (eCal tupleB [(eCal sortedB [(oVar 4)])])))))
def p_prime_cubes : Fn := runF 8 m_prime_cubes
def m_law_same : MS :=
  (mSeq (mIf (MP.tAnd (tVal (eIsi "tuple" (oVar 1))) (MP.tNot (tVal (eIsi "tuple" (oVar 0)))))
  (mRt (eC (.bl false)))
  mNx)
  (mSeq (mIf (MP.tAnd (tVal (eIsi "list" (oVar 1))) (MP.tNot (tVal (eIsi "list" (oVar 0)))))
  (mRt (eC (.bl false)))
  mNx)
  (mSeq (mIf (MP.tAnd (tVal (eIsi "str" (oVar 1))) (MP.tNot (tVal (eIsi "str" (oVar 0)))))
  (mRt (eC (.bl false)))
  mNx)
  (mSeq (mIf (MP.tAnd (tVal (eIsi "bool" (oVar 1))) (MP.tNot (tVal (eIsi "bool" (oVar 0)))))
  (mRt (eC (.bl false)))
  mNx)
  (mRt (eAnd (eBin eqD (oVar 0) (oVar 1)) (eBin eqD (eCal reprB [(oVar 0)]) (eCal reprB [(oVar 1)]))))))))
def p_law_same : Fn := runF 2 m_law_same
def m_law : MS :=
  (mSeq (mSetV 0 (eCall p_law_spread [.nm 0]))
  (mSeq (mSetO 1 (eBin modD (eCal absB [(eCall p_law_cell [.nm 0, .ex (eC (.int 0))])]) (eC (.int 8))))
  (mSeq (mAsg (.tp [(.nm 2), (.nm 3), (.nm 4)]) (eCall p_law_case [.ex (eCall p_law_numbers [.ex (eCall p_law_cell [.nm 0, .ex (eC (.int 1))]), .ex (eC (.int 67))]), .nm 1]))
  (mSeq (mSetO 5 (eCal tupleB [(eCal sortedB [(oVar 4)])]))
  (mSeq (mSetO 6 (eCal listA [(oVar 3)]))
  (mSeq (mIf (MP.tOr (MP.tNot (tVal (eCall p_law_same [.ex (eCall p_prime_cubes [.nm 2, .nm 6]), .nm 5]))) (MP.tCmp neD (oVar 6) (oVar 3)))
  (mRt (eC (.bl false)))
  mNx)
  (mRt (eCall p_law_same [.ex (eCall p_prime_cubes [.nm 2, .ex (eCal tupleB [(oVar 3)])]), .nm 5]))))))))
def p_law : Fn := runF 7 m_law
end
end MP

namespace MP
open PySem PySem.Spec PyProof.Rows L2

theorem e_law_cell {xs : List Int} {k : Nat} : p_law_cell [.lst (xs.map .int), .int k] = .ok (.int (xs.getD k 0)) := by
  by_cases h : k < xs.length
  · simp [p_law_cell, runF, m_law_cell, startS, h, atI_nat]
  · simp [p_law_cell, runF, m_law_cell, startS, h]
theorem e_law_spread {xs : List Int} : p_law_spread [.lst (xs.map .int)] = .ok (.lst ((List.range 63).map fun (k : Nat) => .int (xs.getD k 0 + (k : Int) * xs.getD 0 0))) := by
  have key : eLc [1] (iRg1 (eC (.int 63))) (.nm 1) tYesM (eBin addD (eCall p_law_cell [.nm 0, .nm 1]) (eBin mulD (oVar 1) (eCall p_law_cell [.nm 0, .ex (eC (.int 0))]))) [.va (.lst (xs.map .int)), .un]
      = .ok (.lst ((rgD 0 63).map fun d => match d with | .int i => .int (xs.getD i.toNat 0 + i * xs.getD 0 0) | d => d)) [.va (.lst (xs.map .int)), .un] := by
    refine ev_lcm (ds := rgD 0 63) _ ?_ ?_ ?_ ?_
    · simp only [ev_rg1, ev_bind, ev_evs1, ev_c, ev_evs0, ev_pure, ev_mo]; rfl
    · rfl
    · rw [rgD_length]; have := szl; omega
    · intro d hd
      obtain ⟨i, hi, rfl⟩ := rgD_mem hd
      have e0 := e_law_cell (xs := xs) (k := 0)
      have e1 := e_law_cell (xs := xs) (k := i)
      have hs : smallI (i : Int) = true := smallN (by omega)
      simp at e0 e1
      simp [hs, e0, e1]
  unfold p_law_spread runF m_law_spread
  simp only [startS, List.map_cons, List.map_nil, List.length_cons, List.length_nil, ev_rt, ev_bind]
  have e : ([Sl.va (D.lst (xs.map D.int))] ++ List.replicate (2 - (0 + 1)) Sl.un) = [.va (.lst (xs.map .int)), .un] := rfl
  rw [e, key]
  simp only [ev_pure]
  have e2 : ((rgD 0 63).map fun d => match d with | .int i => .int (xs.getD i.toNat 0 + i * xs.getD 0 0) | d => d) = (List.range 63).map fun (k : Nat) => D.int (xs.getD k 0 + (k : Int) * xs.getD 0 0) := by
    generalize 63 = n
    unfold rgD
    rw [List.map_map]
    apply List.map_congr_left
    intro k hk
    simp
  rw [e2]
end MP

/-! Q70: cubes and their merging, with no program in sight. A cube is a list of signs from the lowest digit: none is the dash. -/
namespace Q70
abbrev Sg := Option Bool
def mt : List Sg → List Bool → Prop
  | [], [] => True
  | s :: r, b :: bs => (s = none ∨ s = some b) ∧ mt r bs
  | _, _ => False
def bv : List Bool → Nat
  | [] => 0
  | b :: bs => (if b = true then 1 else 0) + 2 * bv bs
def vl : List Sg → Nat
  | [] => 0
  | s :: r => (if s = some true then 1 else 0) + 2 * vl r
def mk : List Sg → Nat
  | [] => 0
  | s :: r => (if s = none then 1 else 0) + 2 * mk r
/-- the cube lies in P -/
def impl (P : Nat → Prop) (r : List Sg) : Prop := ∀ b, mt r b → P (bv b)
def prime (P : Nat → Prop) (r : List Sg) : Prop := impl P r ∧ ∀ i, i < r.length → r[i]? ≠ some none → ¬ impl P (r.set i none)
def dashes (r : List Sg) : Nat := r.count none

theorem mt_length : ∀ {r : List Sg} {b : List Bool}, mt r b → b.length = r.length
  | [], [], _ => rfl
  | [], _ :: _, h => h.elim
  | _ :: _, [], h => h.elim
  | s :: r, b :: bs, h => by rw [List.length_cons, List.length_cons, mt_length h.2]
theorem bv_lt : ∀ b : List Bool, bv b < 2 ^ b.length
  | [] => by simp [bv]
  | b :: bs => by
    have := bv_lt bs
    rw [bv, List.length_cons, Nat.pow_succ]
    split <;> omega
theorem vl_lt : ∀ r : List Sg, vl r < 2 ^ r.length
  | [] => by simp [vl]
  | s :: r => by
    have := vl_lt r
    rw [vl, List.length_cons, Nat.pow_succ]
    split <;> omega
theorem mk_lt : ∀ r : List Sg, mk r < 2 ^ r.length
  | [] => by simp [mk]
  | s :: r => by
    have := mk_lt r
    rw [mk, List.length_cons, Nat.pow_succ]
    split <;> omega
theorem enc_inj : ∀ {r q : List Sg}, r.length = q.length → vl r = vl q → mk r = mk q → r = q
  | [], [], _, _, _ => rfl
  | [], _ :: _, h, _, _ => by simp at h
  | _ :: _, [], h, _, _ => by simp at h
  | s :: r, t :: q, h, h1, h2 => by
    simp only [vl, mk] at h1 h2
    have hl : r.length = q.length := by simpa using h
    have e1 : vl r = vl q := by split at h1 <;> split at h1 <;> omega
    have e2 : mk r = mk q := by split at h2 <;> split at h2 <;> omega
    have e3 := enc_inj hl e1 e2
    subst e3
    have e4 : s = t := by
      rcases s with _ | s <;> rcases t with _ | t
      · rfl
      · simp at h2
      · simp at h2
      · cases s <;> cases t <;> simp at h1 ⊢
        all_goals omega
    rw [e4]
theorem testBit_step (b n i : Nat) (hb : b ≤ 1) : (b + 2 * n).testBit (i + 1) = n.testBit i := by
  rw [Nat.testBit_succ]
  congr 1
  omega
theorem testBit_zero' (b n : Nat) (hb : b ≤ 1) : (b + 2 * n).testBit 0 = decide (b = 1) := by
  rw [Nat.testBit_zero]
  have : (b + 2 * n) % 2 = b := by omega
  rw [this]
theorem testBit_vl : ∀ (r : List Sg) (i : Nat), (vl r).testBit i = decide (r[i]? = some (some true))
  | [], i => by simp [vl]
  | s :: r, 0 => by
    rw [vl, testBit_zero' _ _ (by split <;> omega)]
    by_cases h : s = some true <;> simp [h]
  | s :: r, i + 1 => by
    rw [vl, testBit_step _ _ _ (by split <;> omega), testBit_vl r i]
    simp
theorem testBit_mk : ∀ (r : List Sg) (i : Nat), (mk r).testBit i = decide (r[i]? = some none)
  | [], i => by simp [mk]
  | s :: r, 0 => by
    rw [mk, testBit_zero' _ _ (by split <;> omega)]
    by_cases h : s = none <;> simp [h]
  | s :: r, i + 1 => by
    rw [mk, testBit_step _ _ _ (by split <;> omega), testBit_mk r i]
    simp
theorem vl_set_o : ∀ {r : List Sg} {i : Nat}, r[i]? = some (some false) → vl (r.set i (some true)) = vl r + 2 ^ i
  | [], i, h => by simp at h
  | s :: r, 0, h => by
    simp at h
    subst h
    simp [vl]
    omega
  | s :: r, i + 1, h => by
    have := vl_set_o (r := r) (i := i) (by simpa using h)
    simp only [List.set_cons_succ, vl, this, Nat.pow_succ]
    omega
theorem vl_set_d : ∀ {r : List Sg} {i : Nat}, r[i]? = some (some false) → vl (r.set i none) = vl r
  | [], i, h => by simp at h
  | s :: r, 0, h => by
    simp at h
    subst h
    simp [vl]
  | s :: r, i + 1, h => by
    have := vl_set_d (r := r) (i := i) (by simpa using h)
    simp only [List.set_cons_succ, vl, this]
theorem mk_set_d : ∀ {r : List Sg} {i : Nat}, r[i]? = some (some false) → mk (r.set i none) = mk r + 2 ^ i
  | [], i, h => by simp at h
  | s :: r, 0, h => by
    simp at h
    subst h
    simp [mk]
    omega
  | s :: r, i + 1, h => by
    have := mk_set_d (r := r) (i := i) (by simpa using h)
    simp only [List.set_cons_succ, mk, this, Nat.pow_succ]
    omega
theorem mk_set_o : ∀ {r : List Sg} {i : Nat}, r[i]? = some (some false) → mk (r.set i (some true)) = mk r
  | [], i, h => by simp at h
  | s :: r, 0, h => by
    simp at h
    subst h
    simp [mk]
  | s :: r, i + 1, h => by
    have := mk_set_o (r := r) (i := i) (by simpa using h)
    simp only [List.set_cons_succ, mk, this]
/-- no dashes: a number's own cube -/
def ofBits (b : List Bool) : List Sg := b.map some
theorem mt_ofBits : ∀ {b c : List Bool}, mt (ofBits b) c ↔ c = b
  | [], [] => by simp [ofBits, mt]
  | [], _ :: _ => by simp [ofBits, mt]
  | _ :: _, [] => by simp [ofBits, mt]
  | x :: b, y :: c => by
    have := mt_ofBits (b := b) (c := c)
    simp only [ofBits, List.map_cons, mt] at this ⊢
    rw [this]
    simp
    exact fun _ => eq_comm
theorem vl_ofBits : ∀ b : List Bool, vl (ofBits b) = bv b
  | [] => rfl
  | x :: b => by
    have := vl_ofBits b
    simp only [ofBits, List.map_cons, vl, bv] at this ⊢
    rw [this]
    simp
theorem mk_ofBits : ∀ b : List Bool, mk (ofBits b) = 0
  | [] => rfl
  | x :: b => by
    have := mk_ofBits b
    simp only [ofBits, List.map_cons, mk] at this ⊢
    rw [this]
    simp
def bitsOf : Nat → Nat → List Bool
  | 0, _ => []
  | w + 1, n => decide (n % 2 = 1) :: bitsOf w (n / 2)
theorem bitsOf_length : ∀ w n, (bitsOf w n).length = w
  | 0, _ => rfl
  | w + 1, n => by rw [bitsOf, List.length_cons, bitsOf_length]
theorem bv_bitsOf : ∀ (w n : Nat), n < 2 ^ w → bv (bitsOf w n) = n
  | 0, n, h => by simp at h; simp [bitsOf, bv, h]
  | w + 1, n, h => by
    rw [Nat.pow_succ] at h
    rw [bitsOf, bv, bv_bitsOf w (n / 2) (by omega)]
    by_cases q : n % 2 = 1
    · simp [q]; omega
    · simp [q]; omega
theorem bv_inj : ∀ {b c : List Bool}, b.length = c.length → bv b = bv c → b = c
  | [], [], _, _ => rfl
  | [], _ :: _, h, _ => by simp at h
  | _ :: _, [], h, _ => by simp at h
  | x :: b, y :: c, h, e => by
    simp only [bv] at e
    have e1 : bv b = bv c := by split at e <;> split at e <;> omega
    rw [bv_inj (by simpa using h) e1]
    cases x <;> cases y <;> simp at e ⊢ <;> omega
/-! ### a dash is both -/
theorem mt_set : ∀ {r : List Sg} {i : Nat} {b : List Bool}, r[i]? = some none → (mt r b ↔ mt (r.set i (some false)) b ∨ mt (r.set i (some true)) b)
  | [], i, b, h => by simp at h
  | s :: r, 0, [], h => by simp [mt]
  | s :: r, 0, x :: b, h => by
    simp at h
    subst h
    simp only [List.set_cons_zero, mt]
    cases x <;> simp
  | s :: r, i + 1, [], h => by simp [mt]
  | s :: r, i + 1, x :: b, h => by
    have := mt_set (r := r) (i := i) (b := b) (by simpa using h)
    simp only [List.set_cons_succ, mt, this]
    constructor
    · rintro ⟨h1, h2 | h2⟩
      · exact .inl ⟨h1, h2⟩
      · exact .inr ⟨h1, h2⟩
    · rintro (⟨h1, h2⟩ | ⟨h1, h2⟩)
      · exact ⟨h1, .inl h2⟩
      · exact ⟨h1, .inr h2⟩
theorem impl_set {P : Nat → Prop} {r : List Sg} {i : Nat} (h : r[i]? = some none) : impl P r ↔ impl P (r.set i (some false)) ∧ impl P (r.set i (some true)) := by
  unfold impl
  constructor
  · exact fun q => ⟨fun b hb => q b ((mt_set h).mpr (.inl hb)), fun b hb => q b ((mt_set h).mpr (.inr hb))⟩
  · rintro ⟨q1, q2⟩ b hb
    rcases (mt_set h).mp hb with hb | hb
    · exact q1 b hb
    · exact q2 b hb
theorem set_get {r : List Sg} {i : Nat} {s : Sg} (h : i < r.length) : (r.set i s)[i]? = some s := List.getElem?_set_self h
theorem set_back {r : List Sg} {i : Nat} {s t : Sg} (h : r[i]? = some s) : (r.set i t).set i s = r := by
  rw [List.set_set]
  apply List.ext_getElem?
  intro k
  by_cases q : k = i
  · subst q
    rw [List.getElem?_set_self (List.getElem?_eq_some_iff.mp h).1, h]
  · rw [List.getElem?_set_ne (Ne.symm q)]
theorem dashes_set : ∀ {r : List Sg} {i : Nat} {x : Bool}, r[i]? = some (some x) → dashes (r.set i none) = dashes r + 1
  | [], i, x, h => by simp at h
  | s :: r, 0, x, h => by
    simp at h
    subst h
    simp [dashes, List.count_cons]
  | s :: r, i + 1, x, h => by
    have := dashes_set (r := r) (i := i) (x := x) (by simpa using h)
    simp only [dashes, List.set_cons_succ, List.count_cons] at this ⊢
    omega
theorem dashes_set' : ∀ {r : List Sg} {i : Nat} {x y : Bool}, r[i]? = some (some x) → dashes (r.set i (some y)) = dashes r
  | [], i, x, y, h => by simp at h
  | s :: r, 0, x, y, h => by
    simp at h
    subst h
    simp [dashes, List.count_cons]
  | s :: r, i + 1, x, y, h => by
    have := dashes_set' (r := r) (i := i) (x := x) (y := y) (by simpa using h)
    simp only [dashes, List.set_cons_succ, List.count_cons] at this ⊢
    omega
theorem dashes_zero : ∀ {r : List Sg}, dashes r = 0 → ∃ b : List Bool, r = ofBits b ∧ b.length = r.length
  | [], _ => ⟨[], rfl, rfl⟩
  | s :: r, h => by
    simp only [dashes, List.count_cons] at h
    obtain ⟨b, hb, hl⟩ := dashes_zero (r := r) (by unfold dashes; omega)
    rcases s with _ | s
    · simp at h
    · exact ⟨s :: b, by rw [hb]; rfl, by simp [hl]⟩
theorem dashes_pos {r : List Sg} (h : 0 < dashes r) : ∃ i, i < r.length ∧ r[i]? = some none := by
  have : none ∈ r := List.count_pos_iff.mp h
  obtain ⟨i, hi⟩ := List.mem_iff_getElem?.mp this
  exact ⟨i, (List.getElem?_eq_some_iff.mp hi).1, hi⟩
theorem dashes_le (r : List Sg) : dashes r ≤ r.length := List.count_le_length

/-! ### one round of merging -/
/-- c at the end, if it is not there yet -/
def ins {α : Type} [DecidableEq α] (l : List α) (c : α) : List α := if c ∈ l then l else l ++ [c]
theorem mem_ins {α : Type} [DecidableEq α] {l : List α} {c x : α} : x ∈ ins l c ↔ x ∈ l ∨ x = c := by
  unfold ins
  split
  · rename_i h
    constructor
    · exact .inl
    · rintro (h | rfl)
      · exact h
      · assumption
  · simp
theorem nodup_ins {α : Type} [DecidableEq α] {l : List α} {c : α} (h : l.Nodup) : (ins l c).Nodup := by
  unfold ins
  split
  · exact h
  · rename_i q
    rw [List.nodup_append]
    exact ⟨h, by simp, fun a ha b hb e => q (by rw [List.mem_singleton.mp hb] at e; rw [← e]; exact ha)⟩
abbrev WC := List (List Sg) × List (List Sg)
/-- the step at one place -/
def mstep (L : List (List Sg)) (r : List Sg) (s : WC) (i : Nat) : WC :=
  if r[i]? = some (some false) ∧ r.set i (some true) ∈ L then (ins s.1 (r.set i none), ins (ins s.2 r) (r.set i (some true))) else s
def mrow (L : List (List Sg)) (w : Nat) (s : WC) (r : List Sg) : WC := (List.range w).foldl (mstep L r) s
def mall (L : List (List Sg)) (w : Nat) : WC := L.foldl (mrow L w) ([], [])
theorem mem_row {L : List (List Sg)} {r : List Sg} {x : List Sg} : ∀ (is : List Nat) (s : WC),
    (x ∈ (is.foldl (mstep L r) s).1 ↔ x ∈ s.1 ∨ ∃ i ∈ is, r[i]? = some (some false) ∧ r.set i (some true) ∈ L ∧ x = r.set i none) ∧
    (x ∈ (is.foldl (mstep L r) s).2 ↔ x ∈ s.2 ∨ ∃ i ∈ is, r[i]? = some (some false) ∧ r.set i (some true) ∈ L ∧ (x = r ∨ x = r.set i (some true)))
  | [], s => by simp
  | i :: is, s => by
    have ih := mem_row (L := L) (r := r) (x := x) is (mstep L r s i)
    rw [List.foldl_cons, ih.1, ih.2]
    unfold mstep
    by_cases h : r[i]? = some (some false) ∧ r.set i (some true) ∈ L
    · simp only [if_pos h, mem_ins, List.mem_cons, exists_eq_or_imp]
      constructor
      · constructor
        · rintro ((h1 | h1) | h1)
          · exact .inl h1
          · exact .inr (.inl ⟨h.1, h.2, h1⟩)
          · exact .inr (.inr h1)
        · rintro (h1 | ⟨_, _, h1⟩ | h1)
          · exact .inl (.inl h1)
          · exact .inl (.inr h1)
          · exact .inr h1
      · constructor
        · rintro (((h1 | h1) | h1) | h1)
          · exact .inl h1
          · exact .inr (.inl ⟨h.1, h.2, .inl h1⟩)
          · exact .inr (.inl ⟨h.1, h.2, .inr h1⟩)
          · exact .inr (.inr h1)
        · rintro (h1 | ⟨_, _, h1 | h1⟩ | h1)
          · exact .inl (.inl (.inl h1))
          · exact .inl (.inl (.inr h1))
          · exact .inl (.inr h1)
          · exact .inr h1
    · simp only [if_neg h, List.mem_cons, exists_eq_or_imp]
      constructor
      · constructor
        · rintro (h1 | h1)
          · exact .inl h1
          · exact .inr (.inr h1)
        · rintro (h1 | ⟨h2, h3, _⟩ | h1)
          · exact .inl h1
          · exact absurd ⟨h2, h3⟩ h
          · exact .inr h1
      · constructor
        · rintro (h1 | h1)
          · exact .inl h1
          · exact .inr (.inr h1)
        · rintro (h1 | ⟨h2, h3, _⟩ | h1)
          · exact .inl h1
          · exact absurd ⟨h2, h3⟩ h
          · exact .inr h1
theorem mem_rows {L : List (List Sg)} {w : Nat} {x : List Sg} : ∀ (rs : List (List Sg)) (s : WC),
    (x ∈ (rs.foldl (mrow L w) s).1 ↔ x ∈ s.1 ∨ ∃ r ∈ rs, ∃ i, i < w ∧ r[i]? = some (some false) ∧ r.set i (some true) ∈ L ∧ x = r.set i none) ∧
    (x ∈ (rs.foldl (mrow L w) s).2 ↔ x ∈ s.2 ∨ ∃ r ∈ rs, ∃ i, i < w ∧ r[i]? = some (some false) ∧ r.set i (some true) ∈ L ∧ (x = r ∨ x = r.set i (some true)))
  | [], s => by simp
  | r :: rs, s => by
    have ih := mem_rows (L := L) (w := w) (x := x) rs (mrow L w s r)
    have h0 := mem_row (L := L) (r := r) (x := x) (List.range w) s
    rw [List.foldl_cons, ih.1, ih.2]
    unfold mrow
    rw [h0.1, h0.2]
    simp only [List.mem_range, List.mem_cons, exists_eq_or_imp, or_assoc]
    constructor <;> first | exact Iff.rfl | trivial
theorem nodup_row {L : List (List Sg)} {r : List Sg} : ∀ (is : List Nat) (s : WC), s.1.Nodup → s.2.Nodup → (is.foldl (mstep L r) s).1.Nodup ∧ (is.foldl (mstep L r) s).2.Nodup
  | [], s, h1, h2 => ⟨h1, h2⟩
  | i :: is, s, h1, h2 => by
    rw [List.foldl_cons]
    apply nodup_row is
    · unfold mstep; split
      · exact nodup_ins h1
      · exact h1
    · unfold mstep; split
      · exact nodup_ins (nodup_ins h2)
      · exact h2
theorem nodup_rows {L : List (List Sg)} {w : Nat} : ∀ (rs : List (List Sg)) (s : WC), s.1.Nodup → s.2.Nodup → (rs.foldl (mrow L w) s).1.Nodup ∧ (rs.foldl (mrow L w) s).2.Nodup
  | [], s, h1, h2 => ⟨h1, h2⟩
  | r :: rs, s, h1, h2 => by
    rw [List.foldl_cons]
    obtain ⟨h3, h4⟩ := nodup_row (L := L) (r := r) (List.range w) s h1 h2
    exact nodup_rows rs _ h3 h4
/-- the level of the cubes with k dashes -/
structure Lev (P : Nat → Prop) (w k : Nat) (L : List (List Sg)) : Prop where
  nd : L.Nodup
  mem : ∀ r, r ∈ L ↔ r.length = w ∧ dashes r = k ∧ impl P r
def pri (L : List (List Sg)) (w : Nat) : List (List Sg) := L.filter fun r => decide (r ∉ (mall L w).2)
theorem lev_next {P : Nat → Prop} {w k : Nat} {L : List (List Sg)} (h : Lev P w k L) : Lev P w (k + 1) (mall L w).1 := by
  refine ⟨(nodup_rows L _ List.nodup_nil List.nodup_nil).1, fun x => ?_⟩
  unfold mall
  rw [(mem_rows L _).1]
  simp only [List.not_mem_nil, false_or]
  constructor
  · rintro ⟨r, hr, i, hi, h1, h2, rfl⟩
    obtain ⟨a1, a2, a3⟩ := (h.mem r).mp hr
    obtain ⟨b1, b2, b3⟩ := (h.mem _).mp h2
    refine ⟨by simpa using a1, by rw [dashes_set h1, a2], ?_⟩
    have hi' : i < r.length := by omega
    rw [impl_set (i := i) (set_get hi'), List.set_set, List.set_set]
    refine ⟨?_, b3⟩
    have e : r.set i (some false) = r := by
      have := set_back (t := some false) h1
      rwa [List.set_set] at this
    rw [e]; exact a3
  · rintro ⟨h1, h2, h3⟩
    obtain ⟨i, hi, hn⟩ := dashes_pos (r := x) (by omega)
    have hq := (impl_set hn).mp h3
    have d1 : dashes (x.set i (some false)) = k := by
      have e : dashes ((x.set i (some false)).set i none) = dashes (x.set i (some false)) + 1 := dashes_set (x := false) (set_get hi)
      rw [set_back hn] at e
      omega
    have d2 : dashes (x.set i (some true)) = k := by
      have e : dashes ((x.set i (some true)).set i none) = dashes (x.set i (some true)) + 1 := dashes_set (x := true) (set_get hi)
      rw [set_back hn] at e
      omega
    refine ⟨x.set i (some false), (h.mem _).mpr ⟨by simpa using h1, d1, hq.1⟩, i, by omega, set_get hi, ?_, (set_back hn).symm⟩
    rw [List.set_set]
    exact (h.mem _).mpr ⟨by simpa using h1, d2, hq.2⟩
theorem mem_pri {P : Nat → Prop} {w k : Nat} {L : List (List Sg)} (h : Lev P w k L) (x : List Sg) : x ∈ pri L w ↔ x.length = w ∧ dashes x = k ∧ prime P x := by
  unfold pri
  rw [List.mem_filter, decide_eq_true_eq]
  unfold mall
  rw [(mem_rows L _).2]
  simp only [List.not_mem_nil, false_or]
  constructor
  · rintro ⟨hx, hn⟩
    obtain ⟨a1, a2, a3⟩ := (h.mem x).mp hx
    refine ⟨a1, a2, a3, fun i hi hd hq => hn ?_⟩
    obtain ⟨s, hs⟩ : ∃ s, x[i]? = some s := ⟨x[i], List.getElem?_eq_getElem hi⟩
    rcases s with _ | s
    · exact absurd hs hd
    have hq' := (impl_set (i := i) (set_get hi)).mp hq
    rw [List.set_set, List.set_set] at hq'
    have lvl : ∀ y, impl P (x.set i (some y)) → x.set i (some y) ∈ L := fun y hy => (h.mem _).mpr ⟨by simpa using a1, by rw [dashes_set' hs]; exact a2, hy⟩
    cases s with
    | false => exact ⟨x, hx, i, by omega, hs, lvl true hq'.2, .inl rfl⟩
    | true =>
      refine ⟨x.set i (some false), lvl false hq'.1, i, by omega, set_get hi, ?_, .inr ?_⟩
      · rw [List.set_set]; exact lvl true hq'.2
      · rw [set_back hs]
  · rintro ⟨h1, h2, h3, h4⟩
    refine ⟨(h.mem x).mpr ⟨h1, h2, h3⟩, ?_⟩
    rintro ⟨r, hr, i, hi, hf, ho, hx⟩
    obtain ⟨a1, a2, a3⟩ := (h.mem r).mp hr
    obtain ⟨b1, b2, b3⟩ := (h.mem _).mp ho
    have hir : i < r.length := by omega
    have full : impl P (r.set i none) := by
      rw [impl_set (i := i) (set_get hir), List.set_set, List.set_set]
      refine ⟨?_, b3⟩
      have e : r.set i (some false) = r := by
        have := set_back (t := some false) hf
        rwa [List.set_set] at this
      rw [e]; exact a3
    rcases hx with rfl | rfl
    · exact h4 i hir (by rw [hf]; simp) full
    · refine h4 i (by simpa using hir) (by rw [set_get hir]; simp) ?_
      rw [List.set_set]; exact full
end Q70

/-! P70b: what cube_text, merged, prime_cubes do. -/
namespace MP
open PySem PySem.Spec PyProof.Rows L2
open Q70 (Sg vl mk WC ins mstep mrow mall pri Lev)

def sgn : Sg → Nat
  | none => 45
  | some true => 49
  | some false => 48
def tx (r : List Sg) : List Nat := r.reverse.map sgn
def encC (r : List Sg) : D := .tup [.int (vl r), .int (mk r)]
theorem band (a b : Nat) : Builtin.bitAnd (a : Int) (b : Int) = ((a &&& b : Nat) : Int) := by
  simp [Builtin.bitAnd, Spec.bitAnd]
theorem and_pow (n i : Nat) : (n &&& 2 ^ i = 0) ↔ n.testBit i = false := by
  constructor
  · intro h
    have := congrArg (fun x => x.testBit i) h
    simp only [Nat.testBit_and, Nat.testBit_two_pow_self, Bool.and_true, Nat.zero_testBit] at this
    exact this
  · intro h
    apply Nat.eq_of_testBit_eq
    intro j
    rw [Nat.testBit_and, Nat.zero_testBit]
    by_cases q : i = j
    · subst q; rw [h]; rfl
    · rw [Nat.testBit_two_pow_of_ne q, Bool.and_false]
theorem shl1 {j : Nat} (h : j ≤ 1000000) : shlD (.int 1) (.int (j : Int)) = some (.int ((2 ^ j : Nat) : Int)) := by
  rw [shlD_int, if_pos ⟨by omega, by omega, by decide⟩]
  simp
theorem band0 {n i : Nat} : decide (Builtin.bitAnd (n : Int) ((2 ^ i : Nat) : Int) = 0) = !n.testBit i := by
  rw [band]
  by_cases h : n.testBit i = false
  · have := (and_pow n i).mpr h
    rw [h, this]; rfl
  · have h' : n.testBit i = true := by simpa using h
    have : ¬ (n &&& 2 ^ i = 0) := fun z => h ((and_pow n i).mp z)
    rw [h']
    simpa using this
theorem strsD_map {α : Type} (f : α → List Nat) : ∀ l : List α, strsD (l.map fun x => D.str (f x)) = some (l.map f)
  | [] => rfl
  | x :: l => by rw [List.map_cons, strsD, strsD_map f l]; rfl
theorem joinL_nil {α : Type} (f : α → Nat) : ∀ l : List α, TL.joinL [] (l.map fun x => [f x]) = l.map f
  | [] => rfl
  | [x] => rfl
  | x :: y :: l => by
    have := joinL_nil f (y :: l)
    rw [List.map_cons] at this
    rw [List.map_cons, List.map_cons, TL.joinL, this]
    rfl
theorem sum_ones {α : Type} (f : α → Nat) : ∀ l : List α, ((l.map fun x => [f x]).map List.length).sum = l.length
  | [] => rfl
  | x :: l => by
    rw [List.map_cons, List.map_cons, List.sum_cons, sum_ones f l, List.length_cons]
    simp; omega
theorem joinD_signs {α : Type} (f : α → Nat) {l : List α} (h : l.length ≤ 10000000) : joinD (.str []) (.lst (l.map fun x => D.str [f x])) = some (.str (l.map f)) := by
  rw [joinD, strsD_map fun x => [f x]]
  simp only [Option.bind_some]
  rw [sum_ones, joinL_nil, if_pos]
  rw [List.length_map]
  simp
  omega
@[simp] theorem st_e : (Str.ofString "").cps.toList = [] := by decide
@[simp] theorem st_m : (Str.ofString "-").cps.toList = [45] := by decide
@[simp] theorem st_0 : (Str.ofString "0").cps.toList = [48] := by decide
@[simp] theorem st_1 : (Str.ofString "1").cps.toList = [49] := by decide
theorem e_cube_text {r : List Sg} (hw : r.length ≤ 1000) : p_cube_text [.int r.length, .int (vl r), .int (mk r)] = .ok (.str (tx r)) := by
  let Iv : List D → Sx → Prop := fun ds S => ∃ j acc a b, ds = (rgD 0 r.length).drop j ∧ j ≤ r.length ∧ acc = ((r.reverse.take j).map fun s => D.str [sgn s]) ∧ S = [.va (.int r.length), .va (.int (vl r)), .va (.int (mk r)), .ow (.lst acc), a, b]
  have step : ∀ d ds S, Iv (d :: ds) S → ∃ S1, pTg (.nm 4) d S = .ok () S1 ∧ ∃ S2, (l_cube_text_1 S1 = .ok .nx S2 ∨ l_cube_text_1 S1 = .ok .ct S2) ∧ Iv ds S2 := by
    rintro d ds S ⟨j, acc, a, b, e1, e2, e3, rfl⟩
    have hj : j < r.length := by
      have := congrArg List.length e1
      rw [List.length_drop, rgD_length] at this
      simp at this
      omega
    have hd : (rgD 0 r.length).drop j = .int (0 + (j : Nat)) :: (rgD 0 r.length).drop (j + 1) := by
      rw [List.drop_eq_getElem_cons (by rw [rgD_length]; exact hj)]
      congr 1
      simp [rgD]
    rw [hd] at e1
    obtain ⟨rfl, rfl⟩ := List.cons.inj e1
    refine ⟨_, by simp; rfl, ?_⟩
    have hb : (r.length : Int) - 1 - (0 + (j : Int)) = ((r.length - 1 - j : Nat) : Int) := by omega
    have hb' : (r.length : Int) - 1 - (j : Int) = ((r.length - 1 - j : Nat) : Int) := by omega
    have hsh := shl1 (j := r.length - 1 - j) (by omega)
    have hg : r.reverse[j]? = r[r.length - 1 - j]? := by
      rw [List.getElem?_reverse hj]
    obtain ⟨s, hs⟩ : ∃ s, r[r.length - 1 - j]? = some s := ⟨_, List.getElem?_eq_getElem (by omega)⟩
    have ht : r.reverse.take (j + 1) = r.reverse.take j ++ [s] := by
      rw [List.take_add_one, hg, hs]; rfl
    have hacc : acc.length < sizeLine := by
      rw [e3, List.length_map, List.length_take]
      have := szl
      simp
      omega
    have hm := band0 (n := mk r) (i := r.length - 1 - j)
    have hv := band0 (n := vl r) (i := r.length - 1 - j)
    rw [Q70.testBit_mk, hs] at hm
    rw [Q70.testBit_vl, hs] at hv
    obtain ⟨z, hz⟩ : ∃ z : Int, z = ((2 ^ (r.length - 1 - j) : Nat) : Int) := ⟨_, rfl⟩
    rw [← hz] at hsh hm hv
    refine ⟨[.va (.int r.length), .va (.int (vl r)), .va (.int (mk r)), .ow (.lst (acc ++ [.str [sgn s]])), .va (.int (j : Int)), .va (.int z)], .inl ?_, j + 1, _, _, _, rfl, hj, ?_, rfl⟩
    · rcases s with _ | s
      · have hm : ¬ Builtin.bitAnd (mk r : Int) z = 0 := by simpa using hm
        simp [l_cube_text_1, hb', hsh, hm, hacc, sgn]
      · have hm : Builtin.bitAnd (mk r : Int) z = 0 := by simpa using hm
        cases s
        · have hv : Builtin.bitAnd (vl r : Int) z = 0 := by simpa using hv
          simp [l_cube_text_1, hb', hsh, hm, hv, hacc, sgn]
        · have hv : ¬ Builtin.bitAnd (vl r : Int) z = 0 := by simpa using hv
          simp [l_cube_text_1, hb', hsh, hm, hv, hacc, sgn]
    · rw [ht, e3, List.map_append]; rfl
  obtain ⟨S', h1, j, acc, a, b, e1, e2, e3, rfl⟩ := for_inv Iv step (ds := rgD 0 r.length) (S := [.va (.int r.length), .va (.int (vl r)), .va (.int (mk r)), .ow (.lst []), .un, .un]) ⟨0, [], .un, .un, rfl, by omega, rfl, rfl⟩
  have ej : j = r.length := by
    have := congrArg List.length e1
    rw [List.length_drop, rgD_length] at this
    simp at this
    omega
  subst ej
  rw [List.take_of_length_le (by simp)] at e3
  subst e3
  have hr := range1_nat (n := r.length) (by omega)
  have hj := joinD_signs sgn (l := r.reverse) (by simp; omega)
  simp [p_cube_text, runF, m_cube_text, startS, hr, h1, hj, -List.map_reverse]
  rfl
end MP

/-! P70c: merged. -/
namespace MP
open PySem PySem.Spec PyProof.Rows L2
open Q70 (Sg vl mk WC ins mstep mrow mall pri Lev)

/-- a loop that folds a state of mathematics -/
theorem for_fold {α τ : Type} {tg : D → M Unit} {b : MS} (St : τ → Sx → Prop) (enc : α → D) (f : τ → α → τ) (s0 : τ) (l : List α)
    (step : ∀ pre a post, l = pre ++ a :: post → ∀ S, St (pre.foldl f s0) S → ∃ S1, tg (enc a) S = .ok () S1 ∧ ∃ S2, (b S1 = .ok .nx S2 ∨ b S1 = .ok .ct S2) ∧ St (f (pre.foldl f s0) a) S2) {S : Sx} (h : St s0 S) :
    ∃ S', forGo tg b (l.map enc) S = .ok .nx S' ∧ St (l.foldl f s0) S' := by
  obtain ⟨S', h1, pre, post, h2, h3, h4⟩ := for_inv (tg := tg) (b := b) (fun ds S => ∃ pre post, l = pre ++ post ∧ ds = post.map enc ∧ St (pre.foldl f s0) S) (fun d ds S ⟨pre, post, h1, h2, h3⟩ => by
    cases post with
    | nil => cases h2
    | cons a post =>
      rw [List.map_cons] at h2
      obtain ⟨rfl, rfl⟩ := List.cons.inj h2
      obtain ⟨S1, k1, S2, k2, k3⟩ := step pre a post h1 S h3
      refine ⟨S1, k1, S2, k2, pre ++ [a], post, by rw [h1]; simp, rfl, ?_⟩
      rw [List.foldl_append]
      exact k3) (ds := l.map enc) (S := S) ⟨[], l, rfl, rfl, h⟩
  have : post = [] := by
    cases post with
    | nil => rfl
    | cons a post => cases h3
  subst this
  rw [List.append_nil] at h2
  subst h2
  exact ⟨S', h1, h4⟩
@[simp] theorem isCont_encC (r : List Sg) : isCont (encC r) = false := rfl
@[simp] theorem flatD_encC (r : List Sg) : flatD (encC r) = false := rfl
def kvsOf (ks : List (List Sg)) : List (D × D) := ks.map fun r => (encC r, .bl true)
theorem keyOf_enc (r : List Sg) : keyOf (encC r) = some (.tup [.num (vl r), .num (mk r)]) := by
  simp [encC, keyOf, keysOf]
theorem keyOf_inj {r q : List Sg} (h : r.length = q.length) : keyOf (encC r) = keyOf (encC q) ↔ r = q := by
  rw [keyOf_enc, keyOf_enc]
  constructor
  · intro e
    simp at e
    exact Q70.enc_inj h (by omega) (by omega)
  · rintro rfl; rfl
theorem dget_kvs {w : Nat} {ks : List (List Sg)} {r : List Sg} (hk : ∀ q ∈ ks, q.length = w) (hr : r.length = w) : dget (kvsOf ks) (encC r) = if r ∈ ks then some (.bl true) else none := by
  induction ks with
  | nil => rfl
  | cons q ks ih =>
    have hq := hk q List.mem_cons_self
    have ih := ih fun x hx => hk x (List.mem_cons_of_mem _ hx)
    unfold dget kvsOf at ih ⊢
    rw [List.map_cons, List.find?_cons]
    by_cases e : q = r
    · subst e
      simp
    · have : decide (keyOf (encC q) = keyOf (encC r)) = false := decide_eq_false fun z => e ((keyOf_inj (by omega)).mp z)
      rw [this]
      simp only
      rw [ih]
      have : (r ∈ q :: ks) ↔ r ∈ ks := by simp [Ne.symm e]
      simp only [this]
theorem askOk_kvs {ks : List (List Sg)} {r : List Sg} : askOk (kvsOf ks) (encC r) = true := by
  have h1 : keyGood (encC r) = true := by
    unfold keyGood
    rw [keyOf_enc]
    exact decide_eq_true (by simp [NestedKey.depth, NestedKey.depthAll])
  have h2 : ((kvsOf ks).all fun p => isTup p.1) = true := by
    rw [List.all_eq_true]
    intro p hp
    obtain ⟨q, _, rfl⟩ := List.mem_map.mp hp
    rfl
  unfold askOk
  rw [h1, h2]
  rfl
theorem dput_kvs {w : Nat} {ks : List (List Sg)} {r : List Sg} (hk : ∀ q ∈ ks, q.length = w) (hr : r.length = w) : dput (kvsOf ks) (encC r) (.bl true) = kvsOf (ins ks r) := by
  unfold dput ins
  rw [dget_kvs hk hr]
  by_cases h : r ∈ ks
  · rw [if_pos h, if_pos h]
    simp only [Option.isSome_some, if_true]
    unfold kvsOf
    rw [List.map_map]
    apply List.map_congr_left
    intro q _
    simp
  · rw [if_neg h, if_neg h]
    simp [kvsOf]
theorem len_step {L : List (List Sg)} {r : List Sg} (s : WC) (i : Nat) : (mstep L r s i).1.length ≤ s.1.length + 1 ∧ (mstep L r s i).2.length ≤ s.2.length + 2 := by
  have l1 : ∀ (l : List (List Sg)) c, (ins l c).length ≤ l.length + 1 := fun l c => by unfold ins; split <;> simp
  unfold mstep
  split
  · have h1 := l1 s.1 (r.set i none)
    have h2 := l1 s.2 r
    have h3 := l1 (ins s.2 r) (r.set i (some true))
    exact ⟨h1, by simp only; omega⟩
  · exact ⟨by omega, by omega⟩
theorem len_row {L : List (List Sg)} {r : List Sg} : ∀ (is : List Nat) (s : WC), (is.foldl (mstep L r) s).1.length ≤ s.1.length + is.length ∧ (is.foldl (mstep L r) s).2.length ≤ s.2.length + 2 * is.length
  | [], s => ⟨by simp, by simp⟩
  | i :: is, s => by
    have h1 := len_step (L := L) (r := r) s i
    have h2 := len_row (L := L) (r := r) is (mstep L r s i)
    rw [List.foldl_cons, List.length_cons]
    omega
theorem len_rows {L : List (List Sg)} {w : Nat} : ∀ (rs : List (List Sg)) (s : WC), (rs.foldl (mrow L w) s).1.length ≤ s.1.length + w * rs.length ∧ (rs.foldl (mrow L w) s).2.length ≤ s.2.length + 2 * (w * rs.length)
  | [], s => ⟨by simp, by simp⟩
  | r :: rs, s => by
    have h1 := len_row (L := L) (r := r) (List.range w) s
    have h2 := len_rows (L := L) (w := w) rs (mrow L w s r)
    rw [List.length_range] at h1
    unfold mrow at h2 ⊢
    rw [List.foldl_cons, List.length_cons, Nat.mul_add]
    omega
/-- all its texts have the length w -/
def AllW (w : Nat) (s : WC) : Prop := (∀ q ∈ s.1, q.length = w) ∧ ∀ q ∈ s.2, q.length = w
theorem allW_step {L : List (List Sg)} {r : List Sg} {w : Nat} (hr : r.length = w) {s : WC} (h : AllW w s) (i : Nat) : AllW w (mstep L r s i) := by
  unfold mstep
  split
  · refine ⟨fun q hq => ?_, fun q hq => ?_⟩
    · rcases Q70.mem_ins.mp hq with hq | rfl
      · exact h.1 q hq
      · simpa using hr
    · rcases Q70.mem_ins.mp hq with hq | rfl
      · rcases Q70.mem_ins.mp hq with hq | rfl
        · exact h.2 q hq
        · exact hr
      · simpa using hr
  · exact h
theorem allW_row {L : List (List Sg)} {r : List Sg} {w : Nat} (hr : r.length = w) : ∀ (is : List Nat) {s : WC}, AllW w s → AllW w (is.foldl (mstep L r) s)
  | [], s, h => h
  | i :: is, s, h => by rw [List.foldl_cons]; exact allW_row hr is (allW_step hr h i)
theorem allW_rows {L : List (List Sg)} {w : Nat} : ∀ (rs : List (List Sg)) {s : WC}, (∀ r ∈ rs, r.length = w) → AllW w s → AllW w (rs.foldl (mrow L w) s)
  | [], s, _, h => h
  | r :: rs, s, hr, h => by
    rw [List.foldl_cons]
    exact allW_rows rs (fun q hq => hr q (List.mem_cons_of_mem _ hq)) (allW_row (hr r List.mem_cons_self) _ h)
theorem mem_foldIns {α : Type} [DecidableEq α] {x : α} : ∀ (l acc : List α), x ∈ l.foldl ins acc ↔ x ∈ acc ∨ x ∈ l
  | [], acc => by simp
  | c :: l, acc => by rw [List.foldl_cons, mem_foldIns l, Q70.mem_ins, List.mem_cons, or_assoc]
theorem len_foldIns {α : Type} [DecidableEq α] : ∀ (l acc : List α), (l.foldl ins acc).length ≤ acc.length + l.length
  | [], acc => by simp
  | c :: l, acc => by
    have := len_foldIns l (ins acc c)
    have h : (ins acc c).length ≤ acc.length + 1 := by unfold ins; split <;> simp
    rw [List.foldl_cons, List.length_cons]
    omega
/-- the dict of the level's cubes -/
theorem dc_level {w : Nat} {S0 : Sx} {L : List (List Sg)} (hS : S0[3]? = some .un) (hw0 : wipeS S0 [3] = S0) : ∀ {acc : List (List Sg)} {S : Sx}, (∀ q ∈ L, q.length = w) → (∀ q ∈ acc, q.length = w) → acc.length + L.length < sizeLine → wipeS S [3] = S0 →
    ∃ S', dcGo [3] (.nm 3) tYesM (eVar 3) (eC (.bl true)) (L.map encC) (kvsOf acc) S = .ok (kvsOf (L.foldl ins acc)) S' ∧ wipeS S' [3] = S0 := by
  induction L with
  | nil => intro acc S _ _ _ h; exact ⟨S, rfl, h⟩
  | cons r L ih =>
    intro acc S hL ha hl h
    have hr := hL r List.mem_cons_self
    have h3 : 3 < S0.length := (List.getElem?_eq_some_iff.mp hS).1
    have ht : dcTurn (.nm 3) tYesM (eVar 3) (eC (.bl true)) (encC r) (wipeS S [3]) = .ok (some (encC r, .bl true)) (S0.set 3 (.va (encC r))) := by
      rw [h]
      unfold dcTurn
      simp [List.getElem?_set_self h3]
    have hw1 : wipeS (S0.set 3 (.va (encC r))) [3] = S0 := by
      rw [wipeS_1, wipeS_0, List.set_set]
      have : S0.set 3 .un = S0 := hw0
      exact this
    obtain ⟨S', h1, h2⟩ := ih (acc := ins acc r) (S := S0.set 3 (.va (encC r))) (fun q hq => hL q (List.mem_cons_of_mem _ hq)) (fun q hq => by
      rcases Q70.mem_ins.mp hq with hq | rfl
      · exact ha q hq
      · exact hr) (by
        have : (ins acc r).length ≤ acc.length + 1 := by unfold ins; split <;> simp
        rw [List.length_cons] at hl
        omega) hw1
    refine ⟨S', ?_, h2⟩
    have hz : (kvsOf acc).length < sizeLine := by
      unfold kvsOf
      rw [List.length_map]
      omega
    rw [List.map_cons, dcGo, ht]
    simp only [askOk_kvs, Bool.true_and, decide_eq_true hz, if_true]
    rw [dput_kvs ha hr, h1, List.foldl_cons]
theorem inA_kvs {w : Nat} {ks : List (List Sg)} {r : List Sg} (hk : ∀ q ∈ ks, q.length = w) (hr : r.length = w) : inA (encC r) (.dct (kvsOf ks)) = some (.bl (decide (r ∈ ks))) := by
  have e1 : inD (encC r) (.dct (kvsOf ks)) = none := rfl
  have e2 : inDct (encC r) (.dct (kvsOf ks)) = if askOk (kvsOf ks) (encC r) then some (.bl (dget (kvsOf ks) (encC r)).isSome) else none := rfl
  unfold inA
  rw [e1, e2, askOk_kvs, dget_kvs hk hr]
  by_cases h : r ∈ ks <;> simp [h]
theorem notInA_kvs {w : Nat} {ks : List (List Sg)} {r : List Sg} (hk : ∀ q ∈ ks, q.length = w) (hr : r.length = w) : notInA (encC r) (.dct (kvsOf ks)) = some (.bl (decide (r ∉ ks))) := by
  have e1 : notInD (encC r) (.dct (kvsOf ks)) = none := rfl
  have e2 : notInDct (encC r) (.dct (kvsOf ks)) = if askOk (kvsOf ks) (encC r) then some (.bl (!(dget (kvsOf ks) (encC r)).isSome)) else none := rfl
  unfold notInA
  rw [e1, e2, askOk_kvs, dget_kvs hk hr]
  by_cases h : r ∈ ks <;> simp [h]
theorem setD_kvs {w : Nat} {ks : List (List Sg)} {r : List Sg} (hk : ∀ q ∈ ks, q.length = w) (hr : r.length = w) (hl : ks.length < sizeLine) : setD (.dct (kvsOf ks)) (encC r) (.bl true) = some (.dct (kvsOf (ins ks r))) := by
  have : (kvsOf ks).length < sizeLine := by unfold kvsOf; rw [List.length_map]; exact hl
  unfold setD
  simp only [askOk_kvs, decide_eq_true this, Bool.and_self, if_true]
  rw [dput_kvs hk hr]
abbrev SM (w : Nat) (L : List (List Sg)) (lv : D) (th : List (List Sg)) (s : WC) (a b c d e f : Sl) : Sx := [.va (.int w), .va lv, .ow (.dct (kvsOf th)), f, .ow (.dct (kvsOf s.1)), .ow (.dct (kvsOf s.2)), a, b, c, d, e]
theorem merged_row {w : Nat} {L th : List (List Sg)} {lv : D} {r : List Sg} (hw : w ≤ 1000) (hr : r.length = w) (hth : ∀ q ∈ th, q.length = w) (hm : ∀ q, q ∈ th ↔ q ∈ L) {s : WC} (hs : AllW w s) (hz : s.1.length + w < 16000000 ∧ s.2.length + 2 * w < 16000000) {c d e f : Sl} :
    ∃ S', l_merged_2 (SM w L lv th s (.va (.int (vl r))) (.va (.int (mk r))) c d e f) = .ok .nx S' ∧ ∃ c d e, S' = SM w L lv th (mrow L w s r) (.va (.int (vl r))) (.va (.int (mk r))) c d e f := by
  have hr1 := range1_nat (n := w) (by omega)
  obtain ⟨S', h1, c', d', e', rfl⟩ := for_fold (tg := pTg (.nm 8)) (b := l_merged_1) (fun s S => ∃ c d e, S = SM w L lv th s (.va (.int (vl r))) (.va (.int (mk r))) c d e f) (fun i : Nat => D.int (0 + (i : Int))) (mstep L r) s (List.range w) (fun pre i post hp S ⟨c, d, e, hS⟩ => by
    subst hS
    have hi : i < w := List.mem_range.mp (by rw [hp]; simp)
    have hpl : pre.length < w := by
      have := congrArg List.length hp
      simp at this
      omega
    have hl := len_row (L := L) (r := r) pre s
    have hA := allW_row (L := L) hr pre hs
    generalize pre.foldl (mstep L r) s = s1 at hl hA ⊢
    refine ⟨_, by simp; rfl, ?_⟩
    have hsh := shl1 (j := i) (by omega)
    have hmb := band0 (n := mk r) (i := i)
    have hvb := band0 (n := vl r) (i := i)
    rw [Q70.testBit_mk] at hmb
    rw [Q70.testBit_vl] at hvb
    obtain ⟨sg, hsg⟩ : ∃ s, r[i]? = some s := ⟨_, List.getElem?_eq_getElem (by omega)⟩
    rw [hsg] at hmb hvb
    have hadd : (vl r : Int) + ((2 ^ i : Nat) : Int) = ((vl r + 2 ^ i : Nat) : Int) := by omega
    have hadm : (mk r : Int) + ((2 ^ i : Nat) : Int) = ((mk r + 2 ^ i : Nat) : Int) := by omega
    obtain ⟨z, hzz⟩ : ∃ z : Int, z = ((2 ^ i : Nat) : Int) := ⟨_, rfl⟩
    have szl := szl
    rcases sg with _ | sg
    · have hmb : ¬ Builtin.bitAnd (mk r : Int) z = 0 := by rw [hzz]; simpa using hmb
      rw [← hzz] at hsh
      have e0 : mstep L r s1 i = s1 := by unfold mstep; rw [hsg]; simp
      rw [e0]
      by_cases hv0 : Builtin.bitAnd (vl r : Int) z = 0
      · exact ⟨SM w L lv th s1 (.va (.int (vl r))) (.va (.int (mk r))) (.va (.int i)) (.va (.int z)) (.va (.tup [.int ((vl r : Int) + z), .int (mk r)])) f, .inl (by simp [l_merged_1, hsh, hmb, hv0]), _, _, _, rfl⟩
      · exact ⟨SM w L lv th s1 (.va (.int (vl r))) (.va (.int (mk r))) (.va (.int i)) (.va (.int z)) (.va (.tup [.int ((vl r : Int) + z), .int (mk r)])) f, .inl (by simp [l_merged_1, hsh, hmb, hv0]), _, _, _, rfl⟩
    · cases sg with
      | true =>
        have hvb : ¬ Builtin.bitAnd (vl r : Int) z = 0 := by rw [hzz]; simpa using hvb
        rw [← hzz] at hsh
        have e0 : mstep L r s1 i = s1 := by unfold mstep; rw [hsg]; simp
        rw [e0]
        exact ⟨SM w L lv th s1 (.va (.int (vl r))) (.va (.int (mk r))) (.va (.int i)) (.va (.int z)) (.va (.tup [.int ((vl r : Int) + z), .int (mk r)])) f, .inl (by simp [l_merged_1, hsh, hvb]), _, _, _, rfl⟩
      | false =>
        have hvb : Builtin.bitAnd (vl r : Int) z = 0 := by rw [hzz]; simpa using hvb
        have hmb : Builtin.bitAnd (mk r : Int) z = 0 := by rw [hzz]; simpa using hmb
        have ho : D.tup [.int ((vl r : Int) + z), .int (mk r)] = encC (r.set i (some true)) := by
          unfold encC
          rw [Q70.vl_set_o hsg, Q70.mk_set_o hsg, hzz, hadd]
        have hdd : D.tup [.int (vl r), .int ((mk r : Int) + z)] = encC (r.set i none) := by
          unfold encC
          rw [Q70.vl_set_d hsg, Q70.mk_set_d hsg, hzz, hadm]
        have hself : D.tup [.int (vl r), .int (mk r)] = encC r := rfl
        have hin := inA_kvs hth (r := r.set i (some true)) (by simpa using hr)
        rw [← hzz] at hsh
        by_cases hL : r.set i (some true) ∈ L
        · have hin : inA (encC (r.set i (some true))) (.dct (kvsOf th)) = some (.bl true) := by rw [hin, decide_eq_true ((hm _).mpr hL)]
          have e0 : mstep L r s1 i = (ins s1.1 (r.set i none), ins (ins s1.2 r) (r.set i (some true))) := by unfold mstep; rw [if_pos ⟨hsg, hL⟩]
          rw [e0]
          have s1' := setD_kvs hA.1 (r := r.set i none) (by simpa using hr) (by omega)
          have s2' := setD_kvs hA.2 (r := r) hr (by omega)
          have s3' := setD_kvs (ks := ins s1.2 r) (w := w) (r := r.set i (some true)) (fun q hq => by
            rcases Q70.mem_ins.mp hq with hq | rfl
            · exact hA.2 q hq
            · exact hr) (by simpa using hr) (by
              have : (ins s1.2 r).length ≤ s1.2.length + 1 := by unfold ins; split <;> simp
              omega)
          exact ⟨SM w L lv th (ins s1.1 (r.set i none), ins (ins s1.2 r) (r.set i (some true))) (.va (.int (vl r))) (.va (.int (mk r))) (.va (.int i)) (.va (.int z)) (.va (.tup [.int ((vl r : Int) + z), .int (mk r)])) f, .inl (by simp [l_merged_1, hsh, hvb, hmb, ho, hin, hdd, hself, s1', s2', s3']), _, _, _, rfl⟩
        · have hin : inA (encC (r.set i (some true))) (.dct (kvsOf th)) = some (.bl false) := by rw [hin, decide_eq_false fun q => hL ((hm _).mp q)]
          have e0 : mstep L r s1 i = s1 := by unfold mstep; rw [if_neg fun q => hL q.2]
          rw [e0]
          exact ⟨SM w L lv th s1 (.va (.int (vl r))) (.va (.int (mk r))) (.va (.int i)) (.va (.int z)) (.va (.tup [.int ((vl r : Int) + z), .int (mk r)])) f, .inl (by simp [l_merged_1, hsh, hvb, hmb, ho, hin]), _, _, _, rfl⟩) ⟨c, d, e, rfl⟩
  refine ⟨_, ?_, c', d', e', rfl⟩
  simp only [l_merged_2, ev_for, ev_bind, ev_rg1, ev_evs1, ev_evs0, ev_pure, ev_o, ev_mo]
  simp [hr1]
  exact h1
end MP

/-! P70d: merged and prime_cubes as a whole. -/
namespace MP
open PySem PySem.Spec PyProof.Rows L2
open Q70 (Sg vl mk WC ins mstep mrow mall pri Lev)

theorem e_merged {w : Nat} {L : List (List Sg)} (hw : w ≤ 10) (hL : ∀ q ∈ L, q.length = w) (hz : L.length ≤ 100000) :
    p_merged [.int w, .lst (L.map encC)] = .ok (.tup [.lst ((mall L w).1.map encC), .lst ((pri L w).map encC)]) := by
  have hz2 : w * L.length ≤ 1000000 := Nat.le_trans (Nat.mul_le_mul hw hz) (by decide)
  have szl := szl
  obtain ⟨S1, h1, h1'⟩ := dc_level (w := w) (S0 := [.va (.int w), .va (.lst (L.map encC)), .un, .un, .un, .un, .un, .un, .un, .un, .un]) rfl rfl (L := L) (acc := []) (S := [.va (.int w), .va (.lst (L.map encC)), .un, .un, .un, .un, .un, .un, .un, .un, .un]) hL (fun q hq => by cases hq) (by simp; omega) rfl
  have hdc : eDc [3] (iSeq (eVar 1)) (.nm 3) tYesM (eVar 3) (eC (.bl true)) [.va (.int w), .va (.lst (L.map encC)), .un, .un, .un, .un, .un, .un, .un, .un, .un] =
      .ok (.dct (kvsOf (L.foldl ins []))) [.va (.int w), .va (.lst (L.map encC)), .un, .un, .un, .un, .un, .un, .un, .un, .un] := by
    unfold eDc
    rw [ev_bind]
    simp only [ev_iseq, ev_bind, ev_e, List.getElem?_cons_succ, List.getElem?_cons_zero, ev_mo, itemsD_lst]
    unfold dcAll
    have no : noOw [Sl.va (.int w), .va (.lst (L.map encC)), .un, .un, .un, .un, .un, .un, .un, .un, .un] [3] = true := rfl
    rw [no, if_pos rfl]
    have e : kvsOf [] = [] := rfl
    rw [e] at h1
    have e2 : wipeS [Sl.va (.int w), .va (.lst (L.map encC)), .un, .un, .un, .un, .un, .un, .un, .un, .un] [3] = [Sl.va (.int w), .va (.lst (L.map encC)), .un, .un, .un, .un, .un, .un, .un, .un, .un] := rfl
    rw [e2, h1]
    dsimp only
    rw [putBack_same (by rw [h1', e2])]
  have hth : ∀ q ∈ L.foldl ins [], q.length = w := fun q hq => by
    rcases (mem_foldIns L []).mp hq with h | h
    · cases h
    · exact hL q h
  have hm : ∀ q, q ∈ L.foldl ins [] ↔ q ∈ L := fun q => by rw [mem_foldIns]; simp
  have hA0 : AllW w ([], []) := ⟨(fun q hq => by cases hq), (fun q hq => by cases hq)⟩
  obtain ⟨S2, h2, a, b, c, d, e, rfl⟩ := for_fold (tg := pTg (.tp [.nm 6, .nm 7])) (b := l_merged_2) (fun s S => ∃ a b c d e, S = SM w L (.lst (L.map encC)) (L.foldl ins []) s a b c d e .un) encC (mrow L w) ([], []) L (fun pre r post hp S ⟨a, b, c, d, e, hS⟩ => by
    subst hS
    have hr := hL r (by rw [hp]; simp)
    have hpre : ∀ q ∈ pre, q.length = w := fun q hq => hL q (by rw [hp]; simp [hq])
    have hlen := len_rows (L := L) (w := w) pre ([], [])
    have hA := allW_rows (L := L) (w := w) pre hpre hA0
    have hpl : w * pre.length ≤ w * L.length := Nat.mul_le_mul (Nat.le_refl _) (by rw [hp]; simp)
    simp only [List.length_nil, Nat.zero_add] at hlen
    obtain ⟨S', h3, c', d', e', rfl⟩ := merged_row (lv := .lst (L.map encC)) (L := L) (th := L.foldl ins []) (by omega) hr hth hm hA ⟨by omega, by omega⟩ (c := c) (d := d) (e := e) (f := .un)
    refine ⟨SM w L (.lst (L.map encC)) (L.foldl ins []) (pre.foldl (mrow L w) ([], [])) (.va (.int (vl r))) (.va (.int (mk r))) c d e .un, ?_, _, .inl h3, _, _, _, _, _, rfl⟩
    simp [encC]) (S := SM w L (.lst (L.map encC)) (L.foldl ins []) ([], []) .un .un .un .un .un .un) ⟨.un, .un, .un, .un, .un, rfl⟩
  have hlc : eLc [3] (iSeq (eVar 1)) (.nm 3) (MP.tCmp notInA (oVar 3) (oVar 5)) (eVar 3) (SM w L (.lst (L.map encC)) (L.foldl ins []) (L.foldl (mrow L w) ([], [])) a b c d e .un)
      = .ok (.lst ((pri L w).map encC)) (SM w L (.lst (L.map encC)) (L.foldl ins []) (L.foldl (mrow L w) ([], [])) a b c d e .un) := by
    have hcv := (allW_rows (L := L) (w := w) L hL hA0).2
    have fm : ∀ (l : List (List Sg)), (∀ q ∈ l, q.length = w) → (l.map encC).filterMap (fun x => match notInA x (.dct (kvsOf (L.foldl (mrow L w) ([], [])).2)) with | some (.bl true) => some x | _ => none) = (l.filter fun r => decide (r ∉ (mall L w).2)).map encC := by
      intro l
      induction l with
      | nil => intro _; rfl
      | cons r l ih =>
        intro hl
        have hr := hl r List.mem_cons_self
        rw [List.map_cons, List.filterMap_cons, ih fun q hq => hl q (List.mem_cons_of_mem _ hq), notInA_kvs hcv hr, List.filter_cons]
        unfold mall
        by_cases h : r ∉ (L.foldl (mrow L w) ([], [])).2
        · rw [decide_eq_true h]; rfl
        · rw [decide_eq_false h]; rfl
    unfold pri
    rw [← fm L hL]
    refine ev_lc (S1 := SM w L (.lst (L.map encC)) (L.foldl ins []) (L.foldl (mrow L w) ([], [])) a b c d e .un) (ds := L.map encC) _ ?_ rfl (by rw [List.length_map]; omega) fun x hx => ?_
    · simp
    · obtain ⟨r, hr, rfl⟩ := List.mem_map.mp hx
      have hn := notInA_kvs hcv (hL r hr)
      by_cases h : r ∉ (L.foldl (mrow L w) ([], [])).2
      · rw [decide_eq_true h] at hn
        refine ⟨(SM w L (.lst (L.map encC)) (L.foldl ins []) (L.foldl (mrow L w) ([], [])) a b c d e (.va (encC r))), ?_, rfl⟩
        rw [hn]
        simp [lcTurn, hn]
      · rw [decide_eq_false h] at hn
        refine ⟨(SM w L (.lst (L.map encC)) (L.foldl ins []) (L.foldl (mrow L w) ([], [])) a b c d e (.va (encC r))), ?_, rfl⟩
        rw [hn]
        simp [lcTurn, hn]
  have hk : (kvsOf (L.foldl (mrow L w) ([], [])).1).map (·.1) = (mall L w).1.map encC := by
    unfold kvsOf mall
    rw [List.map_map]; rfl
  have e0 : startS 11 [.int w, .lst (L.map encC)] = [.va (.int w), .va (.lst (L.map encC)), .un, .un, .un, .un, .un, .un, .un, .un, .un] := rfl
  unfold p_merged runF m_merged
  rw [e0]
  have h2 : forGo (pTg (.tp [.nm 6, .nm 7])) l_merged_2 (L.map encC) [.va (.int w), .va (.lst (L.map encC)), .ow (.dct (kvsOf (L.foldl ins []))), .un, .ow (.dct []), .ow (.dct []), .un, .un, .un, .un, .un] =
    .ok .nx (SM w L (.lst (L.map encC)) (L.foldl ins []) (L.foldl (mrow L w) ([], [])) a b c d e .un) := h2
  simp [hdc, h2, hlc]
  exact hk
end MP

/-! P70e: prime_cubes. -/
namespace Q70
/-- all cubes of a width -/
def allT : Nat → List (List Sg)
  | 0 => [[]]
  | w + 1 => (allT w).flatMap fun r => [none :: r, some false :: r, some true :: r]
theorem mem_allT : ∀ {w : Nat} {r : List Sg}, r ∈ allT w ↔ r.length = w
  | 0, r => by simp [allT]
  | w + 1, [] => by simp [allT]
  | w + 1, s :: r => by
    have := mem_allT (w := w) (r := r)
    simp only [allT, List.mem_flatMap, List.length_cons]
    constructor
    · rintro ⟨q, hq, h⟩
      have e : r = q := by
        simp at h
        rcases h with h | h | h <;> exact h.2
      subst e
      have := this.mp hq
      omega
    · intro h
      refine ⟨r, this.mpr (by omega), ?_⟩
      rcases s with _ | s
      · simp
      · cases s <;> simp
theorem flat3 {α β : Type} (f g h : α → β) : ∀ l : List α, (l.flatMap fun r => [f r, g r, h r]).length = 3 * l.length
  | [] => rfl
  | a :: l => by
    rw [List.flatMap_cons, List.length_append, flat3 f g h l, List.length_cons]
    simp only [List.length_cons, List.length_nil]
    omega
theorem len_allT : ∀ w, (allT w).length = 3 ^ w
  | 0 => rfl
  | w + 1 => by
    rw [allT, flat3, len_allT w, Nat.pow_succ]
    omega
theorem nodup_len {w : Nat} {l : List (List Sg)} (h : l.Nodup) (hl : ∀ r ∈ l, r.length = w) : l.length ≤ 3 ^ w := by
  rw [← len_allT]
  exact h.length_le_of_subset fun r hr => mem_allT.mpr (hl r hr)
/-- where a level is empty, so are the wider ones -/
theorem lev_empty {P : Nat → Prop} {w k : Nat} (h : Lev P w k []) : ∀ (j : Nat) (r : List Sg), r.length = w → dashes r = k + j → ¬ impl P r
  | 0, r, h1, h2, h3 => by
    have := (h.mem r).mpr ⟨h1, h2, h3⟩
    cases this
  | j + 1, r, h1, h2, h3 => by
    obtain ⟨i, hi, hn⟩ := dashes_pos (r := r) (by omega)
    have hq := (impl_set hn).mp h3
    refine lev_empty h j (r.set i (some false)) (by simpa using h1) ?_ hq.1
    have e : dashes ((r.set i (some false)).set i none) = dashes (r.set i (some false)) + 1 := dashes_set (x := false) (set_get hi)
    rw [set_back hn] at e
    omega
/-- the level of the numbers -/
theorem lev_zero {w : Nat} {os : List Nat} (hn : os.Nodup) (ho : ∀ n ∈ os, n < 2 ^ w) : Lev (· ∈ os) w 0 (os.map fun n => ofBits (bitsOf w n)) := by
  refine ⟨?_, fun r => ?_⟩
  · rw [List.Nodup, List.pairwise_map]
    refine List.Pairwise.imp_of_mem (fun {a b} ha hb hne e => hne ?_) hn
    have e2 : vl (ofBits (bitsOf w a)) = vl (ofBits (bitsOf w b)) := by rw [e]
    rwa [vl_ofBits, vl_ofBits, bv_bitsOf w a (ho a ha), bv_bitsOf w b (ho b hb)] at e2
  · rw [List.mem_map]
    constructor
    · rintro ⟨n, hm, rfl⟩
      refine ⟨by simp [ofBits, bitsOf_length], ?_, fun b hb => ?_⟩
      · unfold dashes ofBits
        rw [List.count_eq_zero]
        simp
      · rw [mt_ofBits] at hb
        subst hb
        rw [bv_bitsOf w n (ho n hm)]
        exact hm
    · rintro ⟨h1, h2, h3⟩
      obtain ⟨b, rfl, hb⟩ := dashes_zero h2
      have := h3 b (mt_ofBits.mpr rfl)
      refine ⟨bv b, this, ?_⟩
      congr 1
      have hl : b.length = w := by omega
      refine bv_inj (by rw [bitsOf_length, hl]) (bv_bitsOf w _ ?_)
      rw [← hl]
      exact bv_lt b
end Q70
namespace MP
open PySem PySem.Spec PyProof.Rows L2
open Q70 (Sg vl mk WC ins mstep mrow mall pri Lev)
abbrev tD (r : List Sg) : D := .str (tx r)
abbrev leD1 : D → D → Bool := PySem.W.dataLe false py
theorem sortOk_strs {α : Type} {f : α → List Nat} {l : List α} (h : l.length ≤ 1000000) : sortOk (l.map fun x => D.str (f x)) = true := by
  have h1 : ∀ l : List α, fits 60 (l.map fun x => D.str (f x)) = true := by
    intro l
    induction l with
    | nil => rfl
    | cons x l ih => rw [List.map_cons, fits, ih]; rfl
  have hp : ∀ l : List α, ∀ a ∈ pys (l.map fun x => D.str (f x)), ∃ s, a = .str s := by
    intro l
    induction l with
    | nil => intro a ha; cases ha
    | cons x l ih =>
      intro a ha
      rw [List.map_cons, pys] at ha
      rcases List.mem_cons.mp ha with rfl | ha
      · exact ⟨_, rfl⟩
      · exact ih a ha
  unfold sortOk
  rw [h1, List.length_map]
  have szl := szl
  simp only [Bool.true_and, Bool.and_eq_true, Bool.or_eq_true, decide_eq_true_eq]
  refine ⟨⟨by omega, ?_⟩, .inr ?_⟩
  · rw [List.all_eq_true]
    intro a ha
    rw [List.all_eq_true]
    intro b hb
    obtain ⟨s, rfl⟩ := hp l a ha
    obtain ⟨t, rfl⟩ := hp l b hb
    rfl
  · rw [List.all_eq_true]
    intro a ha
    obtain ⟨x, _, rfl⟩ := List.mem_map.mp ha
    rfl
theorem sorted_ok {xs : List D} (h : sortOk xs = true) : sortedB [.lst xs] = some (.lst (xs.mergeSort leD1)) := by
  have e : sortedB [.lst xs] = if sortOk xs then some (.lst (xs.mergeSort leD1)) else none := rfl
  rw [e, if_pos h]
theorem fold_app {α : Type} : ∀ (l T : List α), l.foldl (fun T q => T ++ [q]) T = T ++ l
  | [], T => by simp
  | q :: l, T => by rw [List.foldl_cons, fold_app l]; simp
/-- the while loop's slots -/
abbrev SW (w : Nat) (lv : D) (s2 : Sl) (T : List (List Sg)) (a b c d : Sl) : Sx := [.va (.int w), .va lv, s2, a, .ow (.lst (T.map tD)), b, c, d]
theorem prime_row {w : Nat} {lv : D} {s2 : Sl} {a b : Sl} (hw : w ≤ 1000) {Q : List (List Sg)} (hQ : ∀ q ∈ Q, q.length = w) {T : List (List Sg)} (hz : T.length + Q.length ≤ 1000000) {c d : Sl} :
    ∃ S', forGo (pTg (.tp [.nm 6, .nm 7])) l_prime_cubes_1 (Q.map encC) (SW w lv s2 T a b c d) = .ok .nx S' ∧ ∃ c d, S' = SW w lv s2 (T ++ Q) a b c d := by
  have szl := szl
  obtain ⟨S', h1, c', d', e⟩ := for_fold (tg := pTg (.tp [.nm 6, .nm 7])) (b := l_prime_cubes_1) (fun T S => ∃ c d, S = SW w lv s2 T a b c d) encC (fun T q => T ++ [q]) T Q (fun pre r post hp S ⟨c, d, hS⟩ => by
    subst hS
    have hr := hQ r (by rw [hp]; simp)
    rw [fold_app]
    have hl : T.length + pre.length < sizeLine := by
      rw [hp] at hz
      simp at hz
      omega
    have ht := e_cube_text (r := r) (by omega)
    rw [hr] at ht
    refine ⟨SW w lv s2 (T ++ pre) a b (.va (.int (vl r))) (.va (.int (mk r))), by simp [encC], SW w lv s2 (T ++ pre ++ [r]) a b (.va (.int (vl r))) (.va (.int (mk r))), .inl ?_, _, _, rfl⟩
    simp [l_prime_cubes_1, ht, hl]) (S := SW w lv s2 T a b c d) ⟨c, d, rfl⟩
  rw [fold_app] at e
  exact ⟨S', h1, c', d', e⟩
def IW (w : Nat) (os : List Nat) (lv : D) (n : Nat) (S : Sx) : Prop :=
  ∃ k L T s2 a b c d, n + k = w + 1 ∧ Lev (· ∈ os) w k L ∧ T.Nodup ∧ (∀ r, r ∈ T ↔ r.length = w ∧ Q70.dashes r < k ∧ Q70.prime (· ∈ os) r) ∧
    (s2 = .va (.lst (L.map encC)) ∨ s2 = .ow (.lst (L.map encC))) ∧ S = SW w lv s2 T a b c d
theorem prime_while {w : Nat} {os : List Nat} {lv : D} (hw : w ≤ 8) {S : Sx} {n : Nat} (h : IW w os lv n S) :
    ∃ S', mWhile (MP.tCmp gtD (eCal lenB [(oVar 2)]) (eC (.int 0))) l_prime_cubes_2 S = .ok .nx S' ∧
      ∃ T s2 a b c d, T.Nodup ∧ (∀ r, r ∈ T ↔ r.length = w ∧ Q70.prime (· ∈ os) r) ∧ S' = SW w lv s2 T a b c d := by
  have h3 : 3 ^ w ≤ 6561 := Nat.le_trans (Nat.pow_le_pow_right (by decide) hw) (by decide)
  refine while_inv (IW w os lv) (fun o => ∃ S', o = .ok .nx S' ∧ ∃ T s2 a b c d, T.Nodup ∧ (∀ r, r ∈ T ↔ r.length = w ∧ Q70.prime (· ∈ os) r) ∧ S' = SW w lv s2 T a b c d) (by rintro ⟨S', h, _⟩; cases h) ?_ n S h
  rintro n S ⟨k, L, T, s2, a, b, c, d, hk, hL, hT, hm, hs, rfl⟩
  have hLl : L.length ≤ 6561 := Nat.le_trans (Q70.nodup_len hL.nd fun r hr => ((hL.mem r).mp hr).1) h3
  have hTl : T.length ≤ 6561 := Nat.le_trans (Q70.nodup_len hT fun r hr => ((hm r).mp hr).1) h3
  refine ⟨decide (0 < L.length), SW w lv s2 T a b c d, ?_, ?_⟩
  · rcases hs with rfl | rfl <;> simp
  · by_cases h0 : 0 < L.length
    · refine .inr ⟨decide_eq_true h0, .inl ?_⟩
      have hLw : ∀ q ∈ L, q.length = w := fun q hq => ((hL.mem q).mp hq).1
      have hkw : k ≤ w := by
        obtain ⟨r, hr⟩ := List.exists_mem_of_length_pos h0
        have h1 := (hL.mem r).mp hr
        have := Q70.dashes_le r
        omega
      have hem := e_merged (w := w) (L := L) (by omega) hLw (by omega)
      have hPw : ∀ q ∈ pri L w, q.length = w := fun q hq => ((Q70.mem_pri hL q).mp hq).1
      have hPn : (pri L w).Nodup := List.Pairwise.filter _ hL.nd
      have hPl : (pri L w).length ≤ 6561 := Nat.le_trans (Q70.nodup_len hPn hPw) h3
      obtain ⟨S', h1, c', d', rfl⟩ := prime_row (w := w) (lv := lv) (s2 := .va (.lst ((mall L w).1.map encC))) (a := a) (b := .va (.lst ((pri L w).map encC))) (by omega) hPw (T := T) (by omega) (c := c) (d := d)
      refine ⟨_, .inl ?_, n - 1, by omega, k + 1, (mall L w).1, T ++ pri L w, .va (.lst ((mall L w).1.map encC)), a, .va (.lst ((pri L w).map encC)), c', d', by omega, Q70.lev_next hL, ?_, ?_, .inl rfl, rfl⟩
      · rcases hs with rfl | rfl
        · simp [l_prime_cubes_2, hem, h1]
        · simp [l_prime_cubes_2, hem, h1]
      · rw [List.nodup_append]
        refine ⟨hT, hPn, fun x hx y hy e => ?_⟩
        subst e
        have h1 := (hm x).mp hx
        have h2 := (Q70.mem_pri hL x).mp hy
        omega
      · intro r
        rw [List.mem_append, hm, Q70.mem_pri hL]
        constructor
        · rintro (⟨h1, h2, h3⟩ | ⟨h1, h2, h3⟩)
          · exact ⟨h1, by omega, h3⟩
          · exact ⟨h1, by omega, h3⟩
        · rintro ⟨h1, h2, h3⟩
          by_cases q : Q70.dashes r < k
          · exact .inl ⟨h1, q, h3⟩
          · exact .inr ⟨h1, by omega, h3⟩
    · refine .inl ⟨decide_eq_false h0, _, rfl, T, s2, a, b, c, d, hT, fun r => ?_, rfl⟩
      have hLe : L = [] := List.eq_nil_of_length_eq_zero (by omega)
      subst hLe
      rw [hm]
      constructor
      · rintro ⟨h1, h2, h3⟩
        exact ⟨h1, h3⟩
      · rintro ⟨h1, h3⟩
        refine ⟨h1, ?_, h3⟩
        have hle : Q70.dashes r < k ∨ k ≤ Q70.dashes r := by omega
        rcases hle with q | q
        · exact q
        · exact absurd h3.1 (Q70.lev_empty hL (Q70.dashes r - k) r h1 (by omega))
/-- the numbers as they are handed in: a list or a tuple -/
def seqD (k : Bool) (os : List Nat) : D := if k = true then .tup (os.map fun (n : Nat) => .int (n : Int)) else .lst (os.map fun (n : Nat) => .int (n : Int))
theorem e_prime_cubes {w : Nat} {os : List Nat} (hw : w ≤ 8) (hn : os.Nodup) (ho : ∀ n ∈ os, n < 2 ^ w) (kk : Bool) :
    ∃ T : List (List Sg), T.Nodup ∧ (∀ r, r ∈ T ↔ r.length = w ∧ Q70.prime (· ∈ os) r) ∧ p_prime_cubes [.int w, seqD kk os] = .ok (.tup ((T.map tD).mergeSort leD1)) := by
  have h3 : 3 ^ w ≤ 6561 := Nat.le_trans (Nat.pow_le_pow_right (by decide) hw) (by decide)
  have szl := szl
  have h0 := Q70.lev_zero (w := w) hn ho
  have hl0 : os.length ≤ 6561 := by
    have := Q70.nodup_len h0.nd fun r hr => ((h0.mem r).mp hr).1
    rw [List.length_map] at this
    omega
  have e0 : startS 8 [.int w, seqD kk os] = [.va (.int w), .va (seqD kk os), .un, .un, .un, .un, .un, .un] := rfl
  have hit : itemsD (seqD kk os) = some (os.map fun (n : Nat) => .int (n : Int)) := by cases kk <;> rfl
  have hlc : eLc [3] (iSeq (eVar 1)) (.nm 3) tYesM (eTup [(eVar 3), (eC (.int 0))]) [.va (.int w), .va (seqD kk os), .un, .un, .un, .un, .un, .un]
      = .ok (.lst ((os.map fun n => Q70.ofBits (Q70.bitsOf w n)).map encC)) [.va (.int w), .va (seqD kk os), .un, .un, .un, .un, .un, .un] := by
    have e : (os.map fun n => Q70.ofBits (Q70.bitsOf w n)).map encC = (os.map fun (n : Nat) => D.int (n : Int)).map fun d => .tup [d, .int 0] := by
      rw [List.map_map, List.map_map]
      apply List.map_congr_left
      intro n hm
      simp [encC, Q70.vl_ofBits, Q70.mk_ofBits, Q70.bv_bitsOf w n (ho n hm)]
    rw [e]
    refine ev_lcm (ds := os.map fun (n : Nat) => D.int (n : Int)) _ ?_ rfl (by rw [List.length_map]; omega) fun d hd => ?_
    · simp [hit]
    · exact ⟨[.va (.int w), .va (seqD kk os), .un, .va d, .un, .un, .un, .un], [.va (.int w), .va (seqD kk os), .un, .va d, .un, .un, .un, .un], by simp, by simp, rfl⟩
  obtain ⟨S', hwh, T, s2, a, b, c, d, hT, hm, rfl⟩ := prime_while (w := w) (os := os) (lv := seqD kk os) hw (n := w + 1) (S := SW w (seqD kk os) (.ow (.lst ((os.map fun n => Q70.ofBits (Q70.bitsOf w n)).map encC))) [] .un .un .un .un)
    ⟨0, _, [], _, .un, .un, .un, .un, by omega, h0, List.nodup_nil, (fun r => by simp), .inr rfl, rfl⟩
  refine ⟨T, hT, hm, ?_⟩
  have hTl : T.length ≤ 6561 := Nat.le_trans (Q70.nodup_len hT fun r hr => ((hm r).mp hr).1) h3
  have hso := sortOk_strs (f := tx) (l := T) (by omega)
  have hwh' : mWhile (MP.tCmp gtD (eCal lenB [(oVar 2)]) (eC (.int 0))) l_prime_cubes_2 [.va (.int w), .va (seqD kk os), .ow (.lst ((os.map fun n => Q70.ofBits (Q70.bitsOf w n)).map encC)), .un, .ow (.lst []), .un, .un, .un]
    = .ok .nx (SW w (seqD kk os) s2 T a b c d) := hwh
  unfold p_prime_cubes runF m_prime_cubes
  rw [e0]
  have hsd : sortedB [.lst (T.map tD)] = some (.lst ((T.map tD).mergeSort leD1)) := by
    exact sorted_ok hso
  generalize (os.map fun n => Q70.ofBits (Q70.bitsOf w n)).map encC = lv at hlc hwh'
  simp [hlc, hwh', hsd]
end MP

/-! P70f: sorting, equality and repr of rows of texts. -/
namespace MP
open PySem PySem.Spec PyProof.Rows L2
open Q70 (Sg vl mk WC ins mstep mrow mall pri Lev)

theorem leD1_str (x y : List Nat) : leD1 (.str x) (.str y) = decide (x ≤ y) := by
  have h := congrFun (congrFun (PySem.W.dataLe_str (β := List Nat) fun b => (⟨b.toArray⟩ : Str)) x) y
  have h2 : leD1 (.str x) (.str y) = PySem.W.dataLe false (fun b : List Nat => PyData.str ⟨b.toArray⟩) x y := by
    show PySem.W.dataLe false py _ _ = _
    rw [PySem.W.dataLe_eq, PySem.W.dataLe_eq]
    rfl
  rw [h2, h]
theorem sort_strs (xs : List (List Nat)) : (xs.map D.str).mergeSort leD1 = (xs.mergeSort fun x y => decide (x ≤ y)).map D.str :=
  (List.map_mergeSort fun a _ b _ => (leD1_str a b).symm).symm
theorem sort_strs_perm {xs ys : List (List Nat)} (h : xs.Perm ys) : (xs.map D.str).mergeSort leD1 = (ys.map D.str).mergeSort leD1 := by
  rw [sort_strs, sort_strs]
  congr 1
  have tr : ∀ a b c : List Nat, decide (a ≤ b) = true → decide (b ≤ c) = true → decide (a ≤ c) = true := fun a b c h1 h2 => by
    rw [decide_eq_true_eq] at h1 h2 ⊢
    exact List.le_trans h1 h2
  have tt : ∀ a b : List Nat, (decide (a ≤ b) || decide (b ≤ a)) = true := fun a b => by
    rcases List.le_total a b with h | h <;> simp [h]
  refine List.Perm.eq_of_pairwise (le := fun a b : List Nat => decide (a ≤ b) = true) (fun a b _ _ h1 h2 => ?_) (List.pairwise_mergeSort tr tt xs) (List.pairwise_mergeSort tr tt ys) (((List.mergeSort_perm xs _).trans h).trans (List.mergeSort_perm ys _).symm)
  rw [decide_eq_true_eq] at h1 h2
  exact List.le_antisymm h1 h2
mutual
theorem deq_self {n : Nat} : ∀ {d : D}, fit n d = true → deq d d = true
  | .non, _ => by simp only [deq]
  | .bl _, _ => by simp [deq]
  | .int _, _ => by simp [deq]
  | .str _, _ => by simp [deq]
  | .tup xs, h => by
    cases n with
    | zero => simp [fit] at h
    | succ n =>
      have h' : fits n xs = true := by simpa [fit] using h
      simp only [deq]
      exact deqs_self h'
  | .lst xs, h => by
    cases n with
    | zero => simp [fit] at h
    | succ n =>
      have h' : fits n xs = true := by simpa [fit] using h
      simp only [deq]
      exact deqs_self h'
  | .dct _, h => by simp [fit] at h
  | .ins _ _, h => by simp [fit] at h
theorem deqs_self {n : Nat} : ∀ {xs : List D}, fits n xs = true → deqs xs xs = true
  | [], _ => by simp only [deqs]
  | x :: xs, h => by
    have h' : fit n x = true ∧ fits n xs = true := by simpa [fits] using h
    simp only [deqs, deq_self h'.1, deqs_self h'.2, Bool.and_self]
end
theorem eqD_self {d : D} (h : fit 60 d = true) : eqD d d = some (.bl true) := by
  unfold eqD
  rw [h, deq_self h]
  rfl
theorem neD_self {d : D} (h : fit 60 d = true) : neD d d = some (.bl false) := by
  unfold neD
  rw [h, deq_self h]
  rfl
theorem fits_of {n : Nat} : ∀ {xs : List D}, (∀ x ∈ xs, fit n x = true) → fits n xs = true
  | [], _ => rfl
  | x :: xs, h => by
    rw [fits, h x List.mem_cons_self, fits_of fun y hy => h y (List.mem_cons_of_mem _ hy)]
    rfl
/-- a tuple of texts of at most 100 signs -/
theorem reprOk_texts {xs : List (List Nat)} (hl : xs.length ≤ 10000) (hx : ∀ x ∈ xs, x.length ≤ 100 ∧ ∀ c ∈ x, c < 256) : reprOk (.tup (xs.map D.str)) = true := by
  have hf : fit 60 (.tup (xs.map D.str)) = true := by
    have : fits 59 (xs.map D.str) = true := fits_of fun d hd => by
      obtain ⟨x, _, rfl⟩ := List.mem_map.mp hd
      rfl
    simpa [fit] using this
  have hsa : ∀ xs : List (List Nat), PyData.showableAll (pys (xs.map D.str)) = true := by
    intro xs
    induction xs with
    | nil => rfl
    | cons x xs ih => rw [List.map_cons, pys, PyData.showableAll, ih]; rfl
  have hpl : ∀ xs : List (List Nat), (∀ x ∈ xs, x.length ≤ 100 ∧ ∀ c ∈ x, c < 256) → piled (PyData.shownAll (pys (xs.map D.str))) ≤ 1004 * xs.length := by
    intro xs
    induction xs with
    | nil => intro _; exact Nat.le_refl _
    | cons x xs ih =>
      intro hx
      have h1 := ih fun y hy => hx y (List.mem_cons_of_mem _ hy)
      obtain ⟨h2, h3⟩ := hx x List.mem_cons_self
      have h4 := StrLaws.reprText_len ⟨x.toArray⟩ (fun c hc => Nat.lt_of_lt_of_le (h3 c (by simpa using hc)) (by decide))
      have e : (⟨x.toArray⟩ : Str).length = x.length := by simp [Str.length]
      rw [e] at h4
      rw [List.map_cons, pys, PyData.shownAll, piled_cons, List.length_cons]
      have e2 : PyData.shown (py (D.str x)) = reprText ⟨x.toArray⟩ := rfl
      rw [e2]
      omega
  have hsh : (py (.tup (xs.map D.str))).showable = true := hsa xs
  have hlen : (py (.tup (xs.map D.str))).shown.length ≤ 16000000 := by
    have h1 := hpl xs hx
    have e : (py (.tup (xs.map D.str))).shown = tupleText (PyData.shownAll (pys (xs.map D.str))) := rfl
    rw [e]
    generalize PyData.shownAll (pys (xs.map D.str)) = ts at h1
    unfold tupleText
    rw [strLen_append, strLen_append]
    have e1 : ((("(" : String) : Str)).length = 1 := rfl
    have e3 : (((if ts.length == 1 then ",)" else ")" : String) : Str)).length ≤ 2 := by split <;> decide
    rw [e1]
    by_cases h : ts = []
    · subst h
      have e2 : (Str.join ", " []).length = 0 := rfl
      rw [e2]
      omega
    · have := join_length_add ts h
      omega
  unfold reprOk
  rw [hf, hsh]
  have szl := szl
  simp only [Bool.true_and, decide_eq_true_eq]
  omega
end MP

/-! P70g: the script's numbers, the answers' comparison. -/
namespace MP
open PySem PySem.Spec PyProof.Rows L2
open Q70 (Sg vl mk WC ins mstep mrow mall pri Lev)

abbrev nD (n : Nat) : D := .int (n : Int)
theorem small_of {i : Int} (h1 : -18446744073709551616 < i) (h2 : i < 18446744073709551616) : smallI i = true := Nat.ble_eq_true_of_le (by omega)
theorem len_nD {N : List Nat} : (N.map nD).length = N.length := List.length_map _
theorem cut_map {α β : Type} (f : α → β) (xs : List α) (lo hi : Option Int) : cut (xs.map f) lo hi = (cut xs lo hi).map f := by
  unfold cut
  rw [List.length_map, List.map_take, List.map_drop]
theorem small_mod {x m : Int} (h : 0 < m ∧ m < 18446744073709551616) : smallI (x % m) = true := by
  have h1 := Int.emod_nonneg x (b := m) (by omega)
  have h2 := Int.emod_lt_of_pos x h.1
  exact small_of (by omega) (by omega)
theorem lg_1009 : Nat.log2 1009 < 9000 := by decide
theorem lg_7 : Nat.log2 7 < 9000 := by decide
theorem lg_11 : Nat.log2 11 < 9000 := by decide
theorem lg_65536 : Nat.log2 65536 < 9000 := by decide
theorem lg_16 : Nat.log2 16 < 9000 := by decide
theorem numbers_step {c : Int} {N : List Nat} {r : Nat} {k : Nat} {a b d : Sl} (hk : k < 67) (hl : N.length < 1000) :
    ∃ S', l_law_numbers_1 [.va (.int c), .va (.int 67), .ow (.lst (N.map nD)), .va (.int (r : Int)), .va (.int (k : Int)), a, b, d] = .ok .nx S' ∧
      ∃ (m r' : Nat) (a b d : Sl), m < 1009 ∧ S' = [.va (.int c), .va (.int 67), .ow (.lst ((N ++ [m]).map nD)), .va (.int (r' : Int)), .va (.int (k : Int)), a, b, d] := by
  have szl := szl
  have hz : (N.map nD).length < sizeLine := by rw [List.length_map]; omega
  have hz' : N.length < sizeLine := by omega
  have ab : ∃ x : Nat, (if c < 0 then -c else c) = (x : Int) := ⟨c.natAbs, by omega⟩
  obtain ⟨x, hx⟩ := ab
  by_cases h : (1000000000000000000 : Int) ≤ x ∧ 0 < r
  · refine ⟨[.va (.int c), .va (.int 67), .ow (.lst ((N ++ [r % 1009]).map nD)), .va (.int ((r / 1009 : Nat) : Int)), .va (.int (k : Int)), a, b, d], ?_, r % 1009, r / 1009, a, b, d, Nat.mod_lt _ (by omega), rfl⟩
    have hg : (10 : Int) ^ (Int.toNat 18) = 1000000000000000000 := by decide
    simp [l_law_numbers_1, hx, h.1, h.2, hz', lg_1009]
  · obtain ⟨o, ho⟩ : ∃ o : Int, o = ((x : Int) * 48271 + ((k : Int) + 1) * 69621) % 2147483647 := ⟨_, rfl⟩
    obtain ⟨t, ht⟩ : ∃ t : Int, t = ((x : Int) * 16807 + ((k : Int) + 1) * ((k : Int) + 3) * 40692 + 12345) % 2147483399 := ⟨_, rfl⟩
    have so : smallI o = true := by rw [ho]; exact small_mod (by omega)
    obtain ⟨m, hm⟩ : ∃ m : Int, m = (o * t + o / 7 + t / 11) % 2147483629 := ⟨_, rfl⟩
    have sm : smallI m = true := by rw [hm]; exact small_mod (by omega)
    obtain ⟨n, hn⟩ : ∃ n : Int, n = (m * 48271 + m / 65536 * 7) % 2147483647 := ⟨_, rfl⟩
    have sk : smallI ((k : Int) + 1) = true := small_of (by omega) (by omega)
    have s1 : smallI 48271 = true := by decide
    have s2 : smallI 69621 = true := by decide
    have s3 : smallI 16807 = true := by decide
    have s4 : smallI 40692 = true := by decide
    have s5 : smallI 7 = true := by decide
    have hv := Int.emod_nonneg (n / 16) (b := 1009) (by decide)
    have hv2 := Int.emod_lt_of_pos (n / 16) (b := 1009) (by decide)
    have hvn : ((n / 16 % 1009).toNat : Int) = n / 16 % 1009 := Int.toNat_of_nonneg hv
    refine ⟨[.va (.int c), .va (.int 67), .ow (.lst ((N ++ [(n / 16 % 1009).toNat]).map nD)), .va (.int (r : Int)), .va (.int (k : Int)), .va (.int o), .va (.int t), .va (.int n)], ?_, (n / 16 % 1009).toNat, r, _, _, _, by omega, rfl⟩
    have e : (N ++ [(n / 16 % 1009).toNat]).map nD = N.map nD ++ [.int (n / 16 % 1009)] := by
      rw [List.map_append]
      show _ ++ [nD _] = _
      unfold nD
      rw [hvn]
    rw [e]
    have els : ∀ (S : Sx) (R : MS), MP.tAnd (MP.tCmp geD (eCal absB [(oVar 0)]) (eBin powD (eC (.int 10)) (eC (.int 18)))) (MP.tCmp gtD (oVar 3) (eC (.int 0))) [.va (.int c), .va (.int 67), .ow (.lst (N.map nD)), .va (.int (r : Int)), .va (.int (k : Int)), a, b, d] = .ok false [.va (.int c), .va (.int 67), .ow (.lst (N.map nD)), .va (.int (r : Int)), .va (.int (k : Int)), a, b, d] := by
      intro S R
      by_cases h1 : (1000000000000000000 : Int) ≤ x
      · have h2 : r = 0 := by omega
        simp [hx, h1, h2]
      · simp [hx, h1]
    have els := els [] mNx
    unfold l_law_numbers_1
    rw [ev_if, ev_bind, els]
    simp [hx, sk, s1, s2, s3, s4, s5, lg_7, lg_11, lg_65536, lg_16, lg_1009, ← ho, ← ht, so, ← hm, sm, ← hn, hz']
theorem e_law_numbers {c : Int} : ∃ N : List Nat, N.length = 67 ∧ (∀ n ∈ N, n < 1009) ∧ p_law_numbers [.int c, .int 67] = .ok (.lst (N.map nD)) := by
  have ab : ∃ x : Nat, (if c < 0 then -c else c) = (x : Int) := ⟨c.natAbs, by omega⟩
  obtain ⟨x, hx⟩ := ab
  obtain ⟨S', h1, j, N, r, e, a, b, d, e1, e2, e3, e4, rfl⟩ := for_inv (tg := pTg (.nm 4)) (b := l_law_numbers_1) (fun ds S => ∃ (j : Nat) (N : List Nat) (r : Nat) (e a b d : Sl), ds = (rgD 0 67).drop j ∧ j ≤ 67 ∧ N.length = j ∧ (∀ n ∈ N, n < 1009) ∧
      S = [.va (.int c), .va (.int 67), .ow (.lst (N.map nD)), .va (.int (r : Int)), e, a, b, d]) (fun y ds S ⟨j, N, r, e, a, b, d, e1, e2, e3, e4, hS⟩ => by
    subst hS
    have hj : j < 67 := by
      have := congrArg List.length e1
      rw [List.length_drop, rgD_length] at this
      simp at this
      omega
    have hd : (rgD 0 67).drop j = .int (0 + (j : Nat)) :: (rgD 0 67).drop (j + 1) := by
      rw [List.drop_eq_getElem_cons (by rw [rgD_length]; exact hj)]
      congr 1
      unfold rgD
      rw [List.getElem_map, List.getElem_range]
    rw [hd] at e1
    obtain ⟨rfl, rfl⟩ := List.cons.inj e1
    obtain ⟨S', k1, m, r', a', b', d', k2, rfl⟩ := numbers_step (c := c) (N := N) (r := r) (k := j) (a := a) (b := b) (d := d) hj (by omega)
    refine ⟨[.va (.int c), .va (.int 67), .ow (.lst (N.map nD)), .va (.int (r : Int)), .va (.int (j : Int)), a, b, d], by simp, _, .inl k1, j + 1, N ++ [m], r', _, _, _, _, rfl, hj, ?_, ?_, rfl⟩
    · rw [List.length_append, e3]; rfl
    · intro n hn
      rcases List.mem_append.mp hn with hn | hn
      · exact e4 n hn
      · rw [List.mem_singleton.mp hn]; exact k2)
    (ds := rgD 0 67) (S := [.va (.int c), .va (.int 67), .ow (.lst []), .va (.int (x : Int)), .un, .un, .un, .un]) ⟨0, [], x, _, _, _, _, rfl, by omega, rfl, (fun n hn => by cases hn), rfl⟩
  have ej : j = 67 := by
    have := congrArg List.length e1
    rw [List.length_drop, rgD_length] at this
    simp at this
    omega
  subst ej
  refine ⟨N, e3, e4, ?_⟩
  have e0 : startS 8 [.int c, .int 67] = [.va (.int c), .va (.int 67), .un, .un, .un, .un, .un, .un] := rfl
  have hr : range1D [.int 67] = some (rgD 0 67) := range1_nat (n := 67) (by omega)
  unfold p_law_numbers runF m_law_numbers
  rw [e0]
  generalize rgD 0 67 = R at hr h1
  simp [hx, hr, h1]
/-- the answers' comparison -/
theorem e_same {xs : List (List Nat)} (hl : xs.length ≤ 10000) (hx : ∀ x ∈ xs, x.length ≤ 100 ∧ ∀ c ∈ x, c < 256) : p_law_same [.tup (xs.map D.str), .tup (xs.map D.str)] = .ok (.bl true) := by
  have hf : fit 60 (.tup (xs.map D.str)) = true := by
    have : fits 59 (xs.map D.str) = true := fits_of fun d hd => by
      obtain ⟨x, _, rfl⟩ := List.mem_map.mp hd
      rfl
    simpa [fit] using this
  have hr := reprOk_texts hl hx
  have h1 : isiD "tuple" (.tup (xs.map D.str)) = some (.bl true) := by
    show ((kitB "tuple" "tuple").map D.bl) = _
    have : kitB "tuple" "tuple" = some true := by decide +kernel
    rw [this]; rfl
  have h2 : isiD "list" (.tup (xs.map D.str)) = some (.bl false) := by
    show ((kitB "tuple" "list").map D.bl) = _
    have : kitB "tuple" "list" = some false := by decide +kernel
    rw [this]; rfl
  have h3 : isiD "str" (.tup (xs.map D.str)) = some (.bl false) := by
    show ((kitB "tuple" "str").map D.bl) = _
    have : kitB "tuple" "str" = some false := by decide +kernel
    rw [this]; rfl
  have h4 : isiD "bool" (.tup (xs.map D.str)) = some (.bl false) := by
    show ((kitB "tuple" "bool").map D.bl) = _
    have : kitB "tuple" "bool" = some false := by decide +kernel
    rw [this]; rfl
  have h5 : reprB [.tup (xs.map D.str)] = some (.str (py (.tup (xs.map D.str))).shown.cps.toList) := by
    show (if reprOk (.tup (xs.map D.str)) then some (D.str (py (.tup (xs.map D.str))).shown.cps.toList) else none) = _
    rw [if_pos hr]
  have h6 := eqD_self hf
  generalize D.tup (xs.map D.str) = d at h1 h2 h3 h4 h5 h6
  simp [p_law_same, runF, m_law_same, startS, h1, h2, h3, h4, h5, h6]
/-- a case as the law needs it: the width, the numbers, their prime cubes -/
structure Good (w : Nat) (os : List Nat) (T : List (List Sg)) : Prop where
  w8 : w ≤ 8
  nd : os.Nodup
  lt : ∀ n ∈ os, n < 2 ^ w
  nT : T.Nodup
  mem : ∀ r, r ∈ T ↔ r.length = w ∧ Q70.prime (· ∈ os) r
def tlD (k : Bool) (T : List (List Sg)) : D := if k = true then .tup (T.map tD) else .lst (T.map tD)
theorem tx_small {w : Nat} {T : List (List Sg)} (hw : w ≤ 8) (hT : ∀ r ∈ T, r.length = w) : ∀ x ∈ T.map tx, x.length ≤ 100 ∧ ∀ c ∈ x, c < 256 := by
  intro x hx
  obtain ⟨r, hr, rfl⟩ := List.mem_map.mp hx
  refine ⟨?_, fun c hc => ?_⟩
  · unfold tx
    rw [List.length_map, List.length_reverse, hT r hr]
    omega
  · unfold tx at hc
    obtain ⟨s, _, rfl⟩ := List.mem_map.mp hc
    rcases s with _ | s
    · decide
    · cases s <;> decide
theorem law_of_case {xs : List Int} (hc : ∀ (f : Nat) (N : List Nat), f < 8 → N.length = 67 → (∀ n ∈ N, n < 1009) → ∃ w os T k, Good w os T ∧ p_law_case [.lst (N.map nD), .int f] = .ok (.tup [.int (w : Nat), .lst (os.map nD), tlD k T])) :
    p_law [.lst (xs.map .int)] = .ok (.bl true) := by
  have szl := szl
  have hsp := e_law_spread (xs := xs)
  obtain ⟨ss, hss⟩ : ∃ ss : List Int, ((List.range 63).map fun (k : Nat) => D.int (xs.getD k 0 + (k : Int) * xs.getD 0 0)) = ss.map .int := ⟨(List.range 63).map fun (k : Nat) => xs.getD k 0 + (k : Int) * xs.getD 0 0, by rw [List.map_map]; rfl⟩
  rw [hss] at hsp
  clear hss
  have h0 := e_law_cell (xs := ss) (k := 0)
  have h1 := e_law_cell (xs := ss) (k := 1)
  simp only [Int.natCast_zero, Int.natCast_one] at h0 h1
  generalize ss.getD 0 0 = a0 at h0
  generalize ss.getD 1 0 = a1 at h1
  obtain ⟨N, hN, hN2, hnum⟩ := e_law_numbers (c := a1)
  obtain ⟨f, hf, hf8⟩ : ∃ f : Nat, (if a0 < 0 then -a0 else a0) % 8 = (f : Int) ∧ f < 8 := by
    refine ⟨((if a0 < 0 then -a0 else a0) % 8).toNat, by omega, by omega⟩
  obtain ⟨w, os, T, k, G, hca⟩ := hc f N hf8 hN hN2
  obtain ⟨T1, n1, m1, p1⟩ := e_prime_cubes (w := w) G.w8 G.nd G.lt false
  obtain ⟨T2, n2, m2, p2⟩ := e_prime_cubes (w := w) G.w8 G.nd G.lt true
  have sortEq : ∀ T' : List (List Sg), T'.Nodup → (∀ r, r ∈ T' ↔ r.length = w ∧ Q70.prime (· ∈ os) r) → (T'.map tD).mergeSort leD1 = (T.map tD).mergeSort leD1 := fun T' n' m' => by
    have hp : T'.Perm T := (List.perm_ext_iff_of_nodup n' G.nT).mpr fun r => by rw [m', G.mem]
    have e : ∀ T : List (List Sg), T.map tD = (T.map tx).map D.str := fun T => by rw [List.map_map]; rfl
    rw [e, e]
    exact sort_strs_perm (hp.map tx)
  rw [sortEq T1 n1 m1] at p1
  rw [sortEq T2 n2 m2] at p2
  have h3 : 3 ^ w ≤ 6561 := Nat.le_trans (Nat.pow_le_pow_right (by decide) G.w8) (by decide)
  have hTw : ∀ r ∈ T, r.length = w := fun r hr => ((G.mem r).mp hr).1
  have hTl : T.length ≤ 6561 := Nat.le_trans (Q70.nodup_len G.nT hTw) h3
  have hso := sorted_ok (sortOk_strs (f := tx) (l := T) (by omega))
  have hso2 : sortedB [tlD k T] = some (.lst ((T.map tD).mergeSort leD1)) := by
    have hso' : sortOk (T.map tD) = true := sortOk_strs (f := tx) (l := T) (by omega)
    cases k
    · exact hso
    · have e : sortedB [tlD true T] = if sortOk (T.map tD) then some (.lst ((T.map tD).mergeSort leD1)) else none := rfl
      rw [e, if_pos hso']
  have hsame : p_law_same [.tup ((T.map tD).mergeSort leD1), .tup ((T.map tD).mergeSort leD1)] = .ok (.bl true) := by
    have e : T.map tD = (T.map tx).map D.str := by rw [List.map_map]; rfl
    rw [e, sort_strs]
    have hp := List.mergeSort_perm (T.map tx) (fun x y => decide (x ≤ y))
    refine e_same ?_ fun x hx => tx_small G.w8 hTw x (hp.mem_iff.mp hx)
    rw [hp.length_eq, List.length_map]
    omega
  have hne : neD (.lst (os.map nD)) (.lst (os.map nD)) = some (.bl false) := neD_self (by
    have : fits 59 (os.map nD) = true := fits_of fun d hd => by
      obtain ⟨x, _, rfl⟩ := List.mem_map.mp hd
      rfl
    simpa [fit] using this)
  have p1' : p_prime_cubes [.int w, .lst (os.map nD)] = .ok (.tup ((T.map tD).mergeSort leD1)) := p1
  have p2' : p_prime_cubes [.int w, .tup (os.map nD)] = .ok (.tup ((T.map tD).mergeSort leD1)) := p2
  clear p1 p2 sortEq n1 n2 m1 m2 hso
  generalize (T.map tD).mergeSort leD1 = due at *
  generalize os.map nD = ol at *
  generalize N.map nD = nl at *
  generalize ss.map D.int = sl at *
  generalize xs.map D.int = xl at *
  generalize tlD k T = tl at *
  have e0 : startS 7 [.lst xl] = [.va (.lst xl), .un, .un, .un, .un, .un, .un] := rfl
  unfold p_law runF m_law
  rw [e0]
  simp [hsp, h0, h1, hnum, hf, hca, hso2, p1', hsame, hne, p2']
end MP

/-! P70h: covered, subset; membership in rows. -/
namespace Q70
/-- the numbers of a cube -/
def cov1 (s : Sg) (n : Nat) : List Nat := (if s = some true then [] else [2 * n]) ++ (if s = some false then [] else [2 * n + 1])
def cov : List Sg → List Nat
  | [] => [0]
  | s :: r => (cov r).flatMap (cov1 s)
theorem mem_cov1 {s : Sg} {n m : Nat} : m ∈ cov1 s n ↔ ∃ b : Bool, (s = none ∨ s = some b) ∧ m = (if b = true then 1 else 0) + 2 * n := by
  unfold cov1
  constructor
  · intro h
    rcases s with _ | s
    · simp at h
      rcases h with h | h
      · exact ⟨false, .inl rfl, by simp [h]⟩
      · exact ⟨true, .inl rfl, by simp [h]; omega⟩
    · cases s
      · simp at h
        exact ⟨false, .inr rfl, by simp [h]⟩
      · simp at h
        exact ⟨true, .inr rfl, by simp [h]; omega⟩
  · rintro ⟨b, hb, rfl⟩
    rcases hb with rfl | rfl <;> cases b <;> simp <;> omega
theorem mem_cov : ∀ {r : List Sg} {n : Nat}, n ∈ cov r ↔ ∃ b, mt r b ∧ bv b = n
  | [], n => by
    simp only [cov, List.mem_singleton]
    constructor
    · rintro rfl
      exact ⟨[], trivial, rfl⟩
    · rintro ⟨b, hb, rfl⟩
      cases b with
      | nil => rfl
      | cons _ _ => exact hb.elim
  | s :: r, n => by
    rw [cov, List.mem_flatMap]
    constructor
    · rintro ⟨m, hm, h⟩
      obtain ⟨b, hb, rfl⟩ := mem_cov.mp hm
      obtain ⟨x, hx, rfl⟩ := mem_cov1.mp h
      exact ⟨x :: b, ⟨hx, hb⟩, rfl⟩
    · rintro ⟨b, hb, rfl⟩
      cases b with
      | nil => exact hb.elim
      | cons x b => exact ⟨bv b, mem_cov.mpr ⟨b, hb.2, rfl⟩, mem_cov1.mpr ⟨x, hb.1, rfl⟩⟩
theorem cov1_nodup (s : Sg) (n : Nat) : (cov1 s n).Nodup := by
  unfold cov1
  rcases s with _ | s
  · simp
  · cases s <;> simp
theorem cov_nodup : ∀ r : List Sg, (cov r).Nodup
  | [] => by simp [cov]
  | s :: r => by
    rw [cov, List.Nodup, List.pairwise_flatMap]
    refine ⟨fun n _ => cov1_nodup s n, List.Pairwise.imp ?_ (cov_nodup r)⟩
    intro a b hab x hx y hy e
    subst e
    obtain ⟨c, _, h1⟩ := mem_cov1.mp hx
    obtain ⟨d, _, h2⟩ := mem_cov1.mp hy
    apply hab
    split at h1 <;> split at h2 <;> omega
theorem cov_lt {r : List Sg} {n : Nat} (h : n ∈ cov r) : n < 2 ^ r.length := by
  obtain ⟨b, hb, rfl⟩ := mem_cov.mp h
  rw [← mt_length hb]
  exact bv_lt b
theorem impl_cov {P : Nat → Prop} {r : List Sg} : impl P r ↔ ∀ n ∈ cov r, P n := by
  constructor
  · intro h n hn
    obtain ⟨b, hb, rfl⟩ := mem_cov.mp hn
    exact h b hb
  · intro h b hb
    exact h _ (mem_cov.mpr ⟨b, hb, rfl⟩)
theorem len_fm (s : Sg) : ∀ l : List Nat, (l.flatMap (cov1 s)).length ≤ 2 * l.length
  | [] => Nat.le_refl _
  | a :: l => by
    have ih := len_fm s l
    have : (cov1 s a).length ≤ 2 := by
      unfold cov1
      split <;> split <;> simp
    rw [List.flatMap_cons, List.length_append, List.length_cons]
    omega
theorem fold_fm {α β : Type} (f : α → List β) : ∀ (l : List α) (acc : List β), l.foldl (fun acc n => acc ++ f n) acc = acc ++ l.flatMap f
  | [], acc => by simp
  | x :: l, acc => by rw [List.foldl_cons, fold_fm f l]; simp
theorem len_cov : ∀ r : List Sg, (cov r).length ≤ 2 ^ r.length
  | [] => Nat.le_refl _
  | s :: r => by
    have h := len_cov r
    have := len_fm s (cov r)
    rw [cov, List.length_cons, Nat.pow_succ]
    omega
end Q70
namespace MP
open PySem PySem.Spec PyProof.Rows L2
open Q70 (Sg vl mk WC ins mstep mrow mall pri Lev cov cov1)
theorem fits_nD (os : List Nat) {n : Nat} : fits n (os.map nD) = true := fits_of fun d hd => by
  obtain ⟨x, _, rfl⟩ := List.mem_map.mp hd
  rfl
theorem fits_tD (T : List (List Sg)) {n : Nat} : fits n (T.map tD) = true := fits_of fun d hd => by
  obtain ⟨x, _, rfl⟩ := List.mem_map.mp hd
  rfl
theorem any_nD (n : Nat) : ∀ os : List Nat, ((os.map nD).any fun y => deq y (nD n)) = decide (n ∈ os)
  | [] => rfl
  | m :: os => by
    rw [List.map_cons, List.any_cons, any_nD n os]
    have : deq (nD m) (nD n) = decide (n = m) := by
      simp only [nD, deq]
      congr 1
      apply propext
      constructor <;> intro h <;> omega
    rw [this]
    simp [List.mem_cons]
theorem inD_nat (n : Nat) (os : List Nat) : inD (nD n) (.lst (os.map nD)) = some (.bl (decide (n ∈ os))) := by
  have e : inD (nD n) (.lst (os.map nD)) = if fit 60 (nD n) && fits 60 (os.map nD) then some (.bl ((os.map nD).any fun y => deq y (nD n))) else none := rfl
  rw [e, fits_nD, any_nD]
  rfl
theorem inA_nat (n : Nat) (os : List Nat) : inA (.int (n : Int)) (.lst (os.map nD)) = some (.bl (decide (n ∈ os))) := by
  unfold inA
  rw [show (D.int (n : Int)) = nD n from rfl, inD_nat]
  rfl
theorem notInA_nat (n : Nat) (os : List Nat) : notInA (.int (n : Int)) (.lst (os.map nD)) = some (.bl (!decide (n ∈ os))) := by
  unfold notInA notInD
  rw [show (D.int (n : Int)) = nD n from rfl, inD_nat]
  rfl
theorem tx_inj {r q : List Sg} (h : tx r = tx q) : r = q := by
  have inj : ∀ a b : List Sg, a.map sgn = b.map sgn → a = b := by
    intro a
    induction a with
    | nil => intro b h; cases b with
      | nil => rfl
      | cons _ _ => cases h
    | cons x a ih =>
      intro b h
      cases b with
      | nil => cases h
      | cons y b =>
        rw [List.map_cons, List.map_cons] at h
        obtain ⟨h1, h2⟩ := List.cons.inj h
        have e : x = y := by
          rcases x with _ | x <;> rcases y with _ | y
          · rfl
          · cases y <;> simp [sgn] at h1
          · cases x <;> simp [sgn] at h1
          · cases x <;> cases y <;> simp [sgn] at h1 ⊢
        rw [e, ih b h2]
  have := inj _ _ h
  exact List.reverse_inj.mp this
theorem any_tD (r : List Sg) : ∀ T : List (List Sg), ((T.map tD).any fun y => deq y (tD r)) = decide (r ∈ T)
  | [] => rfl
  | q :: T => by
    rw [List.map_cons, List.any_cons, any_tD r T]
    have : deq (tD q) (tD r) = decide (r = q) := by
      simp only [tD, deq]
      congr 1
      apply propext
      exact ⟨fun h => (tx_inj h).symm, fun h => by rw [h]⟩
    rw [this]
    simp [List.mem_cons]
theorem inA_tx (r : List Sg) (T : List (List Sg)) : inA (.str (tx r)) (.lst (T.map tD)) = some (.bl (decide (r ∈ T))) := by
  have e : inD (.str (tx r)) (.lst (T.map tD)) = if fit 60 (tD r) && fits 60 (T.map tD) then some (.bl ((T.map tD).any fun y => deq y (tD r))) else none := rfl
  unfold inA
  rw [e, fits_tD, any_tD]
  rfl
/-- covered -/
theorem covered_row {s : Sg} {ns : List Nat} {t : D} {o : Sl} (hl : ns.length ≤ 1000) {a b : Sl} (ho : o = .va (.lst (ns.map nD)) ∨ o = .ow (.lst (ns.map nD))) :
    ∃ S', l_law_covered_2 [.va t, o, .va (.str [sgn s]), a, b] = .ok .nx S' ∧ ∃ a b, S' = [.va t, .va (.lst ((ns.flatMap (cov1 s)).map nD)), .va (.str [sgn s]), a, b] := by
  have szl := szl
  obtain ⟨S', h1, b', e⟩ := for_fold (tg := pTg (.nm 4)) (b := l_law_covered_1) (fun acc S => ∃ b, S = [.va t, .va (.lst (ns.map nD)), .va (.str [sgn s]), .ow (.lst (acc.map nD)), b]) nD (fun acc n => acc ++ cov1 s n) [] ns (fun pre n post hp S ⟨b, hS⟩ => by
    subst hS
    have hz := Q70.len_fm s pre
    have hp2 : pre.length ≤ ns.length := by rw [hp]; simp
    rw [Q70.fold_fm, List.nil_append]
    generalize pre.flatMap (cov1 s) = acc at hz ⊢
    have h1 : acc.length < sizeLine := by omega
    have h2 : acc.length + 1 < sizeLine := by omega
    have s2 : smallI 2 = true := by decide
    refine ⟨[.va t, .va (.lst (ns.map nD)), .va (.str [sgn s]), .ow (.lst (acc.map nD)), .va (nD n)], by simp, [.va t, .va (.lst (ns.map nD)), .va (.str [sgn s]), .ow (.lst ((acc ++ cov1 s n).map nD)), .va (nD n)], .inl ?_, _, rfl⟩
    rcases s with _ | s
    · simp [l_law_covered_1, sgn, h1, h2, s2, cov1]
    · cases s <;> simp [l_law_covered_1, sgn, h1, h2, s2, cov1]) (S := [.va t, .va (.lst (ns.map nD)), .va (.str [sgn s]), .ow (.lst []), b]) ⟨b, rfl⟩
  rw [Q70.fold_fm, List.nil_append] at e
  subst e
  refine ⟨[.va t, .va (.lst ((ns.flatMap (cov1 s)).map nD)), .va (.str [sgn s]), .va (.lst ((ns.flatMap (cov1 s)).map nD)), b'], ?_, _, _, rfl⟩
  rcases ho with rfl | rfl <;> simp [l_law_covered_2, h1]
theorem e_covered {r : List Sg} (hr : r.length ≤ 8) : p_law_covered [.str (tx r)] = .ok (.lst ((cov r).map nD)) := by
  have szl := szl
  have hb : 2 ^ r.length ≤ 256 := Nat.le_trans (Nat.pow_le_pow_right (by decide) hr) (by decide)
  have hfr : ∀ l : List Sg, l.foldl (fun acc s => acc.flatMap (cov1 s)) [0] = cov l.reverse := by
    intro l
    have : ∀ l : List Sg, l.foldr (fun s acc => acc.flatMap (cov1 s)) [0] = cov l := by
      intro l
      induction l with
      | nil => rfl
      | cons s l ih => rw [List.foldr_cons, ih, cov]
    rw [← this, List.foldr_reverse]
  obtain ⟨S', h1, o, a, b, c, ho, e⟩ := for_fold (tg := pTg (.nm 2)) (b := l_law_covered_2) (fun ns S => ∃ o a b c, (o = .va (.lst (ns.map nD)) ∨ o = .ow (.lst (ns.map nD))) ∧ S = [.va (.str (tx r)), o, a, b, c]) (fun s => D.str [sgn s]) (fun acc s => acc.flatMap (cov1 s)) [0] r.reverse (fun pre s post hp S ⟨o, a, b, c, ho, hS⟩ => by
    subst hS
    have hle : (pre.foldl (fun acc s => acc.flatMap (cov1 s)) [0]).length ≤ 1000 := by
      rw [hfr]
      have h1 := Q70.len_cov pre.reverse
      have h2 : pre.reverse.length ≤ r.length := by
        have := congrArg List.length hp
        simp at this
        rw [List.length_reverse]
        omega
      have h3 : 2 ^ pre.reverse.length ≤ 2 ^ r.length := Nat.pow_le_pow_right (by decide) h2
      omega
    obtain ⟨S', k1, b', c', rfl⟩ := covered_row (s := s) (t := .str (tx r)) (o := o) (a := b) (b := c) hle ho
    exact ⟨[.va (.str (tx r)), o, .va (.str [sgn s]), b, c], by simp, [.va (.str (tx r)), .va (.lst (((pre.foldl (fun acc s => acc.flatMap (cov1 s)) [0]).flatMap (cov1 s)).map nD)), .va (.str [sgn s]), b', c'], .inl k1, _, _, _, _, .inl rfl, rfl⟩) (S := [.va (.str (tx r)), .ow (.lst [nD 0]), .un, .un, .un]) ⟨_, .un, .un, .un, .inr rfl, rfl⟩
  rw [hfr, List.reverse_reverse] at ho
  subst e
  have e0 : startS 5 [.str (tx r)] = [.va (.str (tx r)), .un, .un, .un, .un] := rfl
  have hit : (tx r).map (fun c => D.str [c]) = r.reverse.map (fun s => D.str [sgn s]) := by
    unfold tx
    rw [List.map_map]
    rfl
  have h1' : forGo (pTg (.nm 2)) l_law_covered_2 ((tx r).map (fun c => D.str [c])) [.va (.str (tx r)), .ow (.lst [.int 0]), .un, .un, .un] = .ok .nx [.va (.str (tx r)), o, a, b, c] := by
    rw [hit]
    exact h1
  unfold p_law_covered runF m_law_covered
  rw [e0]
  rcases ho with rfl | rfl <;> simp [h1']
/-- subset -/
theorem ix_nD {N : List Nat} {k : Nat} (h : k < N.length) : L2.atI (N.map nD) (k : Int) = some (nD (N[k]'h)) := by
  rw [atI_nat, List.getElem?_map, List.getElem?_eq_getElem h]
  rfl
theorem e_subset {N : List Nat} {w : Nat} (hw : w ≤ 6) (hN : 1 + 2 ^ w ≤ N.length) : ∃ os : List Nat, os.Nodup ∧ (∀ n ∈ os, n < 2 ^ w) ∧ p_law_subset [.lst (N.map nD), .int w] = .ok (.lst (os.map nD)) := by
  have szl := szl
  have hp : 2 ^ w ≤ 64 := Nat.le_trans (Nat.pow_le_pow_right (by decide) hw) (by decide)
  have h0 : 0 < N.length := Nat.lt_of_lt_of_le (by rw [Nat.add_comm]; exact Nat.succ_pos _) hN
  have e0 : startS 4 [.lst (N.map nD), .int w] = [.va (.lst (N.map nD)), .va (.int w), .un, .un] := rfl
  have hI0 := ix_nD h0
  have hpw : L2.atI [D.int 1, .int 2, .int 4, .int 8, .int 16, .int 32, .int 64] (w : Int) = some (nD (2 ^ w)) := by
    have : w = 0 ∨ w = 1 ∨ w = 2 ∨ w = 3 ∨ w = 4 ∨ w = 5 ∨ w = 6 := by omega
    rcases this with rfl | rfl | rfl | rfl | rfl | rfl | rfl <;> rfl
  obtain ⟨sh, hsh⟩ : ∃ sh : Int, sh = ((N[0]'h0 : Nat) : Int) % 9 := ⟨_, rfl⟩
  let p : Nat → Bool := fun k => decide (((N.getD (1 + k) 0 : Nat) : Int) % 8 < sh)
  have hrg : range1D [nD (2 ^ w)] = some (rgD 0 (2 ^ w)) := range1_nat (n := 2 ^ w) (Nat.lt_of_le_of_lt hp (by decide))
  refine ⟨(List.range (2 ^ w)).filter p, List.Pairwise.filter _ List.nodup_range, (fun n hn => by simp at hn; exact hn.1), ?_⟩
  have hlc : eLc [3] (iRg1 (eBin ixA (eLst [(eC (.int 1)), (eC (.int 2)), (eC (.int 4)), (eC (.int 8)), (eC (.int 16)), (eC (.int 32)), (eC (.int 64))]) (oVar 1))) (.nm 3) (MP.tCmp ltD (eBin modD (eCal intB [(eBin ixA (oVar 0) (eBin addD (eC (.int 1)) (oVar 3)))]) (eC (.int 8))) (oVar 2)) (eVar 3)
      [.va (.lst (N.map nD)), .va (.int w), .va (.int sh), .un] = .ok (.lst (((List.range (2 ^ w)).filter p).map nD)) [.va (.lst (N.map nD)), .va (.int w), .va (.int sh), .un] := by
    have e : ((List.range (2 ^ w)).filter p).map nD = (rgD 0 (2 ^ w)).filterMap (fun d => match d with | .int i => if p i.toNat = true then some d else none | _ => none) := by
      unfold rgD
      generalize List.range (2 ^ w) = l
      induction l with
      | nil => rfl
      | cons k l ih =>
        rw [List.map_cons, List.filterMap_cons, ← ih, List.filter_cons]
        by_cases q : p k = true <;> simp [q]
    rw [e]
    refine ev_lc (ds := rgD 0 (2 ^ w)) _ ?_ rfl (by rw [rgD_length]; exact Nat.lt_of_le_of_lt hp (by omega)) fun d hd => ?_
    · have hl7 : lstD [D.int 1, .int 2, .int 4, .int 8, .int 16, .int 32, .int 64] = some (.lst [D.int 1, .int 2, .int 4, .int 8, .int 16, .int 32, .int 64]) := rfl
      simp [hl7, hpw, hrg]
    · obtain ⟨i, hi, rfl⟩ := rgD_mem hd
      have hlt : 1 + i < N.length := Nat.lt_of_lt_of_le (Nat.add_lt_add_left hi 1) hN
      have hI := ix_nD (N := N) (k := 1 + i) hlt
      have hg : N.getD (1 + i) 0 = N[1 + i]'hlt := by
        rw [List.getD_eq_getElem?_getD, List.getElem?_eq_getElem hlt]
        rfl
      rw [Int.natCast_add, Int.natCast_one] at hI
      refine ⟨[.va (.lst (N.map nD)), .va (.int w), .va (.int sh), .va (.int (i : Int))], ?_, rfl⟩
      unfold lcTurn
      by_cases q : ((N[1 + i]'hlt : Nat) : Int) % 8 < sh
      · have q2 : p i = true := by simp only [p, hg]; exact decide_eq_true q
        simp [hI, q, q2]
      · have q2 : p i = false := by simp only [p, hg]; exact decide_eq_false q
        simp [hI, q, q2]
  have hI0' : L2.atI (N.map nD) 0 = some (nD (N[0]'h0)) := hI0
  unfold p_law_subset runF m_law_subset
  rw [e0]
  simp [hI0', ← hsh, hlc]
end MP

/-! P70i: implicants and primes, as the law finds them. -/
namespace Q70
def implB (os : List Nat) (r : List Sg) : Bool := (cov r).all fun n => decide (n ∈ os)
theorem implB_iff {os : List Nat} {r : List Sg} : implB os r = true ↔ impl (· ∈ os) r := by
  unfold implB
  rw [impl_cov, List.all_eq_true]
  simp
def foundL (w : Nat) (os : List Nat) : List (List Sg) := (allT w).filter (implB os)
theorem mem_found {w : Nat} {os : List Nat} {r : List Sg} : r ∈ foundL w os ↔ r.length = w ∧ impl (· ∈ os) r := by
  unfold foundL
  rw [List.mem_filter, mem_allT, implB_iff]
def badB (w : Nat) (F : List (List Sg)) (r : List Sg) (k : Nat) : Bool := decide (r[w - 1 - k]? ≠ some none) && decide (r.set (w - 1 - k) none ∈ F)
def primeB (w : Nat) (F : List (List Sg)) (r : List Sg) : Bool := (List.range w).all fun k => !badB w F r k
theorem primeB_iff {w : Nat} {os : List Nat} {r : List Sg} (hr : r.length = w) (hi : impl (· ∈ os) r) : primeB w (foundL w os) r = true ↔ prime (· ∈ os) r := by
  unfold primeB prime badB
  rw [List.all_eq_true]
  constructor
  · intro h
    refine ⟨hi, fun i hl hn hq => ?_⟩
    have := h (w - 1 - i) (List.mem_range.mpr (by omega))
    have e : w - 1 - (w - 1 - i) = i := by omega
    rw [e] at this
    have hm : r.set i none ∈ foundL w os := mem_found.mpr ⟨by simpa using hr, hq⟩
    simp [hn, hm] at this
  · rintro ⟨_, h⟩ k hk
    have hk := List.mem_range.mp hk
    have := h (w - 1 - k) (by omega)
    by_cases hn : r[w - 1 - k]? = some none
    · simp [hn]
    · have hq := this hn
      have hm : r.set (w - 1 - k) none ∉ foundL w os := fun z => hq (mem_found.mp z).2
      simp [hm]
theorem allT_nodup : ∀ w, (allT w).Nodup
  | 0 => by simp [allT]
  | w + 1 => by
    rw [allT, List.Nodup, List.pairwise_flatMap]
    refine ⟨fun r _ => by simp, List.Pairwise.imp ?_ (allT_nodup w)⟩
    intro a b hab x hx y hy e
    subst e
    apply hab
    simp at hx hy
    rcases hx with rfl | rfl | rfl <;> rcases hy with hy | hy | hy <;> simp at hy <;> exact hy
end Q70
namespace MP
open PySem PySem.Spec PyProof.Rows L2
open Q70 (Sg vl mk WC ins mstep mrow mall pri Lev cov cov1 allT implB foundL badB primeB)
theorem tx_cons (s : Sg) (r : List Sg) : tx (s :: r) = tx r ++ [sgn s] := by
  unfold tx
  rw [List.reverse_cons, List.map_append]
  rfl
theorem tx_length (r : List Sg) : (tx r).length = r.length := by
  unfold tx
  rw [List.length_map, List.length_reverse]
theorem tx_get {r : List Sg} {k : Nat} (hk : k < r.length) : (tx r)[k]? = (r[r.length - 1 - k]?).map sgn := by
  unfold tx
  rw [List.getElem?_map, List.getElem?_reverse hk]
theorem tx_set {r : List Sg} {k : Nat} (hk : k < r.length) : (tx r).take k ++ [45] ++ (tx r).drop (k + 1) = tx (r.set (r.length - 1 - k) none) := by
  unfold tx
  rw [List.set_eq_take_append_cons_drop, if_pos (by omega), ← List.map_take, ← List.map_drop, List.take_reverse, List.drop_reverse]
  have e1 : r.length - 1 - k + 1 = r.length - k := by omega
  have e2 : r.length - (k + 1) = r.length - 1 - k := by omega
  rw [e1, e2]
  simp [sgn]
abbrev step3 (r : List Sg) : List (List Sg) := [none :: r, some false :: r, some true :: r]
theorem imp_row {w : Nat} {ov : D} {ts : List (List Sg)} {o k a b : Sl} (hl : ts.length ≤ 10000) (hw : ∀ r ∈ ts, r.length ≤ 8) (ho : o = .va (.lst (ts.map tD)) ∨ o = .ow (.lst (ts.map tD))) :
    ∃ S', l_law_implicants_2 [.va (.int w), .va ov, o, k, a, b, .un, .un, .un] = .ok .nx S' ∧ ∃ a b, S' = [.va (.int w), .va ov, .va (.lst ((ts.flatMap step3).map tD)), k, a, b, .un, .un, .un] := by
  have szl := szl
  obtain ⟨S', h1, b', e⟩ := for_fold (tg := pTg (.nm 5)) (b := l_law_implicants_1) (fun acc S => ∃ b, S = [.va (.int w), .va ov, .va (.lst (ts.map tD)), k, .ow (.lst (acc.map tD)), b, .un, .un, .un]) tD (fun acc r => acc ++ step3 r) [] ts (fun pre r post hp S ⟨b, hS⟩ => by
    subst hS
    have hr := hw r (by rw [hp]; simp)
    have hz : (pre.flatMap step3).length = 3 * pre.length := Q70.flat3 _ _ _ pre
    have hp2 : pre.length ≤ ts.length := by rw [hp]; simp
    rw [Q70.fold_fm, List.nil_append]
    generalize pre.flatMap step3 = acc at hz ⊢
    have h1 : acc.length < sizeLine := by omega
    have h2 : acc.length + 1 < sizeLine := by omega
    have h3 : acc.length + 2 < sizeLine := by omega
    have ht : (tx r).length + 1 ≤ sizeLine := by rw [tx_length]; omega
    have e1 : tx r ++ [45] = tx (none :: r) := (tx_cons none r).symm
    have e2 : tx r ++ [48] = tx (some false :: r) := (tx_cons (some false) r).symm
    have e3 : tx r ++ [49] = tx (some true :: r) := (tx_cons (some true) r).symm
    refine ⟨[.va (.int w), .va ov, .va (.lst (ts.map tD)), k, .ow (.lst (acc.map tD)), .va (tD r), .un, .un, .un], by simp, [.va (.int w), .va ov, .va (.lst (ts.map tD)), k, .ow (.lst ((acc ++ step3 r).map tD)), .va (tD r), .un, .un, .un], .inl ?_, _, rfl⟩
    simp [l_law_implicants_1, ht, e1, e2, e3, h1, h2, h3]) (S := [.va (.int w), .va ov, .va (.lst (ts.map tD)), k, .ow (.lst []), b, .un, .un, .un]) ⟨b, rfl⟩
  rw [Q70.fold_fm, List.nil_append] at e
  subst e
  refine ⟨[.va (.int w), .va ov, .va (.lst ((ts.flatMap step3).map tD)), k, .va (.lst ((ts.flatMap step3).map tD)), b', .un, .un, .un], ?_, _, _, rfl⟩
  rcases ho with rfl | rfl <;> simp [l_law_implicants_2, h1]
end MP

/-! P70j: implicants and primes as the law finds them (the readings). -/
namespace MP
open PySem PySem.Spec PyProof.Rows L2
open Q70 (Sg vl mk WC ins mstep mrow mall pri Lev cov cov1 allT implB foundL badB primeB)
theorem fold_allT : ∀ (l : List Nat) (j : Nat), l.foldl (fun ts (_ : Nat) => ts.flatMap step3) (allT j) = allT (j + l.length)
  | [], j => rfl
  | x :: l, j => by
    rw [List.foldl_cons]
    have := fold_allT l (j + 1)
    rw [show allT (j + 1) = (allT j).flatMap step3 from rfl] at this
    rw [this, List.length_cons]
    congr 1
    omega
theorem imp_all {w : Nat} {ov : D} (hw : w ≤ 8) :
    ∃ S' a b c o, forGo (pTg (.nm 3)) l_law_implicants_2 (rgD 0 w) [.va (.int w), .va ov, .ow (.lst [tD []]), .un, .un, .un, .un, .un, .un] = .ok .nx S' ∧
      (o = .va (.lst ((allT w).map tD)) ∨ o = .ow (.lst ((allT w).map tD))) ∧ S' = [.va (.int w), .va ov, o, a, b, c, .un, .un, .un] := by
  have h3 : 3 ^ w ≤ 6561 := Nat.le_trans (Nat.pow_le_pow_right (by decide) hw) (by decide)
  obtain ⟨S', h1, o, a, b, c, ho, e⟩ := for_fold (tg := pTg (.nm 3)) (b := l_law_implicants_2) (fun ts S => ∃ o a b c, (o = .va (.lst (ts.map tD)) ∨ o = .ow (.lst (ts.map tD))) ∧ S = [.va (.int w), .va ov, o, a, b, c, .un, .un, .un])
    (fun i : Nat => D.int (0 + (i : Int))) (fun ts (_ : Nat) => ts.flatMap step3) (allT 0) (List.range w) (fun pre i post hp S ⟨o, a, b, c, ho, hS⟩ => by
    subst hS
    have hpl : pre.length ≤ w := by
      have := congrArg List.length hp
      simp at this
      omega
    rw [fold_allT, Nat.zero_add] at ho ⊢
    have hle : (allT pre.length).length ≤ 10000 := by
      rw [Q70.len_allT]
      have : 3 ^ pre.length ≤ 3 ^ w := Nat.pow_le_pow_right (by decide) hpl
      omega
    obtain ⟨S', k1, a', b', rfl⟩ := imp_row (w := w) (ov := ov) (ts := allT pre.length) (o := o) (k := .va (.int (i : Int))) (a := b) (b := c) hle (fun r hr => by rw [Q70.mem_allT.mp hr]; omega) ho
    exact ⟨[.va (.int w), .va ov, o, .va (.int (i : Int)), b, c, .un, .un, .un], by simp, [.va (.int w), .va ov, .va (.lst (((allT pre.length).flatMap step3).map tD)), .va (.int (i : Int)), a', b', .un, .un, .un], .inl k1, _, _, _, _, .inl rfl, rfl⟩)
    (S := [.va (.int w), .va ov, .ow (.lst [tD []]), .un, .un, .un, .un, .un, .un]) ⟨_, .un, .un, .un, .inr rfl, rfl⟩
  rw [fold_allT, List.length_range, Nat.zero_add] at ho
  exact ⟨S', a, b, c, o, h1, ho, e⟩
theorem found_row {w : Nat} {os : List Nat} {tv : D} {r : List Sg} {F : List (List Sg)} (hr : r.length ≤ 8) (hF : F.length ≤ 10000) {k b g n : Sl} :
    ∃ S', l_law_implicants_4 [.va (.int w), .va (.lst (os.map nD)), .va tv, k, b, .va (tD r), .ow (.lst (F.map tD)), g, n] = .ok .nx S' ∧
      ∃ g n, S' = [.va (.int w), .va (.lst (os.map nD)), .va tv, k, b, .va (tD r), .ow (.lst ((if implB os r = true then F ++ [r] else F).map tD)), g, n] := by
  have szl := szl
  have hFl : F.length < sizeLine := by omega
  have hc := e_covered hr
  obtain ⟨S', h1, n', e⟩ := for_fold (tg := pTg (.nm 8)) (b := l_law_implicants_3) (fun good S => ∃ n, S = [.va (.int w), .va (.lst (os.map nD)), .va tv, k, b, .va (tD r), .ow (.lst (F.map tD)), .va (.bl good), n]) nD (fun good n => good && decide (n ∈ os)) true (cov r) (fun pre n post hp S ⟨m, hS⟩ => by
    subst hS
    have hn := notInA_nat n os
    generalize pre.foldl (fun good n => good && decide (n ∈ os)) true = good
    refine ⟨[.va (.int w), .va (.lst (os.map nD)), .va tv, k, b, .va (tD r), .ow (.lst (F.map tD)), .va (.bl good), .va (nD n)], by simp, [.va (.int w), .va (.lst (os.map nD)), .va tv, k, b, .va (tD r), .ow (.lst (F.map tD)), .va (.bl (good && decide (n ∈ os))), .va (nD n)], .inl ?_, _, rfl⟩
    by_cases q : n ∈ os
    · simp [l_law_implicants_3, hn, q]
    · simp [l_law_implicants_3, hn, q]) (S := [.va (.int w), .va (.lst (os.map nD)), .va tv, k, b, .va (tD r), .ow (.lst (F.map tD)), .va (.bl true), n]) ⟨n, rfl⟩
  have ea : ∀ (l : List Nat) (g : Bool), l.foldl (fun good n => good && decide (n ∈ os)) g = (g && l.all fun n => decide (n ∈ os)) := by
    intro l
    induction l with
    | nil => intro g; simp
    | cons x l ih => intro g; rw [List.foldl_cons, ih, List.all_cons, Bool.and_assoc]
  rw [ea, Bool.true_and] at e
  have eb : ((cov r).all fun n => decide (n ∈ os)) = implB os r := rfl
  rw [eb] at e
  subst e
  refine ⟨[.va (.int w), .va (.lst (os.map nD)), .va tv, k, b, .va (tD r), .ow (.lst ((if implB os r = true then F ++ [r] else F).map tD)), .va (.bl (implB os r)), n'], ?_, _, _, rfl⟩
  cases q : implB os r
  · rw [q] at h1
    simp [l_law_implicants_4, hc, h1]
  · rw [q] at h1
    simp [l_law_implicants_4, hc, h1, hFl]
theorem fold_filter {α : Type} (p : α → Bool) : ∀ (l F : List α), l.foldl (fun F r => if p r = true then F ++ [r] else F) F = F ++ l.filter p
  | [], F => by simp
  | x :: l, F => by
    rw [List.foldl_cons, fold_filter p l, List.filter_cons]
    by_cases q : p x = true <;> simp [q]
theorem e_implicants {w : Nat} {os : List Nat} (hw : w ≤ 8) : p_law_implicants [.int w, .lst (os.map nD)] = .ok (.lst ((foundL w os).map tD)) := by
  have szl := szl
  have h3 : 3 ^ w ≤ 6561 := Nat.le_trans (Nat.pow_le_pow_right (by decide) hw) (by decide)
  have hal : (allT w).length ≤ 6561 := by rw [Q70.len_allT]; exact h3
  obtain ⟨S1, a, b, c, o, h1, ho, rfl⟩ := imp_all (w := w) (ov := .lst (os.map nD)) hw
  obtain ⟨S2, h2, c2, g2, n2, e⟩ := for_fold (tg := pTg (.nm 5)) (b := l_law_implicants_4) (fun F S => ∃ c g n, S = [.va (.int w), .va (.lst (os.map nD)), .va (.lst ((allT w).map tD)), a, b, c, .ow (.lst (F.map tD)), g, n]) tD (fun F r => if implB os r = true then F ++ [r] else F) [] (allT w) (fun pre r post hp S ⟨c, g, n, hS⟩ => by
    subst hS
    have hr : r.length = w := Q70.mem_allT.mp (by rw [hp]; simp)
    have hpl : pre.length ≤ (allT w).length := by rw [hp]; simp
    rw [fold_filter, List.nil_append]
    have hfl := List.length_filter_le (implB os) pre
    obtain ⟨S', k1, g', n', rfl⟩ := found_row (w := w) (os := os) (tv := .lst ((allT w).map tD)) (r := r) (F := pre.filter (implB os)) (by omega) (by omega) (k := a) (b := b) (g := g) (n := n)
    exact ⟨[.va (.int w), .va (.lst (os.map nD)), .va (.lst ((allT w).map tD)), a, b, .va (tD r), .ow (.lst ((pre.filter (implB os)).map tD)), g, n], by simp, _, .inl k1, _, _, _, rfl⟩)
    (S := [.va (.int w), .va (.lst (os.map nD)), .va (.lst ((allT w).map tD)), a, b, c, .ow (.lst []), .un, .un]) ⟨c, .un, .un, rfl⟩
  rw [fold_filter, List.nil_append] at e
  subst e
  have e0 : startS 9 [.int w, .lst (os.map nD)] = [.va (.int w), .va (.lst (os.map nD)), .un, .un, .un, .un, .un, .un, .un] := rfl
  have hr := range1_nat (n := w) (by omega)
  have et : tD [] = .str [] := rfl
  rw [et] at h1
  have ef : foundL w os = (allT w).filter (implB os) := rfl
  rw [ef]
  generalize (List.filter (implB os) (allT w)).map tD = fl at h2 ⊢
  unfold p_law_implicants runF m_law_implicants
  rw [e0]
  rcases ho with rfl | rfl <;> simp [hr, h1, h2]
/-- primes -/
theorem prime_row1 {w : Nat} {os : List Nat} {F Pm : List (List Sg)} {r : List Sg} (hw : w ≤ 8) (hr : r.length = w) (hP : Pm.length ≤ 10000) {g k : Sl} :
    ∃ S', l_law_primes_2 [.va (.int w), .va (.lst (os.map nD)), .va (.lst (F.map tD)), .ow (.lst (Pm.map tD)), .va (tD r), g, k] = .ok .nx S' ∧
      ∃ g k, S' = [.va (.int w), .va (.lst (os.map nD)), .va (.lst (F.map tD)), .ow (.lst ((if primeB w F r = true then Pm ++ [r] else Pm).map tD)), .va (tD r), g, k] := by
  have szl := szl
  have hPl : Pm.length < sizeLine := by omega
  have hrg := range1_nat (n := w) (by omega)
  obtain ⟨S', h1, n', e⟩ := for_fold (tg := pTg (.nm 6)) (b := l_law_primes_1) (fun good S => ∃ n, S = [.va (.int w), .va (.lst (os.map nD)), .va (.lst (F.map tD)), .ow (.lst (Pm.map tD)), .va (tD r), .va (.bl good), n]) (fun i : Nat => D.int (0 + (i : Int))) (fun good k => good && !badB w F r k) true (List.range w) (fun pre k post hp S ⟨m, hS⟩ => by
    subst hS
    have hk : k < w := List.mem_range.mp (by rw [hp]; simp)
    generalize pre.foldl (fun good k => good && !badB w F r k) true = good
    refine ⟨[.va (.int w), .va (.lst (os.map nD)), .va (.lst (F.map tD)), .ow (.lst (Pm.map tD)), .va (tD r), .va (.bl good), .va (.int (k : Int))], by simp, [.va (.int w), .va (.lst (os.map nD)), .va (.lst (F.map tD)), .ow (.lst (Pm.map tD)), .va (tD r), .va (.bl (good && !badB w F r k)), .va (.int (k : Int))], .inl ?_, _, rfl⟩
    have hl : (tx r).length ≤ sizeLine := by rw [tx_length]; omega
    have hg := tx_get (r := r) (k := k) (by omega)
    rw [hr] at hg
    obtain ⟨s, hs⟩ : ∃ s, r[w - 1 - k]? = some s := ⟨_, List.getElem?_eq_getElem (by omega)⟩
    have hix : ixA (.str (tx r)) (.int (k : Int)) = some (.str [sgn s]) := by
      have e1 : ix0 (.str (tx r)) (.int (k : Int)) = if (tx r).length ≤ sizeLine then (L2.atI (tx r) (k : Int)).map fun c => .str [c] else none := rfl
      have e2 : L2.atI (tx r) (k : Int) = some (sgn s) := by
        unfold L2.atI
        rw [ixNN (by rw [tx_length]; omega)]
        show (tx r)[k]? = _
        rw [hg, hs]
        rfl
      unfold ixA
      rw [e1, if_pos hl, e2]
      rfl
    have hc1 : slD none (some (k : Int)) (.str (tx r)) = some (.str ((tx r).take k)) := by
      have e1 : slD none (some (k : Int)) (.str (tx r)) = if (tx r).length ≤ sizeLine then some (.str (cut (tx r) none (some (k : Int)))) else none := rfl
      rw [e1, if_pos hl]
      unfold cut
      rw [HT.sIx_none, HT.sIx_nat, List.drop_zero, tx_length, Nat.min_eq_left (by omega)]
      rfl
    have hc2 : slD (some ((k : Int) + 1)) none (.str (tx r)) = some (.str ((tx r).drop (k + 1))) := by
      have e1 : slD (some ((k : Int) + 1)) none (.str (tx r)) = if (tx r).length ≤ sizeLine then some (.str (cut (tx r) (some ((k : Int) + 1)) none)) else none := rfl
      rw [e1, if_pos hl]
      unfold cut
      have e2 : (k : Int) + 1 = ((k + 1 : Nat) : Int) := by omega
      rw [HT.sIx_none, e2, HT.sIx_nat, tx_length, Nat.min_eq_left (by omega), List.take_of_length_le (by rw [List.length_drop, tx_length]; exact Nat.le_refl _)]
    have hts := tx_set (r := r) (k := k) (by omega)
    rw [hr] at hts
    have hin := inA_tx (r.set (w - 1 - k) none) F
    rw [← hts] at hin
    have hl1 : ((tx r).take k).length + 1 ≤ sizeLine := by rw [List.length_take, tx_length]; omega
    have hl2 : ((tx r).take k ++ [45]).length + ((tx r).drop (k + 1)).length ≤ sizeLine := by
      rw [List.length_append, List.length_take, List.length_drop, tx_length]
      simp
      omega
    have hl2' : ((tx r).take k).length + 1 + ((tx r).drop (k + 1)).length ≤ sizeLine := by
      rw [List.length_append] at hl2
      exact hl2
    have hix' := hix
    generalize (tx r).take k = ta at *
    generalize (tx r).drop (k + 1) = tb at *
    have hcat : addD (.str (ta ++ [45])) (.str tb) = some (.str (ta ++ [45] ++ tb)) := by
      rw [addD_str, if_pos hl2]
    unfold badB
    rw [hs]
    rcases s with _ | s
    · simp [l_law_primes_1, hix, sgn]
    · have hsg : ¬ sgn (some s) = 45 := by cases s <;> simp [sgn]
      by_cases q : r.set (w - 1 - k) none ∈ F
      · rw [decide_eq_true q] at hin
        simp only [List.append_assoc, List.singleton_append] at hin hcat
        simp [l_law_primes_1, hix, hsg, hc1, hc2, hl1, hcat, hin, q]
      · rw [decide_eq_false q] at hin
        simp only [List.append_assoc, List.singleton_append] at hin hcat
        simp [l_law_primes_1, hix, hsg, hc1, hc2, hl1, hcat, hin, q]) (S := [.va (.int w), .va (.lst (os.map nD)), .va (.lst (F.map tD)), .ow (.lst (Pm.map tD)), .va (tD r), .va (.bl true), k]) ⟨k, rfl⟩
  have ea : ∀ (l : List Nat) (g : Bool), l.foldl (fun good k => good && !badB w F r k) g = (g && l.all fun k => !badB w F r k) := by
    intro l
    induction l with
    | nil => intro g; simp
    | cons x l ih => intro g; rw [List.foldl_cons, ih, List.all_cons, Bool.and_assoc]
  rw [ea, Bool.true_and] at e
  have eb : ((List.range w).all fun k => !badB w F r k) = primeB w F r := rfl
  rw [eb] at e
  subst e
  refine ⟨[.va (.int w), .va (.lst (os.map nD)), .va (.lst (F.map tD)), .ow (.lst ((if primeB w F r = true then Pm ++ [r] else Pm).map tD)), .va (tD r), .va (.bl (primeB w F r)), n'], ?_, _, _, rfl⟩
  have h1 : forGo (pTg (.nm 6)) l_law_primes_1 (rgD 0 w) [.va (.int w), .va (.lst (os.map nD)), .va (.lst (F.map tD)), .ow (.lst (Pm.map tD)), .va (tD r), .va (.bl true), k] = _ := h1
  cases q : primeB w F r
  · rw [q] at h1
    simp [l_law_primes_2, hrg, h1]
  · rw [q] at h1
    simp [l_law_primes_2, hrg, h1, hPl]
theorem e_primes {w : Nat} {os : List Nat} (hw : w ≤ 8) (hn : os.Nodup) (ho : ∀ n ∈ os, n < 2 ^ w) : ∃ T, Good w os T ∧ p_law_primes [.int w, .lst (os.map nD)] = .ok (.tup (T.map tD)) := by
  have szl := szl
  have h3 : 3 ^ w ≤ 6561 := Nat.le_trans (Nat.pow_le_pow_right (by decide) hw) (by decide)
  have hal : (foundL w os).length ≤ 6561 := by
    have h1 := List.length_filter_le (implB os) (allT w)
    rw [Q70.len_allT] at h1
    unfold foundL
    omega
  have hi := e_implicants (w := w) (os := os) hw
  obtain ⟨F, hF⟩ : ∃ F, F = foundL w os := ⟨_, rfl⟩
  obtain ⟨S2, h2, r2, g2, n2, e⟩ := for_fold (tg := pTg (.nm 4)) (b := l_law_primes_2) (fun Pm S => ∃ r g n, S = [.va (.int w), .va (.lst (os.map nD)), .va (.lst (F.map tD)), .ow (.lst (Pm.map tD)), r, g, n]) tD (fun Pm r => if primeB w F r = true then Pm ++ [r] else Pm) [] F (fun pre r post hp S ⟨c, g, n, hS⟩ => by
    subst hS
    have hr : r.length = w := (Q70.mem_found.mp (show r ∈ foundL w os by rw [← hF, hp]; simp)).1
    have hpl : pre.length ≤ F.length := by rw [hp]; simp
    rw [fold_filter, List.nil_append]
    have hfl := List.length_filter_le (primeB w F) pre
    rw [hF] at hpl
    obtain ⟨S', k1, g', n', rfl⟩ := prime_row1 (w := w) (os := os) (F := F) (Pm := pre.filter (primeB w F)) (r := r) hw hr (by omega) (g := g) (k := n)
    exact ⟨[.va (.int w), .va (.lst (os.map nD)), .va (.lst (F.map tD)), .ow (.lst ((pre.filter (primeB w F)).map tD)), .va (tD r), g, n], by simp, _, .inl k1, _, _, _, rfl⟩)
    (S := [.va (.int w), .va (.lst (os.map nD)), .va (.lst (F.map tD)), .ow (.lst []), .un, .un, .un]) ⟨.un, .un, .un, rfl⟩
  rw [fold_filter, List.nil_append] at e
  subst e
  rw [← hF] at hi hal
  have hfl := List.length_filter_le (primeB w F) F
  have hso := sorted_ok (sortOk_strs (f := tx) (l := F.filter (primeB w F)) (by omega))
  have hmap : ((F.filter (primeB w F)).map tD).mergeSort leD1 = ((F.filter (primeB w F)).mergeSort fun r q => leD1 (tD r) (tD q)).map tD := (List.map_mergeSort (r := fun r q => leD1 (tD r) (tD q)) (s := leD1) (f := tD) fun _ _ _ _ => rfl).symm
  have hpm := List.mergeSort_perm (F.filter (primeB w F)) fun r q => leD1 (tD r) (tD q)
  refine ⟨(F.filter (primeB w F)).mergeSort fun r q => leD1 (tD r) (tD q), ⟨hw, hn, ho, ?_, fun r => ?_⟩, ?_⟩
  · rw [hpm.nodup_iff, hF]
    exact List.Pairwise.filter _ (List.Pairwise.filter _ (Q70.allT_nodup w))
  · rw [hpm.mem_iff, List.mem_filter, hF, Q70.mem_found]
    constructor
    · rintro ⟨⟨h1, h2⟩, h4⟩
      exact ⟨h1, (Q70.primeB_iff h1 h2).mp h4⟩
    · rintro ⟨h1, h2⟩
      exact ⟨⟨h1, h2.1⟩, (Q70.primeB_iff h1 h2.1).mpr h2⟩
  · rw [← hmap]
    have e0 : startS 7 [.int w, .lst (os.map nD)] = [.va (.int w), .va (.lst (os.map nD)), .un, .un, .un, .un, .un] := rfl
    have hso' : sortedB [.lst ((F.filter (primeB w F)).map tD)] = some (.lst (((F.filter (primeB w F)).map tD).mergeSort leD1)) := hso
    generalize (F.filter (primeB w F)).map tD = pl at *
    generalize pl.mergeSort leD1 = ql at *
    unfold p_law_primes runF m_law_primes
    rw [e0]
    simp [hi, h2, hso']
end MP

/-! P70k: the forms 0, 1, 2. -/
namespace MP
open PySem PySem.Spec PyProof.Rows L2
open Q70 (Sg vl mk cov cov1 allT)
theorem cut_from {N : List Nat} (k : Nat) : cut N (some (k : Int)) none = N.drop k := by
  unfold cut
  rw [HT.sIx_none, HT.sIx_nat]
  by_cases h : k ≤ N.length
  · rw [Nat.min_eq_left h, List.take_of_length_le (by rw [List.length_drop]; exact Nat.le_refl _)]
  · rw [Nat.min_eq_right (by omega), Nat.sub_self, List.take_zero, List.drop_of_length_le (by omega)]
theorem cut_to {N : List Nat} (k : Nat) : cut N none (some (k : Int)) = N.take k := by
  unfold cut
  rw [HT.sIx_none, HT.sIx_nat, List.drop_zero, Nat.sub_zero]
  by_cases h : k ≤ N.length
  · rw [Nat.min_eq_left h]
  · rw [Nat.min_eq_right (by omega), List.take_of_length_le (by omega), List.take_of_length_le (by omega)]
theorem cut_mid {N : List Nat} (k m : Nat) : cut N (some (k : Int)) (some (m : Int)) = (N.take m).drop k := by
  unfold cut
  rw [HT.sIx_nat, HT.sIx_nat, List.drop_take]
  by_cases h : k ≤ N.length
  · rw [Nat.min_eq_left h]
    by_cases h2 : m ≤ N.length
    · rw [Nat.min_eq_left h2]
    · rw [Nat.min_eq_right (by omega), List.take_of_length_le (by rw [List.length_drop]; exact Nat.le_refl _), List.take_of_length_le (by rw [List.length_drop]; omega)]
  · rw [List.drop_of_length_le (by omega), List.drop_of_length_le (by omega)]
    simp
theorem cu_from (N : List Nat) (k : Nat) : cut (N.map nD) (some (k : Int)) none = (N.drop k).map nD := by rw [cut_map, cut_from]
theorem cu_to (N : List Nat) (k : Nat) : cut (N.map nD) none (some (k : Int)) = (N.take k).map nD := by rw [cut_map, cut_to]
theorem cu_mid (N : List Nat) (k m : Nat) : cut (N.map nD) (some (k : Int)) (some (m : Int)) = ((N.take m).drop k).map nD := by rw [cut_map, cut_mid]
theorem sl_from (N : List Nat) (k : Nat) : slD (some (k : Int)) none (.lst (N.map nD)) = some (.lst ((N.drop k).map nD)) := by
  rw [slD_lst, cut_map, cut_from]
theorem sl_to (N : List Nat) (k : Nat) : slD none (some (k : Int)) (.lst (N.map nD)) = some (.lst ((N.take k).map nD)) := by
  rw [slD_lst, cut_map, cut_to]
theorem sl_mid (N : List Nat) (k m : Nat) : slD (some (k : Int)) (some (m : Int)) (.lst (N.map nD)) = some (.lst (((N.take m).drop k).map nD)) := by
  rw [slD_lst, cut_map, cut_mid]
/-- what each form must give -/
def CaseOk (N : List Nat) (f : Nat) : Prop := ∃ w os T k, Good w os T ∧ p_law_case [.lst (N.map nD), .int f] = .ok (.tup [.int (w : Nat), .lst (os.map nD), tlD k T])
theorem case_012 {N : List Nat} {f : Nat} (hf : f < 3) (hN : N.length = 67) : CaseOk N f := by
  have h0 : 0 < N.length := by omega
  have hI0 : L2.atI (N.map nD) 0 = some (nD (N[0]'h0)) := ix_nD h0
  obtain ⟨n0, hn0⟩ : ∃ n0, n0 = N[0]'h0 := ⟨_, rfl⟩
  rw [← hn0] at hI0
  have hw : n0 % 7 ≤ 6 := by omega
  have hp : 2 ^ (n0 % 7) ≤ 64 := Nat.le_trans (Nat.pow_le_pow_right (by decide) hw) (by decide)
  obtain ⟨os, ho1, ho2, hs⟩ := e_subset (N := N.drop 1) (w := n0 % 7) hw (by rw [List.length_drop, hN]; exact Nat.le_trans (Nat.add_le_add_left hp 1) (by decide))
  obtain ⟨T, G, hT⟩ := e_primes (w := n0 % 7) (os := os) (by omega) ho1 ho2
  refine ⟨n0 % 7, os, T, true, G, ?_⟩
  have e0 : startS 12 [.lst (N.map nD), .int (f : Int)] = [.va (.lst (N.map nD)), .va (.int f), .un, .un, .un, .un, .un, .un, .un, .un, .un, .un] := rfl
  have hsl : cut (N.map nD) (some 1) none = (N.drop 1).map nD := cu_from N 1
  have hf' : (f : Int) < 3 := by omega
  have hmod : ((n0 % 7 : Nat) : Int) = (n0 : Int) % 7 := by simp
  rw [hmod] at hs hT
  have htl : tlD true T = .tup (T.map tD) := rfl
  rw [htl, hmod]
  generalize N.map nD = nl at *
  generalize (N.drop 1).map nD = nl1 at *
  generalize os.map nD = ol at *
  generalize T.map tD = tl at *
  unfold p_law_case runF m_law_case
  rw [e0]
  simp [hI0, hf', hsl, hs, hT]
end MP

/-! P70l: products and unions of two functions, with no program in sight. -/
namespace Q70
theorem mt_app : ∀ {p q : List Sg} {b : List Bool}, mt (p ++ q) b ↔ ∃ x y, b = x ++ y ∧ mt p x ∧ mt q y
  | [], q, b => by
    constructor
    · intro h
      exact ⟨[], b, rfl, trivial, h⟩
    · rintro ⟨x, y, rfl, h1, h2⟩
      cases x with
      | nil => exact h2
      | cons _ _ => exact h1.elim
  | s :: p, q, [] => by
    constructor
    · intro h
      exact h.elim
    · rintro ⟨x, y, e, h1, h2⟩
      cases x with
      | nil => exact h1.elim
      | cons _ _ => cases e
  | s :: p, q, c :: b => by
    show (_ ∧ mt (p ++ q) b) ↔ _
    rw [mt_app]
    constructor
    · rintro ⟨h0, x, y, rfl, h1, h2⟩
      exact ⟨c :: x, y, rfl, ⟨h0, h1⟩, h2⟩
    · rintro ⟨x, y, e, h1, h2⟩
      cases x with
      | nil => exact h1.elim
      | cons d x =>
        obtain ⟨rfl, rfl⟩ := List.cons.inj e
        exact ⟨h1.1, x, y, rfl, h1.2, h2⟩
theorem bv_app : ∀ (x y : List Bool), bv (x ++ y) = bv x + 2 ^ x.length * bv y
  | [], y => by simp [bv]
  | c :: x, y => by
    rw [List.cons_append, bv, bv, bv_app x y, List.length_cons, Nat.pow_succ, Nat.mul_add, ← Nat.mul_assoc, Nat.mul_comm 2 (2 ^ x.length), Nat.add_assoc]
theorem mt_ex : ∀ r : List Sg, ∃ b, mt r b
  | [] => ⟨[], trivial⟩
  | s :: r => by
    obtain ⟨b, hb⟩ := mt_ex r
    rcases s with _ | s
    · exact ⟨true :: b, .inl rfl, hb⟩
    · exact ⟨s :: b, .inr rfl, hb⟩
theorem split_at {r : List Sg} {R L : Nat} (h : r.length = R + L) : ∃ p q, r = p ++ q ∧ p.length = R ∧ q.length = L :=
  ⟨r.take R, r.drop R, (List.take_append_drop R r).symm, by rw [List.length_take]; omega, by rw [List.length_drop]; omega⟩
/-- the primes of a cube in two parts -/
theorem prime_app {P : Nat → Prop} {p q : List Sg} : prime P (p ++ q) ↔ impl P (p ++ q) ∧ (∀ i, i < p.length → p[i]? ≠ some none → ¬ impl P (p.set i none ++ q)) ∧ ∀ i, i < q.length → q[i]? ≠ some none → ¬ impl P (p ++ q.set i none) := by
  unfold prime
  constructor
  · rintro ⟨h, h'⟩
    refine ⟨h, fun i hi hn => ?_, fun i hi hn => ?_⟩
    · have := h' i (by rw [List.length_append]; omega) (by rw [List.getElem?_append_left hi]; exact hn)
      rwa [List.set_append_left _ _ hi] at this
    · have := h' (p.length + i) (by rw [List.length_append]; omega) (by rw [List.getElem?_append_right (by omega)]; rw [Nat.add_sub_cancel_left]; exact hn)
      rwa [List.set_append_right _ _ (by omega), Nat.add_sub_cancel_left] at this
  · rintro ⟨h, h1, h2⟩
    refine ⟨h, fun i hi hn => ?_⟩
    by_cases q' : i < p.length
    · rw [List.getElem?_append_left q'] at hn
      rw [List.set_append_left _ _ q']
      exact h1 i q' hn
    · rw [List.getElem?_append_right (by omega)] at hn
      rw [List.set_append_right _ _ (by omega)]
      refine h2 (i - p.length) ?_ hn
      rw [List.length_append] at hi
      omega
/-- the product -/
theorem impl_prod {A B P : Nat → Prop} {R : Nat} (hP : ∀ x y, x < 2 ^ R → (P (x + 2 ^ R * y) ↔ B x ∧ A y)) {p q : List Sg} (hp : p.length = R) : impl P (p ++ q) ↔ impl B p ∧ impl A q := by
  have key : ∀ x y, mt p x → (P (bv (x ++ y)) ↔ B (bv x) ∧ A (bv y)) := fun x y hx => by
    have hl := mt_length hx
    have hb := bv_lt x
    rw [bv_app, hl, hp]
    rw [hl, hp] at hb
    exact hP _ _ hb
  constructor
  · intro h
    refine ⟨fun x hx => ?_, fun y hy => ?_⟩
    · obtain ⟨y, hy⟩ := mt_ex q
      exact ((key x y hx).mp (h _ (mt_app.mpr ⟨x, y, rfl, hx, hy⟩))).1
    · obtain ⟨x, hx⟩ := mt_ex p
      exact ((key x y hx).mp (h _ (mt_app.mpr ⟨x, y, rfl, hx, hy⟩))).2
  · rintro ⟨h1, h2⟩ b hb
    obtain ⟨x, y, rfl, hx, hy⟩ := mt_app.mp hb
    exact (key x y hx).mpr ⟨h1 x hx, h2 y hy⟩
theorem prime_prod {A B P : Nat → Prop} {R : Nat} (hP : ∀ x y, x < 2 ^ R → (P (x + 2 ^ R * y) ↔ B x ∧ A y)) {p q : List Sg} (hp : p.length = R) : prime P (p ++ q) ↔ prime B p ∧ prime A q := by
  rw [prime_app, impl_prod hP hp]
  have e1 : ∀ i, impl P (p.set i none ++ q) ↔ impl B (p.set i none) ∧ impl A q := fun i => impl_prod hP (by simpa using hp)
  have e2 : ∀ i, impl P (p ++ q.set i none) ↔ impl B p ∧ impl A (q.set i none) := fun i => impl_prod hP hp
  unfold prime
  constructor
  · rintro ⟨⟨h1, h2⟩, h3, h4⟩
    refine ⟨⟨h1, fun i hi hn z => h3 i hi hn ((e1 i).mpr ⟨z, h2⟩)⟩, h2, fun i hi hn z => h4 i hi hn ((e2 i).mpr ⟨h1, z⟩)⟩
  · rintro ⟨⟨h1, h3⟩, h2, h4⟩
    exact ⟨⟨h1, h2⟩, fun i hi hn z => h3 i hi hn ((e1 i).mp z).1, fun i hi hn z => h4 i hi hn ((e2 i).mp z).2⟩
/-- the union -/
theorem impl_or {A B P : Nat → Prop} {R : Nat} (hP : ∀ x y, x < 2 ^ R → (P (x + 2 ^ R * y) ↔ B x ∨ A y)) {p q : List Sg} (hp : p.length = R) : impl P (p ++ q) ↔ impl B p ∨ impl A q := by
  have key : ∀ x y, mt p x → (P (bv (x ++ y)) ↔ B (bv x) ∨ A (bv y)) := fun x y hx => by
    have hl := mt_length hx
    have hb := bv_lt x
    rw [bv_app, hl, hp]
    rw [hl, hp] at hb
    exact hP _ _ hb
  constructor
  · intro h
    by_cases h1 : impl B p
    · exact .inl h1
    · refine .inr fun y hy => ?_
      have : ∃ x, mt p x ∧ ¬ B (bv x) := Classical.byContradiction fun z => h1 fun x hx => Classical.byContradiction fun z' => z ⟨x, hx, z'⟩
      obtain ⟨x, hx, hn⟩ := this
      exact ((key x y hx).mp (h _ (mt_app.mpr ⟨x, y, rfl, hx, hy⟩))).resolve_left hn
  · rintro h b hb
    obtain ⟨x, y, rfl, hx, hy⟩ := mt_app.mp hb
    exact (key x y hx).mpr (h.imp (fun h => h x hx) fun h => h y hy)
abbrev ds (n : Nat) : List Sg := List.replicate n none
theorem mt_ds : ∀ {n : Nat} {b : List Bool}, mt (ds n) b ↔ b.length = n
  | 0, [] => by simp [ds, mt]
  | 0, _ :: _ => by simp [ds, mt]
  | n + 1, [] => by simp [ds, mt, List.replicate_succ]
  | n + 1, c :: b => by
    have := mt_ds (n := n) (b := b)
    simp only [ds, List.replicate_succ, mt, true_or, true_and, List.length_cons] at this ⊢
    rw [this]
    omega
theorem eq_ds {r : List Sg} (h : ∀ i, i < r.length → r[i]? = some none) : r = ds r.length := by
  apply List.ext_getElem?
  intro i
  by_cases q : i < r.length
  · rw [h i q, List.getElem?_replicate, if_pos q]
  · rw [List.getElem?_eq_none (by omega), List.getElem?_replicate, if_neg q]
theorem ds_get {n i : Nat} (h : i < n) : (ds n)[i]? = some none := by rw [List.getElem?_replicate, if_pos h]
theorem prime_ds {P : Nat → Prop} {n : Nat} (h : impl P (ds n)) : prime P (ds n) := ⟨h, fun i hi hn => absurd (ds_get (by simpa using hi)) hn⟩
theorem prime_all {P : Nat → Prop} {r : List Sg} (h : ∀ b : List Bool, b.length = r.length → P (bv b)) : prime P r ↔ r = ds r.length := by
  constructor
  · rintro ⟨_, h2⟩
    refine eq_ds fun i hi => Classical.byContradiction fun z => h2 i hi z fun b hb => h b ?_
    rw [mt_length hb, List.length_set]
  · intro e
    rw [e]
    refine prime_ds fun b hb => h b ?_
    exact mt_ds.mp hb
theorem prime_or {A B P : Nat → Prop} {R L : Nat} (hP : ∀ x y, x < 2 ^ R → (P (x + 2 ^ R * y) ↔ B x ∨ A y)) (nB : ¬ impl B (ds R)) (nA : ¬ impl A (ds L)) {p q : List Sg} (hp : p.length = R) (hq : q.length = L) :
    prime P (p ++ q) ↔ (p = ds R ∧ prime A q) ∨ (q = ds L ∧ prime B p) := by
  rw [prime_app, impl_or hP hp]
  have e1 : ∀ i, impl P (p.set i none ++ q) ↔ impl B (p.set i none) ∨ impl A q := fun i => impl_or hP (by simpa using hp)
  have e2 : ∀ i, impl P (p ++ q.set i none) ↔ impl B p ∨ impl A (q.set i none) := fun i => impl_or hP hp
  constructor
  · rintro ⟨h1 | h1, h3, h4⟩
    · refine .inr ⟨?_, h1, fun i hi hn z => h3 i hi hn ((e1 i).mpr (.inl z))⟩
      rw [← hq]
      exact eq_ds fun i hi => Classical.byContradiction fun z => h4 i hi z ((e2 i).mpr (.inl h1))
    · refine .inl ⟨?_, h1, fun i hi hn z => h4 i hi hn ((e2 i).mpr (.inr z))⟩
      rw [← hp]
      exact eq_ds fun i hi => Classical.byContradiction fun z => h3 i hi z ((e1 i).mpr (.inr h1))
  · rintro (⟨rfl, h1, h2⟩ | ⟨rfl, h1, h2⟩)
    · refine ⟨.inr h1, fun i hi hn => absurd (ds_get (by simpa using hi)) hn, fun i hi hn z => ?_⟩
      rcases (e2 i).mp z with z | z
      · exact nB z
      · exact h2 i hi hn z
    · refine ⟨.inl h1, fun i hi hn z => ?_, fun i hi hn => absurd (ds_get (by simpa using hi)) hn⟩
      rcases (e1 i).mp z with z | z
      · exact h2 i hi hn z
      · exact nA z
end Q70

/-! P70m: form 5. -/
namespace MP
open PySem PySem.Spec PyProof.Rows L2
open Q70 (Sg vl mk cov cov1 allT ds)
theorem dm_eq {m a b a' b' : Nat} (hb : b < m) (hb' : b' < m) (e : a * m + b = a' * m + b') : a = a' ∧ b = b' := by
  have d : ∀ x y, y < m → (x * m + y) / m = x ∧ (x * m + y) % m = y := fun x y hy => by
    rw [Nat.mul_comm]
    refine ⟨?_, ?_⟩
    · rw [Nat.mul_add_div (by omega), Nat.div_eq_of_lt hy]; rfl
    · rw [Nat.mul_add_mod, Nat.mod_eq_of_lt hy]
  have h1 := d a b hb
  have h2 := d a' b' hb'
  rw [e] at h1
  exact ⟨h1.1.symm.trans h2.1, h1.2.symm.trans h2.2⟩
theorem lt_dm {m k a b : Nat} (ha : a < k) (hb : b < m) : a * m + b < k * m := by
  have h : (a + 1) * m ≤ k * m := Nat.mul_le_mul ha (Nat.le_refl _)
  rw [Nat.succ_mul] at h
  omega
theorem app_inj {p q p' q' : List Sg} (h : p.length = p'.length) (e : p ++ q = p' ++ q') : p = p' ∧ q = q' := List.append_inj e h
theorem good_both {l r : Nat} {A B : List Nat} {T1 T2 : List (List Sg)} (h8 : l + r ≤ 8) (GA : Good l A T1) (GB : Good r B T2) :
    Good (l + r) (A.flatMap fun a => B.map fun b => a * 2 ^ r + b) (T1.flatMap fun q => T2.map fun p => p ++ q) := by
  refine ⟨h8, ?_, ?_, ?_, ?_⟩
  · rw [List.Nodup, List.pairwise_flatMap]
    refine ⟨fun a ha => ?_, List.Pairwise.imp ?_ GA.nd⟩
    · rw [List.pairwise_map]
      exact List.Pairwise.imp (fun {x y} h e => h (by omega)) GB.nd
    · intro a a' haa x hx y hy e
      obtain ⟨b, hb, rfl⟩ := List.mem_map.mp hx
      obtain ⟨b', hb', rfl⟩ := List.mem_map.mp hy
      exact haa (dm_eq (GB.lt b hb) (GB.lt b' hb') e).1
  · intro n hn
    obtain ⟨a, ha, h⟩ := List.mem_flatMap.mp hn
    obtain ⟨b, hb, rfl⟩ := List.mem_map.mp h
    rw [Nat.pow_add]
    exact lt_dm (GA.lt a ha) (GB.lt b hb)
  · rw [List.Nodup, List.pairwise_flatMap]
    refine ⟨fun q hq => ?_, List.Pairwise.imp ?_ (List.Pairwise.and_mem.mp GA.nT)⟩
    · rw [List.pairwise_map]
      exact List.Pairwise.imp (fun {x y} h e => h (List.append_cancel_right e)) GB.nT
    · rintro q q' ⟨hq, hq', hqq⟩ x hx y hy e
      obtain ⟨p, hp, rfl⟩ := List.mem_map.mp hx
      obtain ⟨p', hp', rfl⟩ := List.mem_map.mp hy
      have h1 := ((GB.mem p).mp hp).1
      have h2 := ((GB.mem p').mp hp').1
      exact hqq (app_inj (h1.trans h2.symm) e).2
  · intro x
    have hP : ∀ x y, x < 2 ^ r → (x + 2 ^ r * y ∈ (A.flatMap fun a => B.map fun b => a * 2 ^ r + b) ↔ x ∈ B ∧ y ∈ A) := by
      intro x y hx
      rw [List.mem_flatMap]
      constructor
      · rintro ⟨a, ha, h⟩
        obtain ⟨b, hb, e⟩ := List.mem_map.mp h
        have := dm_eq (m := 2 ^ r) (a := a) (b := b) (a' := y) (b' := x) (GB.lt b hb) hx (by rw [e, Nat.mul_comm y]; omega)
        obtain ⟨rfl, rfl⟩ := this
        exact ⟨hb, ha⟩
      · rintro ⟨h1, h2⟩
        exact ⟨y, h2, List.mem_map.mpr ⟨x, h1, by rw [Nat.mul_comm y]; omega⟩⟩
    rw [List.mem_flatMap]
    constructor
    · rintro ⟨q, hq, h⟩
      obtain ⟨p, hp, rfl⟩ := List.mem_map.mp h
      obtain ⟨p1, p2⟩ := (GB.mem p).mp hp
      obtain ⟨q1, q2⟩ := (GA.mem q).mp hq
      exact ⟨by rw [List.length_append]; omega, (Q70.prime_prod (A := (· ∈ A)) (B := (· ∈ B)) hP p1).mpr ⟨p2, q2⟩⟩
    · rintro ⟨hx, hpr⟩
      obtain ⟨p, q, rfl, p1, q1⟩ := Q70.split_at (r := x) (R := r) (L := l) (by omega)
      obtain ⟨p2, q2⟩ := (Q70.prime_prod (A := (· ∈ A)) (B := (· ∈ B)) hP p1).mp hpr
      exact ⟨q, (GA.mem q).mpr ⟨q1, q2⟩, List.mem_map.mpr ⟨p, (GB.mem p).mpr ⟨p1, p2⟩, rfl⟩⟩
theorem tx_app (p q : List Sg) : tx q ++ tx p = tx (p ++ q) := by
  unfold tx
  rw [List.reverse_append, List.map_append]
theorem len_good {w : Nat} {os : List Nat} {T : List (List Sg)} (G : Good w os T) : os.length ≤ 2 ^ w ∧ T.length ≤ 3 ^ w := by
  refine ⟨?_, Q70.nodup_len G.nT fun r hr => ((G.mem r).mp hr).1⟩
  have := G.nd.length_le_of_subset (l₂ := List.range (2 ^ w)) fun n hn => List.mem_range.mpr (G.lt n hn)
  rwa [List.length_range] at this
theorem both_row1 {l r : Nat} {A B acc : List Nat} {nv : D} {a : Nat} {tv s8 : D} {c7 c9 c10 c11 : Sl} (ha : a < 1000) (hr : r ≤ 8) (hB : B.length ≤ 1000) (hacc : acc.length ≤ 100000) :
    l_law_both_1 [.va nv, .va (.int l), .va (.int r), .va tv, .va (.lst (B.map nD)), .va (nD (2 ^ r)), .ow (.lst (acc.map nD)), c7, .va (nD a), .un, c10, c11] =
      .ok .nx [.va nv, .va (.int l), .va (.int r), .va tv, .va (.lst (B.map nD)), .va (nD (2 ^ r)), .ow (.lst ((acc ++ B.map fun b => a * 2 ^ r + b).map nD)), c7, .va (nD a), .un, c10, c11] := by
  have szl := szl
  have hlc : eLc [9] (iSeq (eVar 4)) (.nm 9) tYesM (eBin addD (eBin mulD (oVar 8) (oVar 5)) (oVar 9)) [.va nv, .va (.int l), .va (.int r), .va tv, .va (.lst (B.map nD)), .va (nD (2 ^ r)), .ow (.lst (acc.map nD)), c7, .va (nD a), .un, c10, c11]
      = .ok (.lst ((B.map nD).map fun d => match d with | .int i => .int ((a : Int) * ((2 ^ r : Nat) : Int) + i) | d => d)) [.va nv, .va (.int l), .va (.int r), .va tv, .va (.lst (B.map nD)), .va (nD (2 ^ r)), .ow (.lst (acc.map nD)), c7, .va (nD a), .un, c10, c11] := by
    refine ev_lcm (ds := B.map nD) _ ?_ rfl (by rw [List.length_map]; omega) fun d hd => ?_
    · simp
    · obtain ⟨b, hb, rfl⟩ := List.mem_map.mp hd
      have hs : smallI (a : Int) = true := smallN (by omega)
      obtain ⟨z, hz⟩ : ∃ z : Int, z = ((2 ^ r : Nat) : Int) := ⟨_, rfl⟩
      have hz' : nD (2 ^ r) = .int z := by rw [hz]
      rw [← hz, hz']
      refine ⟨[.va nv, .va (.int l), .va (.int r), .va tv, .va (.lst (B.map nD)), .va (.int z), .ow (.lst (acc.map nD)), c7, .va (nD a), .va (nD b), c10, c11], [.va nv, .va (.int l), .va (.int r), .va tv, .va (.lst (B.map nD)), .va (.int z), .ow (.lst (acc.map nD)), c7, .va (nD a), .va (nD b), c10, c11], by simp, ?_, rfl⟩
      simp [hs]
  have e2 : ((B.map nD).map fun d => match d with | .int i => D.int ((a : Int) * ((2 ^ r : Nat) : Int) + i) | d => d) = (B.map fun b => a * 2 ^ r + b).map nD := by
    rw [List.map_map, List.map_map]
    apply List.map_congr_left
    intro b _
    show D.int _ = nD _
    unfold nD
    rw [Int.natCast_add, Int.natCast_mul]
  rw [e2] at hlc
  have hl : acc.length + B.length ≤ sizeLine := by omega
  rw [List.map_append]
  unfold l_law_both_1
  generalize nD (2 ^ r) = d5 at *
  simp [hlc, hl]
end MP

/-! P70n: form 5, read. -/
namespace MP
open PySem PySem.Spec PyProof.Rows L2
open Q70 (Sg vl mk cov cov1 allT ds)
theorem len_flat {α β : Type} {f : α → List β} {c : Nat} : ∀ {l : List α}, (∀ a ∈ l, (f a).length ≤ c) → (l.flatMap f).length ≤ c * l.length
  | [], _ => Nat.le_refl _
  | x :: l, h => by
    have h1 := h x List.mem_cons_self
    have h2 := len_flat (l := l) fun a ha => h a (List.mem_cons_of_mem _ ha)
    rw [List.flatMap_cons, List.length_append, List.length_cons, Nat.mul_succ]
    omega
theorem both_row2 {r : Nat} {B : List Nat} {T2 acc : List (List Sg)} {nv l tv d5 : D} {q : List Sg} {c6 c8 c9 : Sl} (hr : r ≤ 8) (hp : p_law_primes [.int r, .lst (B.map nD)] = .ok (.tup (T2.map tD))) (hq : q.length ≤ 8) (hT : T2.length ≤ 10000) (hTl : ∀ p ∈ T2, p.length ≤ 8) (hacc : acc.length ≤ 100000) :
    l_law_both_2 [.va nv, .va l, .va (.int r), .va tv, .va (.lst (B.map nD)), .va d5, c6, .ow (.lst (acc.map tD)), c8, c9, .va (tD q), .un] =
      .ok .nx [.va nv, .va l, .va (.int r), .va tv, .va (.lst (B.map nD)), .va d5, c6, .ow (.lst ((acc ++ T2.map fun p => p ++ q).map tD)), c8, c9, .va (tD q), .un] := by
  have szl := szl
  have hlc : eLc [11] (iSeq (eCall p_law_primes [.nm 2, .nm 4])) (.nm 11) tYesM (eBin addD (oVar 10) (oVar 11)) [.va nv, .va l, .va (.int r), .va tv, .va (.lst (B.map nD)), .va d5, c6, .ow (.lst (acc.map tD)), c8, c9, .va (tD q), .un]
      = .ok (.lst ((T2.map tD).map fun d => match d with | .str i => .str (tx q ++ i) | d => d)) [.va nv, .va l, .va (.int r), .va tv, .va (.lst (B.map nD)), .va d5, c6, .ow (.lst (acc.map tD)), c8, c9, .va (tD q), .un] := by
    refine ev_lcm (ds := T2.map tD) _ ?_ rfl (by rw [List.length_map]; omega) fun d hd => ?_
    · simp [hp]
    · obtain ⟨p, hp', rfl⟩ := List.mem_map.mp hd
      have hl : (tx q).length + (tx p).length ≤ sizeLine := by
        have := hTl p hp'
        rw [tx_length, tx_length]
        omega
      refine ⟨[.va nv, .va l, .va (.int r), .va tv, .va (.lst (B.map nD)), .va d5, c6, .ow (.lst (acc.map tD)), c8, c9, .va (tD q), .va (tD p)], [.va nv, .va l, .va (.int r), .va tv, .va (.lst (B.map nD)), .va d5, c6, .ow (.lst (acc.map tD)), c8, c9, .va (tD q), .va (tD p)], by simp, ?_, rfl⟩
      simp [hl]
  have e2 : ((T2.map tD).map fun d => match d with | .str i => D.str (tx q ++ i) | d => d) = (T2.map fun p => p ++ q).map tD := by
    rw [List.map_map, List.map_map]
    apply List.map_congr_left
    intro p _
    show D.str _ = tD _
    unfold tD
    rw [tx_app]
  rw [e2] at hlc
  have hl : acc.length + T2.length ≤ sizeLine := by omega
  rw [List.map_append]
  unfold l_law_both_2
  simp [hlc, hl]
theorem e_both {N : List Nat} {l r : Nat} (hl : l ≤ 4) (hr : r ≤ 4) (hN : 34 ≤ N.length) : ∃ os T, Good (l + r) os T ∧ p_law_both [.lst (N.map nD), .int l, .int r] = .ok (.tup [.lst (os.map nD), .lst (T.map tD)]) := by
  have szl := szl
  have pl : 2 ^ l ≤ 16 := Nat.le_trans (Nat.pow_le_pow_right (by decide) hl) (by decide)
  have pr : 2 ^ r ≤ 16 := Nat.le_trans (Nat.pow_le_pow_right (by decide) hr) (by decide)
  obtain ⟨A, A1, A2, hA⟩ := e_subset (N := N.take 17) (w := l) (by omega) (by rw [List.length_take, Nat.min_eq_left (by omega)]; exact Nat.add_le_add_left pl 1)
  obtain ⟨B, B1, B2, hB⟩ := e_subset (N := (N.take 34).drop 17) (w := r) (by omega) (by rw [List.length_drop, List.length_take, Nat.min_eq_left (by omega)]; exact Nat.add_le_add_left pr 1)
  obtain ⟨T1, G1, h1⟩ := e_primes (w := l) (os := A) (by omega) A1 A2
  obtain ⟨T2, G2, h2⟩ := e_primes (w := r) (os := B) (by omega) B1 B2
  refine ⟨_, _, good_both (by omega) G1 G2, ?_⟩
  have lA := (len_good G1).1
  have lB := (len_good G2).1
  have t3 : 3 ^ l ≤ 81 := Nat.le_trans (Nat.pow_le_pow_right (by decide) hl) (by decide)
  have t4 : 3 ^ r ≤ 81 := Nat.le_trans (Nat.pow_le_pow_right (by decide) hr) (by decide)
  have lT1 := (len_good G1).2
  have lT2 := (len_good G2).2
  have e0 : startS 12 [.lst (N.map nD), .int l, .int r] = [.va (.lst (N.map nD)), .va (.int l), .va (.int r), .un, .un, .un, .un, .un, .un, .un, .un, .un] := rfl
  have c1 : cut (N.map nD) none (some 17) = (N.take 17).map nD := cu_to N 17
  have c2 : cut (N.map nD) (some 17) (some 34) = ((N.take 34).drop 17).map nD := cu_mid N 17 34
  have hpw : L2.atI [D.int 1, .int 2, .int 4, .int 8, .int 16] (r : Int) = some (nD (2 ^ r)) := by
    have : r = 0 ∨ r = 1 ∨ r = 2 ∨ r = 3 ∨ r = 4 := by omega
    rcases this with rfl | rfl | rfl | rfl | rfl <;> rfl
  have hl7 : lstD [D.int 1, .int 2, .int 4, .int 8, .int 16] = some (.lst [D.int 1, .int 2, .int 4, .int 8, .int 16]) := rfl
  obtain ⟨S1, k1, c8, e1⟩ := for_fold (tg := pTg (.nm 8)) (b := l_law_both_1) (fun acc S => ∃ c8, S = [.va (.lst (N.map nD)), .va (.int l), .va (.int r), .va (.lst (A.map nD)), .va (.lst (B.map nD)), .va (nD (2 ^ r)), .ow (.lst (acc.map nD)), .ow (.lst []), c8, .un, .un, .un])
    nD (fun acc a => acc ++ B.map fun b => a * 2 ^ r + b) [] A (fun pre a post hp S ⟨c8, hS⟩ => by
    subst hS
    have ha := A2 a (by rw [hp]; simp)
    have hpl : pre.length ≤ A.length := by rw [hp]; simp
    have hz : (pre.flatMap fun a => B.map fun b => a * 2 ^ r + b).length ≤ 16 * pre.length := len_flat fun a _ => by rw [List.length_map]; omega
    rw [Q70.fold_fm, List.nil_append]
    have := both_row1 (l := l) (r := r) (A := A) (B := B) (acc := pre.flatMap fun a => B.map fun b => a * 2 ^ r + b) (nv := .lst (N.map nD)) (a := a) (tv := .lst (A.map nD)) (s8 := .non) (c7 := .ow (.lst [])) (c9 := .un) (c10 := .un) (c11 := .un) (by omega) (by omega) (by omega) (by omega)
    exact ⟨_, by simp, _, .inl this, _, rfl⟩)
    (S := [.va (.lst (N.map nD)), .va (.int l), .va (.int r), .va (.lst (A.map nD)), .va (.lst (B.map nD)), .va (nD (2 ^ r)), .ow (.lst []), .ow (.lst []), .un, .un, .un, .un]) ⟨.un, rfl⟩
  rw [Q70.fold_fm, List.nil_append] at e1
  subst e1
  obtain ⟨S2, k2, c10, e2⟩ := for_fold (tg := pTg (.nm 10)) (b := l_law_both_2) (fun acc S => ∃ c10, S = [.va (.lst (N.map nD)), .va (.int l), .va (.int r), .va (.lst (A.map nD)), .va (.lst (B.map nD)), .va (nD (2 ^ r)), .ow (.lst ((A.flatMap fun a => B.map fun b => a * 2 ^ r + b).map nD)), .ow (.lst (acc.map tD)), c8, .un, c10, .un])
    tD (fun acc q => acc ++ T2.map fun p => p ++ q) [] T1 (fun pre q post hp S ⟨c10, hS⟩ => by
    subst hS
    have hq := ((G1.mem q).mp (by rw [hp]; simp)).1
    have hpl : pre.length ≤ T1.length := by rw [hp]; simp
    have hz : (pre.flatMap fun q => T2.map fun p => p ++ q).length ≤ 81 * pre.length := len_flat fun a _ => by rw [List.length_map]; omega
    rw [Q70.fold_fm, List.nil_append]
    have := both_row2 (r := r) (B := B) (T2 := T2) (acc := pre.flatMap fun q => T2.map fun p => p ++ q) (nv := .lst (N.map nD)) (l := .int l) (tv := .lst (A.map nD)) (d5 := nD (2 ^ r)) (q := q)
      (c6 := .ow (.lst ((A.flatMap fun a => B.map fun b => a * 2 ^ r + b).map nD))) (c8 := c8) (c9 := .un) (by omega) h2 (by omega) (by omega) (fun p hp => by have := ((G2.mem p).mp hp).1; omega) (by omega)
    exact ⟨_, by simp, _, .inl this, _, rfl⟩)
    (S := [.va (.lst (N.map nD)), .va (.int l), .va (.int r), .va (.lst (A.map nD)), .va (.lst (B.map nD)), .va (nD (2 ^ r)), .ow (.lst ((A.flatMap fun a => B.map fun b => a * 2 ^ r + b).map nD)), .ow (.lst []), c8, .un, .un, .un]) ⟨.un, rfl⟩
  rw [Q70.fold_fm, List.nil_append] at e2
  subst e2
  generalize (A.flatMap fun a => B.map fun b => a * 2 ^ r + b).map nD = ol at *
  generalize (T1.flatMap fun q => T2.map fun p => p ++ q).map tD = tl at *
  generalize nD (2 ^ r) = d5 at *
  generalize (N.take 17).map nD = x1 at c1 hA
  generalize ((N.take 34).drop 17).map nD = x2 at c2 hB
  generalize N.map nD = nl at *
  unfold p_law_both runF m_law_both
  rw [e0]
  simp [c1, hA, c2, hB, hl7, hpw, k1, h1, k2]
theorem case_5 {N : List Nat} (hN : N.length = 67) : CaseOk N 5 := by
  have h0 : 0 < N.length := by omega
  have hI0 : L2.atI (N.map nD) 0 = some (nD (N[0]'h0)) := ix_nD h0
  obtain ⟨n0, hn0⟩ : ∃ n0, n0 = N[0]'h0 := ⟨_, rfl⟩
  rw [← hn0] at hI0
  obtain ⟨w, hw⟩ : ∃ w : Nat, w = 6 + n0 % 3 := ⟨_, rfl⟩
  have hw' : 6 + (n0 : Int) % 3 = (w : Int) := by omega
  obtain ⟨l, hl⟩ : ∃ l : Nat, l = 2 + n0 % 3 := ⟨_, rfl⟩
  have hl' : (w : Int) - 4 = (l : Int) := by omega
  obtain ⟨os, T, G, h⟩ := e_both (N := N.drop 1) (l := l) (r := 4) (by omega) (by omega) (by rw [List.length_drop]; omega)
  have ew : l + 4 = w := by omega
  rw [ew] at G
  refine ⟨w, os, T, false, G, ?_⟩
  have e0 : startS 12 [.lst (N.map nD), .int (5 : Nat)] = [.va (.lst (N.map nD)), .va (.int 5), .un, .un, .un, .un, .un, .un, .un, .un, .un, .un] := rfl
  have hsl : cut (N.map nD) (some 1) none = (N.drop 1).map nD := cu_from N 1
  have htl : tlD false T = .lst (T.map tD) := rfl
  have h' : p_law_both [.lst ((N.drop 1).map nD), .int l, .int 4] = _ := h
  rw [htl]
  clear hn0 h hw hl ew
  generalize N.map nD = nl at *
  generalize (N.drop 1).map nD = nl1 at *
  generalize os.map nD = ol at *
  generalize T.map tD = tl at *
  unfold p_law_case runF m_law_case
  rw [e0]
  simp [hI0, hsl, hw', hl', h']
end MP

/-! P70o: form 6, the plain part. -/
namespace MP
open PySem PySem.Spec PyProof.Rows L2
open Q70 (Sg vl mk cov cov1 allT ds)
def orRow (r : Nat) (A B : List Nat) (a : Nat) : List Nat := ((List.range (2 ^ r)).filter fun b => decide (a ∈ A) || decide (b ∈ B)).map fun b => a * 2 ^ r + b
def orL (l r : Nat) (A B : List Nat) : List Nat := (List.range (2 ^ l)).flatMap (orRow r A B)
theorem mem_orL {l r : Nat} {A B : List Nat} {n : Nat} : n ∈ orL l r A B ↔ ∃ a b, a < 2 ^ l ∧ b < 2 ^ r ∧ (a ∈ A ∨ b ∈ B) ∧ n = a * 2 ^ r + b := by
  unfold orL orRow
  rw [List.mem_flatMap]
  constructor
  · rintro ⟨a, ha, h⟩
    obtain ⟨b, hb, rfl⟩ := List.mem_map.mp h
    rw [List.mem_filter] at hb
    refine ⟨a, b, List.mem_range.mp ha, List.mem_range.mp hb.1, ?_, rfl⟩
    simpa using hb.2
  · rintro ⟨a, b, ha, hb, h, rfl⟩
    refine ⟨a, List.mem_range.mpr ha, List.mem_map.mpr ⟨b, ?_, rfl⟩⟩
    rw [List.mem_filter]
    exact ⟨List.mem_range.mpr hb, by simpa using h⟩
theorem orL_nodup {l r : Nat} {A B : List Nat} : (orL l r A B).Nodup := by
  unfold orL
  rw [List.Nodup, List.pairwise_flatMap]
  refine ⟨fun a _ => ?_, List.Pairwise.imp ?_ List.nodup_range⟩
  · unfold orRow
    rw [List.pairwise_map]
    exact List.Pairwise.imp (fun {x y} h e => h (by omega)) (List.Pairwise.filter _ List.nodup_range)
  · intro a a' haa x hx y hy e
    obtain ⟨b, hb, rfl⟩ := List.mem_map.mp hx
    obtain ⟨b', hb', rfl⟩ := List.mem_map.mp hy
    have h1 := List.mem_range.mp (List.mem_filter.mp hb).1
    have h2 := List.mem_range.mp (List.mem_filter.mp hb').1
    exact haa (dm_eq h1 h2 e).1
theorem orL_lt {l r : Nat} {A B : List Nat} {n : Nat} (h : n ∈ orL l r A B) : n < 2 ^ (l + r) := by
  obtain ⟨a, b, ha, hb, _, rfl⟩ := mem_orL.mp h
  rw [Nat.pow_add]
  exact lt_dm ha hb
theorem impl_ds {w : Nat} {A : List Nat} (h2 : ∀ n ∈ A, n < 2 ^ w) (h1 : A.Nodup) : Q70.impl (· ∈ A) (ds w) ↔ A.length = 2 ^ w := by
  constructor
  · intro h
    have hs : ∀ n, n < 2 ^ w → n ∈ A := fun n hn => by
      have := h (Q70.bitsOf w n) (Q70.mt_ds.mpr (Q70.bitsOf_length w n))
      rwa [Q70.bv_bitsOf w n hn] at this
    have a1 := h1.length_le_of_subset (l₂ := List.range (2 ^ w)) fun n hn => List.mem_range.mpr (h2 n hn)
    have a2 := List.nodup_range.length_le_of_subset (l₁ := List.range (2 ^ w)) (l₂ := A) fun n hn => hs n (List.mem_range.mp hn)
    rw [List.length_range] at a1 a2
    omega
  · intro h b hb
    have hl := Q70.mt_ds.mp hb
    have hlt := Q70.bv_lt b
    rw [hl] at hlt
    refine Classical.byContradiction fun z => ?_
    have := (List.nodup_cons.mpr ⟨z, h1⟩).length_le_of_subset (l₂ := List.range (2 ^ w)) fun n hn => by
      rcases List.mem_cons.mp hn with rfl | hn
      · exact List.mem_range.mpr hlt
      · exact List.mem_range.mpr (h2 n hn)
    rw [List.length_cons, List.length_range] at this
    omega
theorem orL_iff {l r : Nat} {A B : List Nat} {x y : Nat} (hx : x < 2 ^ r) (hy : y < 2 ^ l) : x + 2 ^ r * y ∈ orL l r A B ↔ x ∈ B ∨ y ∈ A := by
  rw [mem_orL]
  constructor
  · rintro ⟨a, b, ha, hb, h, e⟩
    obtain ⟨rfl, rfl⟩ := dm_eq (m := 2 ^ r) (a := a) (b := b) (a' := y) (b' := x) hb hx (by rw [← e, Nat.mul_comm y]; omega)
    exact h.symm
  · intro h
    exact ⟨y, x, hy, hx, h.symm, by rw [Nat.mul_comm y]; omega⟩
theorem good_either_all {l r : Nat} {A B : List Nat} (h8 : l + r ≤ 8) (A1 : A.Nodup) (A2 : ∀ n ∈ A, n < 2 ^ l) (B1 : B.Nodup) (B2 : ∀ n ∈ B, n < 2 ^ r) (h : A.length = 2 ^ l ∨ B.length = 2 ^ r) : Good (l + r) (orL l r A B) [ds (l + r)] := by
  have all : ∀ b : List Bool, b.length = l + r → Q70.bv b ∈ orL l r A B := fun b hb => by
    have e : b = b.take r ++ b.drop r := (List.take_append_drop r b).symm
    have l1 : (b.take r).length = r := by rw [List.length_take]; omega
    have l2 : (b.drop r).length = l := by rw [List.length_drop]; omega
    have x1 := Q70.bv_lt (b.take r)
    have x2 := Q70.bv_lt (b.drop r)
    rw [l1] at x1
    rw [l2] at x2
    rw [e, Q70.bv_app, l1, orL_iff x1 x2]
    rcases h with h | h
    · exact .inr ((impl_ds A2 A1).mpr h _ (Q70.mt_ds.mpr l2))
    · exact .inl ((impl_ds B2 B1).mpr h _ (Q70.mt_ds.mpr l1))
  refine ⟨h8, orL_nodup, fun n hn => orL_lt hn, by simp, fun x => ?_⟩
  rw [List.mem_singleton]
  constructor
  · rintro rfl
    have hl : (ds (l + r)).length = l + r := by simp
    refine ⟨hl, (Q70.prime_all fun b hb => all b (by rw [hb, hl])).mpr (by rw [hl])⟩
  · rintro ⟨h1, h2⟩
    have := (Q70.prime_all fun b hb => all b (by rw [hb, h1])).mp h2
    rwa [h1] at this
theorem good_either {l r : Nat} {A B : List Nat} {T1 T2 : List (List Sg)} (h8 : l + r ≤ 8) (GA : Good l A T1) (GB : Good r B T2) (hA : A.length ≠ 2 ^ l) (hB : B.length ≠ 2 ^ r) :
    Good (l + r) (orL l r A B) (T1.map (fun q => ds r ++ q) ++ T2.map fun p => p ++ ds l) := by
  have nA : ¬ Q70.impl (· ∈ A) (ds l) := fun z => hA ((impl_ds GA.lt GA.nd).mp z)
  have nB : ¬ Q70.impl (· ∈ B) (ds r) := fun z => hB ((impl_ds GB.lt GB.nd).mp z)
  have ld : ∀ n, (ds n).length = n := fun n => by simp
  refine ⟨h8, orL_nodup, fun n hn => orL_lt hn, ?_, fun x => ?_⟩
  · rw [List.nodup_append]
    refine ⟨?_, ?_, ?_⟩
    · rw [List.Nodup, List.pairwise_map]
      exact List.Pairwise.imp (fun {x y} h e => h (List.append_cancel_left e)) GA.nT
    · rw [List.Nodup, List.pairwise_map]
      exact List.Pairwise.imp (fun {x y} h e => h (List.append_cancel_right e)) GB.nT
    · intro x hx y hy e
      obtain ⟨q, hq, rfl⟩ := List.mem_map.mp hx
      obtain ⟨p, hp, rfl⟩ := List.mem_map.mp hy
      obtain ⟨p1, p2⟩ := (GB.mem p).mp hp
      have := (app_inj (by rw [ld, p1]) e).1
      subst this
      exact nB p2.1
  · have hor : ∀ p q : List Sg, p.length = r → q.length = l → (Q70.prime (· ∈ orL l r A B) (p ++ q) ↔ (p = ds r ∧ Q70.prime (· ∈ A) q) ∨ (q = ds l ∧ Q70.prime (· ∈ B) p)) := by
      intro p q hp hq
      have big : ∀ P P' : Nat → Prop, (∀ n, n < 2 ^ (l + r) → (P n ↔ P' n)) → ∀ x : List Sg, x.length = l + r → (Q70.prime P x ↔ Q70.prime P' x) := by
        intro P P' hPP x hx
        have im : ∀ y : List Sg, y.length = l + r → (Q70.impl P y ↔ Q70.impl P' y) := fun y hy => by
          constructor
          · intro h b hb
            refine (hPP _ ?_).mp (h b hb)
            have := Q70.bv_lt b
            rwa [Q70.mt_length hb, hy] at this
          · intro h b hb
            refine (hPP _ ?_).mpr (h b hb)
            have := Q70.bv_lt b
            rwa [Q70.mt_length hb, hy] at this
        unfold Q70.prime
        rw [im x hx]
        refine and_congr Iff.rfl ?_
        constructor
        · intro h i hi hn z
          exact h i hi hn ((im _ (by simpa using hx)).mpr z)
        · intro h i hi hn z
          exact h i hi hn ((im _ (by simpa using hx)).mp z)
      have hP' := Q70.prime_or (A := (· ∈ A)) (B := (· ∈ B)) (P := fun n => n % 2 ^ r ∈ B ∨ n / 2 ^ r ∈ A) (R := r) (L := l) (fun x y hx => by
        have hm : 0 < 2 ^ r := Nat.pow_pos (by decide)
        rw [Nat.add_mul_mod_self_left, Nat.mod_eq_of_lt hx, Nat.add_mul_div_left _ _ hm, Nat.div_eq_of_lt hx, Nat.zero_add]) nB nA hp hq
      refine Iff.trans (big _ _ (fun n hn => ?_) (p ++ q) (by rw [List.length_append]; omega)) hP'
      have hm : 0 < 2 ^ r := Nat.pow_pos (by decide)
      have e : n = n % 2 ^ r + 2 ^ r * (n / 2 ^ r) := (Nat.mod_add_div n (2 ^ r)).symm
      have h1 : n / 2 ^ r < 2 ^ l := by
        rw [Nat.div_lt_iff_lt_mul hm, ← Nat.pow_add]
        exact hn
      conv => lhs; rw [e]
      exact orL_iff (Nat.mod_lt _ hm) h1
    rw [List.mem_append, List.mem_map, List.mem_map]
    constructor
    · rintro (⟨q, hq, rfl⟩ | ⟨p, hp, rfl⟩)
      · obtain ⟨q1, q2⟩ := (GA.mem q).mp hq
        exact ⟨by rw [List.length_append, ld]; omega, (hor _ _ (ld r) q1).mpr (.inl ⟨rfl, q2⟩)⟩
      · obtain ⟨p1, p2⟩ := (GB.mem p).mp hp
        exact ⟨by rw [List.length_append, ld]; omega, (hor _ _ p1 (ld l)).mpr (.inr ⟨rfl, p2⟩)⟩
    · rintro ⟨hx, hpr⟩
      obtain ⟨p, q, rfl, p1, q1⟩ := Q70.split_at (r := x) (R := r) (L := l) (by omega)
      rcases (hor p q p1 q1).mp hpr with ⟨rfl, h⟩ | ⟨rfl, h⟩
      · exact .inl ⟨q, (GA.mem q).mpr ⟨q1, h⟩, rfl⟩
      · exact .inr ⟨p, (GB.mem p).mpr ⟨p1, h⟩, rfl⟩
end MP

/-! P70p: form 6, read. -/
namespace MP
open PySem PySem.Spec PyProof.Rows L2
open Q70 (Sg vl mk cov cov1 allT ds)
theorem rep_flat (n : Nat) : (List.replicate n [45]).flatten = tx (ds n) := by
  unfold tx ds
  rw [List.reverse_replicate, List.map_replicate]
  induction n with
  | zero => rfl
  | succ n ih => rw [List.replicate_succ, List.flatten_cons, ih, List.replicate_succ]; rfl
theorem mul_dash {n : Nat} (h : n ≤ 999) : mulD (.str [45]) (.int (n : Int)) = some (tD (ds n)) := by
  have h1 : Nat.ble (n : Int).natAbs 999 = true := Nat.ble_eq_true_of_le (by omega)
  have h2 : Nat.ble ([45] : List Nat).length 999 = true := by decide
  rw [mulD_str, h1, h2, Int.toNat_natCast, rep_flat]
  rfl
theorem either_row {l r : Nat} {A B acc : List Nat} {nv : D} {a : Nat} {d6 : D} {c10 c11 : Sl} (ha : a < 1000) (hr : r ≤ 8) (hacc : acc.length ≤ 100000) :
    l_law_either_1 [.va nv, .va (.int l), .va (.int r), .va (.lst (A.map nD)), .va (.lst (B.map nD)), .va (nD (2 ^ r)), .va d6, .ow (.lst (acc.map nD)), .va (nD a), .un, c10, c11] =
      .ok .nx [.va nv, .va (.int l), .va (.int r), .va (.lst (A.map nD)), .va (.lst (B.map nD)), .va (nD (2 ^ r)), .va d6, .ow (.lst ((acc ++ orRow r A B a).map nD)), .va (nD a), .un, c10, c11] := by
  have szl := szl
  have pr : 2 ^ r ≤ 256 := Nat.le_trans (Nat.pow_le_pow_right (by decide) hr) (by decide)
  have hrg : range1D [nD (2 ^ r)] = some (rgD 0 (2 ^ r)) := range1_nat (n := 2 ^ r) (Nat.lt_of_le_of_lt pr (by decide))
  have hlen : (orRow r A B a).length ≤ 256 := by
    unfold orRow
    rw [List.length_map]
    refine Nat.le_trans (List.length_filter_le _ _) ?_
    rw [List.length_range]
    exact pr
  have hlc : eLc [9] (iRg1 (oVar 5)) (.nm 9) (MP.tOr (MP.tCmp inA (oVar 8) (oVar 3)) (MP.tCmp inA (oVar 9) (oVar 4))) (eBin addD (eBin mulD (oVar 8) (oVar 5)) (oVar 9))
      [.va nv, .va (.int l), .va (.int r), .va (.lst (A.map nD)), .va (.lst (B.map nD)), .va (nD (2 ^ r)), .va d6, .ow (.lst (acc.map nD)), .va (nD a), .un, c10, c11]
      = .ok (.lst ((orRow r A B a).map nD)) [.va nv, .va (.int l), .va (.int r), .va (.lst (A.map nD)), .va (.lst (B.map nD)), .va (nD (2 ^ r)), .va d6, .ow (.lst (acc.map nD)), .va (nD a), .un, c10, c11] := by
    have e : (orRow r A B a).map nD = (rgD 0 (2 ^ r)).filterMap (fun d => match d with | .int i => if (decide (a ∈ A) || decide (i.toNat ∈ B)) = true then some (.int ((a : Int) * ((2 ^ r : Nat) : Int) + i)) else none | _ => none) := by
      unfold rgD orRow
      rw [List.map_map]
      generalize List.range (2 ^ r) = l
      induction l with
      | nil => rfl
      | cons k l ih =>
        rw [List.map_cons, List.filterMap_cons, ← ih, List.filter_cons]
        by_cases q : (decide (a ∈ A) || decide (k ∈ B)) = true
        · have q' : (decide (a ∈ A) || decide ((0 + (k : Int)).toNat ∈ B)) = true := by
            rw [Int.zero_add, Int.toNat_natCast]; exact q
          simp only [q, if_true, q']
          rw [List.map_cons]
          congr 1
          show nD _ = _
          unfold nD
          rw [Int.natCast_add, Int.natCast_mul, Int.zero_add]
        · have q' : ¬ (decide (a ∈ A) || decide ((0 + (k : Int)).toNat ∈ B)) = true := by
            rw [Int.zero_add, Int.toNat_natCast]; exact q
          rw [if_neg q]
          simp only [q', if_false]
          rfl
    rw [e]
    refine ev_lc (ds := rgD 0 (2 ^ r)) _ ?_ rfl (by rw [rgD_length]; exact Nat.lt_of_le_of_lt pr (by omega)) fun d hd => ?_
    · generalize nD (2 ^ r) = d5 at hrg ⊢
      simp [hrg]
    · obtain ⟨i, hi, rfl⟩ := rgD_mem hd
      have hs : smallI (a : Int) = true := smallN (by omega)
      have i1 := inA_nat a A
      have i2 := inA_nat i B
      obtain ⟨z, hz⟩ : ∃ z : Int, z = ((2 ^ r : Nat) : Int) := ⟨_, rfl⟩
      have hz' : nD (2 ^ r) = .int z := by rw [hz]
      rw [← hz, hz']
      refine ⟨[.va nv, .va (.int l), .va (.int r), .va (.lst (A.map nD)), .va (.lst (B.map nD)), .va (.int z), .va d6, .ow (.lst (acc.map nD)), .va (nD a), .va (nD i), c10, c11], ?_, rfl⟩
      unfold lcTurn
      generalize A.map nD = al at i1 ⊢
      generalize B.map nD = bl at i2 ⊢
      by_cases q1 : a ∈ A
      · simp [i1, i2, hs, q1]
      · by_cases q2 : i ∈ B
        · simp [i1, i2, hs, q1, q2]
        · simp [i1, i2, hs, q1, q2]
  have hl : acc.length + (orRow r A B a).length ≤ sizeLine := by omega
  rw [List.map_append]
  unfold l_law_either_1
  generalize nD (2 ^ r) = d5 at *
  simp [hlc, hl]
theorem e_either {N : List Nat} {l r : Nat} (hl : l ≤ 4) (hr : r ≤ 4) (hN : 34 ≤ N.length) : ∃ os T, Good (l + r) os T ∧ p_law_either [.lst (N.map nD), .int l, .int r] = .ok (.tup [.lst (os.map nD), .lst (T.map tD)]) := by
  have szl := szl
  have pl : 2 ^ l ≤ 16 := Nat.le_trans (Nat.pow_le_pow_right (by decide) hl) (by decide)
  have pr : 2 ^ r ≤ 16 := Nat.le_trans (Nat.pow_le_pow_right (by decide) hr) (by decide)
  obtain ⟨A, A1, A2, hA⟩ := e_subset (N := N.take 17) (w := l) (by omega) (by rw [List.length_take, Nat.min_eq_left (by omega)]; exact Nat.add_le_add_left pl 1)
  obtain ⟨B, B1, B2, hB⟩ := e_subset (N := (N.take 34).drop 17) (w := r) (by omega) (by rw [List.length_drop, List.length_take, Nat.min_eq_left (by omega)]; exact Nat.add_le_add_left pr 1)
  obtain ⟨T1, G1, h1⟩ := e_primes (w := l) (os := A) (by omega) A1 A2
  obtain ⟨T2, G2, h2⟩ := e_primes (w := r) (os := B) (by omega) B1 B2
  have lA := (len_good G1).1
  have lB := (len_good G2).1
  have t3 : 3 ^ l ≤ 81 := Nat.le_trans (Nat.pow_le_pow_right (by decide) hl) (by decide)
  have t4 : 3 ^ r ≤ 81 := Nat.le_trans (Nat.pow_le_pow_right (by decide) hr) (by decide)
  have lT1 := (len_good G1).2
  have lT2 := (len_good G2).2
  have e0 : startS 12 [.lst (N.map nD), .int l, .int r] = [.va (.lst (N.map nD)), .va (.int l), .va (.int r), .un, .un, .un, .un, .un, .un, .un, .un, .un] := rfl
  have c1 : cut (N.map nD) none (some 17) = (N.take 17).map nD := cu_to N 17
  have c2 : cut (N.map nD) (some 17) (some 34) = ((N.take 34).drop 17).map nD := cu_mid N 17 34
  have hpw : ∀ k : Nat, k ≤ 4 → L2.atI [D.int 1, .int 2, .int 4, .int 8, .int 16] (k : Int) = some (nD (2 ^ k)) := fun k hk => by
    have : k = 0 ∨ k = 1 ∨ k = 2 ∨ k = 3 ∨ k = 4 := by omega
    rcases this with rfl | rfl | rfl | rfl | rfl <;> rfl
  have hpr := hpw r hr
  have hpl := hpw l hl
  have hl7 : lstD [D.int 1, .int 2, .int 4, .int 8, .int 16] = some (.lst [D.int 1, .int 2, .int 4, .int 8, .int 16]) := rfl
  have hrg : range1D [nD (2 ^ l)] = some (rgD 0 (2 ^ l)) := range1_nat (n := 2 ^ l) (Nat.lt_of_le_of_lt pl (by decide))
  obtain ⟨S1, k1, c8, e1⟩ := for_fold (tg := pTg (.nm 8)) (b := l_law_either_1) (fun acc S => ∃ c8, S = [.va (.lst (N.map nD)), .va (.int l), .va (.int r), .va (.lst (A.map nD)), .va (.lst (B.map nD)), .va (nD (2 ^ r)), .va (nD (2 ^ l)), .ow (.lst (acc.map nD)), c8, .un, .un, .un])
    (fun i : Nat => D.int (0 + (i : Int))) (fun acc a => acc ++ orRow r A B a) [] (List.range (2 ^ l)) (fun pre a post hp S ⟨c8, hS⟩ => by
    subst hS
    have ha : a < 2 ^ l := List.mem_range.mp (by rw [hp]; simp)
    have hpl : pre.length ≤ 2 ^ l := by
      have := congrArg List.length hp
      simp only [List.length_range, List.length_append] at this
      omega
    have hz : (pre.flatMap (orRow r A B)).length ≤ 16 * pre.length := len_flat fun a _ => by
      unfold orRow
      rw [List.length_map]
      refine Nat.le_trans (List.length_filter_le _ _) ?_
      rw [List.length_range]
      exact pr
    rw [Q70.fold_fm, List.nil_append]
    have := either_row (l := l) (r := r) (A := A) (B := B) (acc := pre.flatMap (orRow r A B)) (nv := .lst (N.map nD)) (a := a) (d6 := nD (2 ^ l)) (c10 := .un) (c11 := .un) (by omega) (by omega) (by omega)
    exact ⟨_, by simp, _, .inl this, _, rfl⟩)
    (S := [.va (.lst (N.map nD)), .va (.int l), .va (.int r), .va (.lst (A.map nD)), .va (.lst (B.map nD)), .va (nD (2 ^ r)), .va (nD (2 ^ l)), .ow (.lst []), .un, .un, .un, .un]) ⟨.un, rfl⟩
  rw [Q70.fold_fm, List.nil_append] at e1
  subst e1
  have k1 : forGo (pTg (.nm 8)) l_law_either_1 (rgD 0 (2 ^ l)) [.va (.lst (N.map nD)), .va (.int l), .va (.int r), .va (.lst (A.map nD)), .va (.lst (B.map nD)), .va (nD (2 ^ r)), .va (nD (2 ^ l)), .ow (.lst []), .un, .un, .un, .un] =
    .ok .nx [.va (.lst (N.map nD)), .va (.int l), .va (.int r), .va (.lst (A.map nD)), .va (.lst (B.map nD)), .va (nD (2 ^ r)), .va (nD (2 ^ l)), .ow (.lst ((orL l r A B).map nD)), c8, .un, .un, .un] := k1
  have q1 : eqD (nD A.length) (nD (2 ^ l)) = some (.bl (decide (A.length = 2 ^ l))) := by
    rw [eqD_int]
    congr 2
    apply decide_eq_decide.mpr
    exact Int.ofNat_inj
  have q2 : eqD (nD B.length) (nD (2 ^ r)) = some (.bl (decide (B.length = 2 ^ r))) := by
    rw [eqD_int]
    congr 2
    apply decide_eq_decide.mpr
    exact Int.ofNat_inj
  by_cases hall : A.length = 2 ^ l ∨ B.length = 2 ^ r
  · refine ⟨_, _, good_either_all (by omega) A1 A2 B1 B2 hall, ?_⟩
    have hm := mul_dash (n := l + r) (by omega)
    rw [Int.natCast_add] at hm
    have hq : (decide (A.length = 2 ^ l) = true ∨ decide (B.length = 2 ^ r) = true) := by simpa using hall
    generalize (orL l r A B).map nD = ol at *
    generalize decide (A.length = 2 ^ l) = b1 at *
    generalize decide (B.length = 2 ^ r) = b2 at *
    generalize nD (2 ^ r) = d5 at *
    generalize nD (2 ^ l) = d6 at *
    generalize (N.take 17).map nD = x1 at c1 hA
    generalize ((N.take 34).drop 17).map nD = x2 at c2 hB
    generalize N.map nD = nl at *
    unfold p_law_either runF m_law_either
    rw [e0]
    rcases hq with rfl | rfl
    · simp [c1, hA, c2, hB, hl7, hpr, hpl, hrg, k1, q1, q2, hm]
    · cases b1 <;> simp [c1, hA, c2, hB, hl7, hpr, hpl, hrg, k1, q1, q2, hm]
  · have hnA : A.length ≠ 2 ^ l := fun z => hall (.inl z)
    have hnB : B.length ≠ 2 ^ r := fun z => hall (.inr z)
    refine ⟨_, _, good_either (by omega) G1 G2 hnA hnB, ?_⟩
    rw [decide_eq_false hnA] at q1
    rw [decide_eq_false hnB] at q2
    have m1 : mulD (.str [45]) (.int (r : Int)) = some (.str (tx (ds r))) := mul_dash (n := r) (by omega)
    have m2 : mulD (.str [45]) (.int (l : Int)) = some (.str (tx (ds l))) := mul_dash (n := l) (by omega)
    have lc1 : ∀ c8, eLc [11] (iSeq (eCall p_law_primes [.nm 1, .nm 3])) (.nm 11) tYesM (eBin addD (oVar 11) (eBin mulD (eS "-") (oVar 2))) [.va (.lst (N.map nD)), .va (.int l), .va (.int r), .va (.lst (A.map nD)), .va (.lst (B.map nD)), .va (nD (2 ^ r)), .va (nD (2 ^ l)), .ow (.lst ((orL l r A B).map nD)), c8, .un, .un, .un]
        = .ok (.lst ((T1.map fun q => ds r ++ q).map tD)) [.va (.lst (N.map nD)), .va (.int l), .va (.int r), .va (.lst (A.map nD)), .va (.lst (B.map nD)), .va (nD (2 ^ r)), .va (nD (2 ^ l)), .ow (.lst ((orL l r A B).map nD)), c8, .un, .un, .un] := by
      intro c8
      have e : (T1.map fun q => ds r ++ q).map tD = (T1.map tD).map fun d => match d with | .str x => .str (x ++ tx (ds r)) | d => d := by
        rw [List.map_map, List.map_map]
        apply List.map_congr_left
        intro q _
        show tD _ = D.str _
        unfold tD
        rw [tx_app]
      rw [e]
      refine ev_lcm (ds := T1.map tD) _ ?_ rfl (by rw [List.length_map]; omega) fun d hd => ?_
      · simp [h1]
      · obtain ⟨q, hq, rfl⟩ := List.mem_map.mp hd
        have hlq := ((G1.mem q).mp hq).1
        have hl : (tx q).length + (tx (ds r)).length ≤ sizeLine := by
          rw [tx_length, tx_length, hlq]
          simp
          omega
        refine ⟨[.va (.lst (N.map nD)), .va (.int l), .va (.int r), .va (.lst (A.map nD)), .va (.lst (B.map nD)), .va (nD (2 ^ r)), .va (nD (2 ^ l)), .ow (.lst ((orL l r A B).map nD)), c8, .un, .un, .va (tD q)], [.va (.lst (N.map nD)), .va (.int l), .va (.int r), .va (.lst (A.map nD)), .va (.lst (B.map nD)), .va (nD (2 ^ r)), .va (nD (2 ^ l)), .ow (.lst ((orL l r A B).map nD)), c8, .un, .un, .va (tD q)], by simp, ?_, rfl⟩
        generalize tx (ds r) = dr at *
        simp only [ev_bin, ev_bind, ev_o, List.getElem?_cons_succ, List.getElem?_cons_zero, ev_s, st_m, m1, ev_mo, addD_str]
        simp [hl, tD]
    have lc2 : ∀ c8 o10, eLc [11] (iSeq (eCall p_law_primes [.nm 2, .nm 4])) (.nm 11) tYesM (eBin addD (eBin mulD (eS "-") (oVar 1)) (oVar 11)) [.va (.lst (N.map nD)), .va (.int l), .va (.int r), .va (.lst (A.map nD)), .va (.lst (B.map nD)), .va (nD (2 ^ r)), .va (nD (2 ^ l)), .va (.lst ((orL l r A B).map nD)), c8, .un, o10, .un]
        = .ok (.lst ((T2.map fun p => p ++ ds l).map tD)) [.va (.lst (N.map nD)), .va (.int l), .va (.int r), .va (.lst (A.map nD)), .va (.lst (B.map nD)), .va (nD (2 ^ r)), .va (nD (2 ^ l)), .va (.lst ((orL l r A B).map nD)), c8, .un, o10, .un] := by
      intro c8 o10
      have e : (T2.map fun p => p ++ ds l).map tD = (T2.map tD).map fun d => match d with | .str x => .str (tx (ds l) ++ x) | d => d := by
        rw [List.map_map, List.map_map]
        apply List.map_congr_left
        intro q _
        show tD _ = D.str _
        unfold tD
        rw [tx_app]
      rw [e]
      refine ev_lcm (ds := T2.map tD) _ ?_ rfl (by rw [List.length_map]; omega) fun d hd => ?_
      · simp [h2]
      · obtain ⟨q, hq, rfl⟩ := List.mem_map.mp hd
        have hlq := ((G2.mem q).mp hq).1
        have hl : (tx (ds l)).length + (tx q).length ≤ sizeLine := by
          rw [tx_length, tx_length, hlq]
          simp
          omega
        refine ⟨[.va (.lst (N.map nD)), .va (.int l), .va (.int r), .va (.lst (A.map nD)), .va (.lst (B.map nD)), .va (nD (2 ^ r)), .va (nD (2 ^ l)), .va (.lst ((orL l r A B).map nD)), c8, .un, o10, .va (tD q)], [.va (.lst (N.map nD)), .va (.int l), .va (.int r), .va (.lst (A.map nD)), .va (.lst (B.map nD)), .va (nD (2 ^ r)), .va (nD (2 ^ l)), .va (.lst ((orL l r A B).map nD)), c8, .un, o10, .va (tD q)], by simp, ?_, rfl⟩
        generalize tx (ds l) = dl at *
        simp only [ev_bin, ev_bind, ev_o, List.getElem?_cons_succ, List.getElem?_cons_zero, ev_s, st_m, m2, ev_mo, addD_str]
        simp [hl, tD]
    have lc1 := lc1 c8
    have lc2 := lc2 c8
    have hsz : ((T1.map fun q => ds r ++ q).map tD).length + ((T2.map fun p => p ++ ds l).map tD).length ≤ sizeLine := by
      rw [List.length_map, List.length_map, List.length_map, List.length_map]
      omega
    rw [List.map_append]
    generalize (T1.map fun q => ds r ++ q).map tD = t1 at *
    generalize (T2.map fun p => p ++ ds l).map tD = t2 at *
    generalize (orL l r A B).map nD = ol at *
    generalize nD (2 ^ r) = d5 at *
    generalize nD (2 ^ l) = d6 at *
    generalize (N.take 17).map nD = x1 at c1 hA
    generalize ((N.take 34).drop 17).map nD = x2 at c2 hB
    generalize N.map nD = nl at *
    unfold p_law_either runF m_law_either
    rw [e0]
    simp [c1, hA, c2, hB, hl7, hpr, hpl, hrg, k1, q1, q2, lc1, lc2, hsz]
theorem case_6 {N : List Nat} (hN : N.length = 67) : CaseOk N 6 := by
  have h0 : 0 < N.length := by omega
  have hI0 : L2.atI (N.map nD) 0 = some (nD (N[0]'h0)) := ix_nD h0
  obtain ⟨n0, hn0⟩ : ∃ n0, n0 = N[0]'h0 := ⟨_, rfl⟩
  rw [← hn0] at hI0
  obtain ⟨w, hw⟩ : ∃ w : Nat, w = 6 + n0 % 3 := ⟨_, rfl⟩
  have hw' : 6 + (n0 : Int) % 3 = (w : Int) := by omega
  obtain ⟨r, hr⟩ : ∃ l : Nat, l = 2 + n0 % 3 := ⟨_, rfl⟩
  have hr' : (w : Int) - 4 = (r : Int) := by omega
  obtain ⟨os, T, G, h⟩ := e_either (N := N.drop 1) (l := 4) (r := r) (by omega) (by omega) (by rw [List.length_drop]; omega)
  have ew : 4 + r = w := by omega
  rw [ew] at G
  refine ⟨w, os, T, false, G, ?_⟩
  have e0 : startS 12 [.lst (N.map nD), .int (6 : Nat)] = [.va (.lst (N.map nD)), .va (.int 6), .un, .un, .un, .un, .un, .un, .un, .un, .un, .un] := rfl
  have hsl : cut (N.map nD) (some 1) none = (N.drop 1).map nD := cu_from N 1
  have htl : tlD false T = .lst (T.map tD) := rfl
  have h' : p_law_either [.lst ((N.drop 1).map nD), .int 4, .int r] = _ := h
  rw [htl]
  clear hn0 h hw hr ew
  generalize N.map nD = nl at *
  generalize (N.drop 1).map nD = nl1 at *
  generalize os.map nD = ol at *
  generalize T.map tD = tl at *
  unfold p_law_case runF m_law_case
  rw [e0]
  simp [hI0, hsl, hw', hr', h']
end MP

/-! P70q: the complement of a cube, parity, weights, with no program in sight. -/
namespace Q70
theorem mt_get : ∀ {r : List Sg} {b : List Bool} {i : Nat} {x : Bool}, mt r b → r[i]? = some (some x) → b[i]? = some x
  | [], _, i, x, _, h => by simp at h
  | _ :: _, [], _, _, h, _ => h.elim
  | s :: r, c :: b, 0, x, h, e => by
    simp at e
    subst e
    rcases h.1 with h | h
    · cases h
    · simpa using h.symm
  | s :: r, c :: b, i + 1, x, h, e => by
    simp at e ⊢
    exact mt_get h.2 e
theorem mt_of : ∀ {r : List Sg} {b : List Bool}, b.length = r.length → (∀ (i : Nat) (x : Bool), r[i]? = some (some x) → b[i]? = some x) → mt r b
  | [], [], _, _ => trivial
  | [], _ :: _, h, _ => by simp at h
  | _ :: _, [], h, _ => by simp at h
  | s :: r, c :: b, h, g => by
    refine ⟨?_, mt_of (by simpa using h) fun i x e => by simpa using g (i + 1) x (by simpa using e)⟩
    rcases s with _ | s
    · exact .inl rfl
    · have := g 0 s rfl
      simp at this
      exact .inr (by rw [this])
/-- two cubes with no opposite signs meet -/
theorem meet : ∀ {r c : List Sg}, r.length = c.length → (∀ (i : Nat) (x : Bool), r[i]? = some (some x) → c[i]? ≠ some (some (!x))) → ∃ b, mt r b ∧ mt c b
  | [], [], _, _ => ⟨[], trivial, trivial⟩
  | [], _ :: _, h, _ => by simp at h
  | _ :: _, [], h, _ => by simp at h
  | s :: r, t :: c, h, g => by
    obtain ⟨b, h1, h2⟩ := meet (r := r) (c := c) (by simpa using h) fun i x e => by simpa using g (i + 1) x (by simpa using e)
    rcases s with _ | s <;> rcases t with _ | t
    · exact ⟨true :: b, ⟨.inl rfl, h1⟩, .inl rfl, h2⟩
    · exact ⟨t :: b, ⟨.inl rfl, h1⟩, .inr rfl, h2⟩
    · exact ⟨s :: b, ⟨.inr rfl, h1⟩, .inl rfl, h2⟩
    · have := g 0 s rfl
      have e : s = t := by
        cases s <;> cases t <;> simp at this ⊢
      exact ⟨s :: b, ⟨.inr rfl, h1⟩, .inr (by rw [e]), h2⟩
def conf (r c : List Sg) : Prop := ∃ (i : Nat) (x : Bool), r[i]? = some (some x) ∧ c[i]? = some (some (!x))
theorem conf_iff {r c : List Sg} (h : r.length = c.length) : (∀ b, mt r b → ¬ mt c b) ↔ conf r c := by
  constructor
  · intro g
    refine Classical.byContradiction fun z => ?_
    obtain ⟨b, h1, h2⟩ := meet h fun i x e e' => z ⟨i, x, e, e'⟩
    exact g b h1 h2
  · rintro ⟨i, x, e, e'⟩ b h1 h2
    have a1 := mt_get h1 e
    have a2 := mt_get h2 e'
    rw [a1] at a2
    cases x <;> cases a2
theorem cov_iff {c : List Sg} {b : List Bool} (h : b.length = c.length) : bv b ∈ cov c ↔ mt c b := by
  rw [mem_cov]
  constructor
  · rintro ⟨b', h1, h2⟩
    rw [← bv_inj (by rw [mt_length h1, h]) h2]
    exact h1
  · intro h1
    exact ⟨b, h1, rfl⟩
/-- the sign i alone, the text's sign k -/
def lone (i : Nat) (x : Bool) (k : Nat) : List Sg := ds i ++ some x :: ds k
theorem lone_len (i : Nat) (x : Bool) (k : Nat) : (lone i x k).length = i + 1 + k := by
  unfold lone
  simp
  omega
theorem lone_get (i : Nat) (x : Bool) (k j : Nat) : (lone i x k)[j]? = if j = i then some (some x) else if j < i + 1 + k then some none else none := by
  unfold lone
  by_cases h : j < i
  · rw [List.getElem?_append_left (by simpa using h), ds_get h, if_neg (by omega), if_pos (by omega)]
  · rw [List.getElem?_append_right (by simp; omega)]
    have e : j - (ds i).length = j - i := by simp
    rw [e]
    by_cases q : j = i
    · subst q
      simp
    · rw [if_neg q]
      obtain ⟨m, hm⟩ : ∃ m, j - i = m + 1 := ⟨j - i - 1, by omega⟩
      rw [hm, List.getElem?_cons_succ, List.getElem?_replicate]
      by_cases q2 : m < k
      · rw [if_pos q2, if_pos (by omega)]
      · rw [if_neg q2, if_neg (by omega)]
def oppRow (w : Nat) (c : List Sg) (k : Nat) : List (List Sg) := match c[w - 1 - k]? with
  | some (some b) => [lone (w - 1 - k) (!b) k]
  | _ => []
def oppL (w : Nat) (c : List Sg) : List (List Sg) := (List.range w).flatMap (oppRow w c)
theorem mem_oppL {w : Nat} {c r : List Sg} : r ∈ oppL w c ↔ ∃ (i : Nat) (b : Bool), i < w ∧ c[i]? = some (some b) ∧ r = lone i (!b) (w - 1 - i) := by
  unfold oppL oppRow
  rw [List.mem_flatMap]
  constructor
  · rintro ⟨k, hk, h⟩
    have hk := List.mem_range.mp hk
    split at h
    · rename_i b hb
      refine ⟨w - 1 - k, b, by omega, hb, ?_⟩
      have e : w - 1 - (w - 1 - k) = k := by omega
      rw [e]
      simpa using h
    · cases h
  · rintro ⟨i, b, hi, hb, rfl⟩
    refine ⟨w - 1 - i, List.mem_range.mpr (by omega), ?_⟩
    have e : w - 1 - (w - 1 - i) = i := by omega
    rw [e, hb]
    simp
theorem oppL_nodup {w : Nat} {c : List Sg} : (oppL w c).Nodup := by
  unfold oppL
  rw [List.Nodup, List.pairwise_flatMap]
  refine ⟨fun k _ => ?_, List.Pairwise.imp ?_ (List.Pairwise.and_mem.mp (List.nodup_range (n := w)))⟩
  · unfold oppRow
    split <;> simp
  · rintro k k' ⟨hk, hk', hne⟩ x hx y hy e
    have hk := List.mem_range.mp hk
    have hk' := List.mem_range.mp hk'
    subst e
    unfold oppRow at hx hy
    split at hx
    · rename_i b hb
      split at hy
      · rename_i b' hb'
        simp at hx hy
        rw [hx] at hy
        have := congrArg (fun l => l[w - 1 - k]?) hy
        rw [lone_get, lone_get, if_pos rfl, if_neg (by omega)] at this
        split at this <;> cases this
      · cases hy
    · cases hx
theorem prime_opp {w : Nat} {c : List Sg} (hc : c.length = w) {P : Nat → Prop} (hP : ∀ n, n < 2 ^ w → (P n ↔ n ∉ cov c)) {r : List Sg} (hr : r.length = w) : prime P r ↔ r ∈ oppL w c := by
  have im : ∀ r : List Sg, r.length = w → (impl P r ↔ conf r c) := fun r hr => by
    rw [← conf_iff (hr.trans hc.symm)]
    constructor
    · intro h b hb hb'
      have h1 := h b hb
      have hl : b.length = w := by rw [mt_length hb, hr]
      have hlt := bv_lt b
      rw [hl] at hlt
      exact (hP _ hlt).mp h1 ((cov_iff (by rw [hl, hc])).mpr hb')
    · intro h b hb
      have hl : b.length = w := by rw [mt_length hb, hr]
      have hlt := bv_lt b
      rw [hl] at hlt
      exact (hP _ hlt).mpr fun z => h b hb ((cov_iff (by rw [hl, hc])).mp z)
  unfold prime
  rw [im r hr, mem_oppL]
  constructor
  · rintro ⟨⟨i, x, h1, h2⟩, h3⟩
    have hi : i < w := by
      have := (List.getElem?_eq_some_iff.mp h1).1
      omega
    refine ⟨i, !x, hi, h2, ?_⟩
    rw [Bool.not_not]
    apply List.ext_getElem?
    intro j
    rw [lone_get]
    by_cases q : j = i
    · rw [if_pos q, q, h1]
    · rw [if_neg q]
      by_cases hj : j < w
      · rw [if_pos (by omega)]
        refine Classical.byContradiction fun z => h3 j (by omega) z ?_
        rw [im _ (by simpa using hr)]
        exact ⟨i, x, by rw [List.getElem?_set_ne q]; exact h1, h2⟩
      · rw [if_neg (by omega), List.getElem?_eq_none (by omega)]
  · rintro ⟨i, b, hi, hb, rfl⟩
    refine ⟨⟨i, !b, by rw [lone_get, if_pos rfl], by rw [Bool.not_not]; exact hb⟩, fun j hj hn z => ?_⟩
    have hji : j = i := by
      refine Classical.byContradiction fun q => hn ?_
      rw [lone_get, if_neg q, if_pos (by rw [lone_len] at hj; exact hj)]
    subst hji
    rw [im _ (by rw [List.length_set]; exact hr)] at z
    obtain ⟨k, x, h1, _⟩ := z
    by_cases q : k = j
    · subst q
      rw [List.getElem?_set_self (by rw [lone_len]; omega)] at h1
      cases h1
    · rw [List.getElem?_set_ne (Ne.symm q), lone_get, if_neg q] at h1
      split at h1 <;> cases h1
/-! weights -/
def wts : Nat → List Nat
  | 0 => [0]
  | k + 1 => wts k ++ (wts k).map (· + 1)
theorem wts_len : ∀ k, (wts k).length = 2 ^ k
  | 0 => rfl
  | k + 1 => by
    rw [wts, List.length_append, List.length_map, wts_len k, Nat.pow_succ]
    omega
abbrev cnt (b : List Bool) : Nat := b.count true
theorem wts_get : ∀ (k : Nat) (b : List Bool), b.length = k → (wts k)[bv b]? = some (cnt b)
  | 0, b, h => by
    have : b = [] := List.eq_nil_of_length_eq_zero h
    subst this
    rfl
  | k + 1, b, h => by
    obtain ⟨c, x, rfl⟩ : ∃ c x, b = c ++ [x] := by
      have hne : b ≠ [] := by
        intro z
        rw [z] at h
        cases h
      exact ⟨b.dropLast, b.getLast hne, (List.dropLast_concat_getLast hne).symm⟩
    have hc : c.length = k := by simpa using h
    have ih := wts_get k c hc
    have hlt := bv_lt c
    rw [hc] at hlt
    rw [wts, bv_app, hc]
    cases x with
    | false =>
      have e : bv [false] = 0 := rfl
      rw [e, Nat.mul_zero, Nat.add_zero, List.getElem?_append_left (by rw [wts_len]; exact hlt), ih]
      unfold cnt
      rw [List.count_append]
      rfl
    | true =>
      have e : bv [true] = 1 := rfl
      rw [e, Nat.mul_one, List.getElem?_append_right (by rw [wts_len]; omega), wts_len, Nat.add_sub_cancel, List.getElem?_map, ih]
      unfold cnt
      rw [List.count_append]
      rfl
/-! parity -/
theorem cnt_set : ∀ {b : List Bool} {i : Nat}, i < b.length → cnt (b.set i true) = cnt (b.set i false) + 1
  | [], i, h => by simp at h
  | x :: b, 0, h => by simp [cnt]
  | x :: b, i + 1, h => by
    have := cnt_set (b := b) (i := i) (by simpa using h)
    simp only [cnt, List.set_cons_succ, List.count_cons] at this ⊢
    omega
theorem mt_flip {r : List Sg} {b : List Bool} {i : Nat} (h : mt r b) (hi : r[i]? = some none) (y : Bool) : mt r (b.set i y) := by
  refine mt_of (by rw [List.length_set]; exact mt_length h) fun j x e => ?_
  have hj : i ≠ j := by
    intro z
    rw [z, e] at hi
    cases hi
  rw [List.getElem?_set_ne hj]
  exact mt_get h e
theorem prime_par {w m : Nat} {P : Nat → Prop} (hP : ∀ b : List Bool, b.length = w → (P (bv b) ↔ (cnt b + m) % 2 = 0)) {r : List Sg} (hr : r.length = w) : prime P r ↔ ∃ b : List Bool, b.length = w ∧ P (bv b) ∧ r = ofBits b := by
  have no : ∀ (r : List Sg) (i : Nat), r.length = w → r[i]? = some none → ¬ impl P r := by
    intro r i hr hi h
    obtain ⟨b, hb⟩ := mt_ex r
    have hl : b.length = w := by rw [mt_length hb, hr]
    have hil : i < b.length := by
      have := (List.getElem?_eq_some_iff.mp hi).1
      omega
    have h1 := (hP _ (by rw [List.length_set]; exact hl)).mp (h _ (mt_flip hb hi true))
    have h2 := (hP _ (by rw [List.length_set]; exact hl)).mp (h _ (mt_flip hb hi false))
    rw [cnt_set hil] at h1
    omega
  constructor
  · rintro ⟨h1, h2⟩
    have h0 : dashes r = 0 := by
      refine Classical.byContradiction fun z => ?_
      obtain ⟨i, hi, hn⟩ := dashes_pos (r := r) (by omega)
      exact no r i hr hn h1
    obtain ⟨b, rfl, hb⟩ := dashes_zero h0
    exact ⟨b, by omega, h1 b (mt_ofBits.mpr rfl), rfl⟩
  · rintro ⟨b, hb, hp, rfl⟩
    refine ⟨fun b' hb' => by rw [mt_ofBits.mp hb']; exact hp, fun i hi _ => no _ i (by rw [List.length_set]; exact hr) (set_get hi)⟩
end Q70

/-! P70r: weights and opposite, read. -/
namespace MP
open PySem PySem.Spec PyProof.Rows L2
open Q70 (Sg vl mk cov cov1 allT ds wts oppRow oppL lone)
theorem weights_row {w : D} {L : List Nat} {k : Sl} (hL : L.length ≤ 1000) : l_law_weights_1 [.va w, .ow (.lst (L.map nD)), k, .un] = .ok .nx [.va w, .ow (.lst ((L ++ L.map (· + 1)).map nD)), k, .un] := by
  have szl := szl
  have hlc : eLc [3] (iSeq (eVar 1)) (.nm 3) tYesM (eBin addD (oVar 3) (eC (.int 1))) [.va w, .ow (.lst (L.map nD)), k, .un] = .ok (.lst ((L.map nD).map fun d => match d with | .int i => .int (i + 1) | d => d)) [.va w, .va (.lst (L.map nD)), k, .un] := by
    refine ev_lcm (ds := L.map nD) _ ?_ rfl (by rw [List.length_map]; omega) fun d hd => ?_
    · simp
    · obtain ⟨b, hb, rfl⟩ := List.mem_map.mp hd
      exact ⟨[.va w, .va (.lst (L.map nD)), k, .va (nD b)], [.va w, .va (.lst (L.map nD)), k, .va (nD b)], by simp, by simp, rfl⟩
  have e2 : ((L.map nD).map fun d => match d with | .int i => D.int (i + 1) | d => d) = (L.map (· + 1)).map nD := by
    rw [List.map_map, List.map_map]
    apply List.map_congr_left
    intro b _
    show D.int _ = nD _
    unfold nD
    rw [Int.natCast_add, Int.natCast_one]
  rw [e2] at hlc
  have hl : (L.map nD).length + ((L.map (· + 1)).map nD).length ≤ sizeLine := by
    rw [List.length_map, List.length_map, List.length_map]
    omega
  rw [List.map_append]
  unfold l_law_weights_1
  generalize (L.map (· + 1)).map nD = x2 at *
  generalize L.map nD = x1 at *
  simp [hlc, hl]
theorem e_weights {w : Nat} (hw : w ≤ 8) : p_law_weights [.int w] = .ok (.lst ((wts w).map nD)) := by
  have hfw : ∀ (l : List Nat) (j : Nat), l.foldl (fun L (_ : Nat) => L ++ L.map (· + 1)) (wts j) = wts (j + l.length) := by
    intro l
    induction l with
    | nil => intro j; rfl
    | cons x l ih =>
      intro j
      rw [List.foldl_cons]
      have := ih (j + 1)
      rw [show wts (j + 1) = wts j ++ (wts j).map (· + 1) from rfl] at this
      rw [this, List.length_cons]
      congr 1
      omega
  obtain ⟨S', h1, k, e⟩ := for_fold (tg := pTg (.nm 2)) (b := l_law_weights_1) (fun L S => ∃ k, S = [.va (.int w), .ow (.lst (L.map nD)), k, .un]) (fun i : Nat => D.int (0 + (i : Int))) (fun L (_ : Nat) => L ++ L.map (· + 1)) (wts 0) (List.range w) (fun pre i post hp S ⟨k, hS⟩ => by
    subst hS
    rw [hfw, Nat.zero_add]
    have hpl : pre.length ≤ w := by
      have := congrArg List.length hp
      simp only [List.length_range, List.length_append] at this
      omega
    have hle : (wts pre.length).length ≤ 1000 := by
      rw [Q70.wts_len]
      exact Nat.le_trans (Nat.pow_le_pow_right (by decide) (Nat.le_trans hpl hw)) (by decide)
    exact ⟨[.va (.int w), .ow (.lst ((wts pre.length).map nD)), .va (.int (i : Int)), .un], by simp, _, .inl (weights_row hle), _, rfl⟩) (S := [.va (.int w), .ow (.lst [nD 0]), .un, .un]) ⟨.un, rfl⟩
  rw [hfw, List.length_range, Nat.zero_add] at e
  subst e
  have hr := range1_nat (n := w) (by omega)
  have h1 : forGo (pTg (.nm 2)) l_law_weights_1 (rgD 0 w) [.va (.int w), .ow (.lst [.int 0]), .un, .un] = .ok .nx [.va (.int w), .ow (.lst ((wts w).map nD)), k, .un] := h1
  have e0 : startS 4 [.int w] = [.va (.int w), .un, .un, .un] := rfl
  unfold p_law_weights runF m_law_weights
  rw [e0]
  simp [hr, h1]
theorem tx_lone (i : Nat) (x : Bool) (k : Nat) : tx (ds k) ++ [sgn (some x)] ++ tx (ds i) = tx (lone i x k) := by
  unfold lone
  rw [← tx_app, tx_cons]
theorem opp_row {c : List Sg} {F : List (List Sg)} {k : Nat} {j : Sl} (hc : c.length ≤ 8) (hk : k < c.length) (hF : F.length ≤ 1000) :
    ∃ S', l_law_opposite_1 [.va (tD c), .va (.int c.length), .ow (.lst (F.map tD)), .va (.int k)] = .ok .nx S' ∧ S' = [.va (tD c), .va (.int c.length), .ow (.lst ((F ++ oppRow c.length c k).map tD)), .va (.int k)] := by
  have szl := szl
  have hFl : F.length < sizeLine := by omega
  have hl : (tx c).length ≤ sizeLine := by rw [tx_length]; omega
  have hg := tx_get (r := c) (k := k) hk
  obtain ⟨s, hs⟩ : ∃ s, c[c.length - 1 - k]? = some s := ⟨_, List.getElem?_eq_getElem (by omega)⟩
  have hix : ixA (.str (tx c)) (.int (k : Int)) = some (.str [sgn s]) := by
    have e1 : ix0 (.str (tx c)) (.int (k : Int)) = if (tx c).length ≤ sizeLine then (L2.atI (tx c) (k : Int)).map fun c => .str [c] else none := rfl
    have e2 : L2.atI (tx c) (k : Int) = some (sgn s) := by
      unfold L2.atI
      rw [ixNN (by rw [tx_length]; omega)]
      show (tx c)[k]? = _
      rw [hg, hs]
      rfl
    unfold ixA
    rw [e1, if_pos hl, e2]
    rfl
  refine ⟨_, ?_, rfl⟩
  unfold oppRow
  rw [hs]
  have m1 : mulD (.str [45]) (.int (k : Int)) = some (.str (tx (ds k))) := mul_dash (n := k) (by omega)
  have m2 : mulD (.str [45]) (.int ((c.length : Int) - 1 - (k : Int))) = some (.str (tx (ds (c.length - 1 - k)))) := by
    have e : (c.length : Int) - 1 - (k : Int) = ((c.length - 1 - k : Nat) : Int) := by omega
    rw [e]
    exact mul_dash (n := c.length - 1 - k) (by omega)
  have l1 : (tx (ds k)).length + 1 ≤ sizeLine := by
    rw [tx_length, List.length_replicate]
    omega
  have l2 : ∀ z : Nat, addD (.str (tx (ds k) ++ [z])) (.str (tx (ds (c.length - 1 - k)))) = some (.str (tx (ds k) ++ [z] ++ tx (ds (c.length - 1 - k)))) := fun z => by
    rw [addD_str, if_pos]
    rw [List.length_append, tx_length, tx_length, List.length_replicate, List.length_replicate]
    simp
    omega
  have ht := tx_lone (c.length - 1 - k)
  rcases s with _ | s
  · simp [l_law_opposite_1, hix, sgn]
  · have ht := ht (!s) k
    have l2 := l2 (sgn (some (!s)))
    generalize tx (ds k) = t1 at *
    generalize tx (ds (c.length - 1 - k)) = t2 at *
    rw [ht] at l2
    generalize hlo : lone (c.length - 1 - k) (!s) k = lo at *
    cases s
    · simp only [Bool.not_false, sgn] at l2 hlo
      simp [l_law_opposite_1, hix, sgn, m1, m2, l1, l2, hFl, hlo]
    · simp only [Bool.not_true, sgn] at l2 hlo
      simp [l_law_opposite_1, hix, sgn, m1, m2, l1, l2, hFl, hlo]
theorem e_opposite {c : List Sg} (hc : c.length ≤ 8) : p_law_opposite [.str (tx c)] = .ok (.lst ((oppL c.length c).map tD)) := by
  have szl := szl
  obtain ⟨S', h1, k, e⟩ := for_fold (tg := pTg (.nm 3)) (b := l_law_opposite_1) (fun F S => ∃ k, S = [.va (tD c), .va (.int c.length), .ow (.lst (F.map tD)), k]) (fun i : Nat => D.int (0 + (i : Int))) (fun F k => F ++ oppRow c.length c k) [] (List.range c.length) (fun pre i post hp S ⟨k, hS⟩ => by
    subst hS
    have hi : i < c.length := List.mem_range.mp (by rw [hp]; simp)
    have hpl : pre.length ≤ c.length := by
      have := congrArg List.length hp
      simp only [List.length_range, List.length_append] at this
      omega
    have hz : (pre.flatMap (oppRow c.length c)).length ≤ 1 * pre.length := len_flat fun a _ => by
      unfold oppRow
      split <;> simp
    rw [Q70.fold_fm, List.nil_append]
    obtain ⟨S', k1, e⟩ := opp_row (c := c) (F := pre.flatMap (oppRow c.length c)) (k := i) (j := .un) hc hi (by omega)
    exact ⟨[.va (tD c), .va (.int c.length), .ow (.lst ((pre.flatMap (oppRow c.length c)).map tD)), .va (.int i)], by simp, S', .inl k1, _, e⟩) (S := [.va (tD c), .va (.int c.length), .ow (.lst []), .un]) ⟨.un, rfl⟩
  rw [Q70.fold_fm, List.nil_append] at e
  subst e
  have hr := range1_nat (n := c.length) (by omega)
  have h1 : forGo (pTg (.nm 3)) l_law_opposite_1 (rgD 0 c.length) [.va (.str (tx c)), .va (.int c.length), .ow (.lst []), .un] = .ok .nx [.va (tD c), .va (.int c.length), .ow (.lst ((oppL c.length c).map tD)), k] := h1
  have e0 : startS 4 [.str (tx c)] = [.va (.str (tx c)), .un, .un, .un] := rfl
  have hlen : lenB [.str (tx c)] = some (.int c.length) := by
    rw [lenB_str, tx_length, if_pos (by omega)]
  unfold p_law_opposite runF m_law_opposite
  rw [e0]
  generalize tx c = t at *
  simp [hr, h1, hlen, -lenB_str]
end MP

/-! P70s: form 7, the pure part and the digits. -/
namespace Q70
theorem bitsOf_get : ∀ (w n i : Nat), (bitsOf w n)[i]? = if i < w then some (decide (n / 2 ^ i % 2 = 1)) else none
  | 0, n, i => by simp [bitsOf]
  | w + 1, n, 0 => by simp [bitsOf]
  | w + 1, n, i + 1 => by
    rw [bitsOf, List.getElem?_cons_succ, bitsOf_get w (n / 2) i, Nat.div_div_eq_div_mul, Nat.pow_succ, Nat.mul_comm 2]
    by_cases h : i < w
    · rw [if_pos h, if_pos (by omega)]
    · rw [if_neg h, if_neg (by omega)]
end Q70
namespace MP
open PySem PySem.Spec PyProof.Rows L2
open Q70 (Sg vl mk cov cov1 allT ds wts oppRow oppL lone ofBits bitsOf)
def outL (w : Nat) (c : List Sg) : List Nat := (List.range (2 ^ w)).filter fun n => !decide (n ∈ cov c)
def parL (w m : Nat) : List Nat := (List.range (2 ^ w)).filter fun n => decide (((wts w).getD n 0 + m) % 2 = 0)
theorem good_opp {w : Nat} {c : List Sg} (hw : w ≤ 8) (hc : c.length = w) : Good w (outL w c) (oppL w c) := by
  refine ⟨hw, List.Pairwise.filter _ List.nodup_range, fun n hn => List.mem_range.mp (List.mem_filter.mp hn).1, Q70.oppL_nodup, fun r => ?_⟩
  have hP : ∀ n, n < 2 ^ w → (n ∈ outL w c ↔ n ∉ cov c) := fun n hn => by
    unfold outL
    rw [List.mem_filter, List.mem_range]
    simp [hn]
  constructor
  · intro h
    have hl : r.length = w := by
      obtain ⟨i, b, hi, _, rfl⟩ := Q70.mem_oppL.mp h
      rw [Q70.lone_len]
      omega
    exact ⟨hl, (Q70.prime_opp hc hP hl).mpr h⟩
  · rintro ⟨h1, h2⟩
    exact (Q70.prime_opp hc hP h1).mp h2
theorem good_par {w m : Nat} (hw : w ≤ 8) : Good w (parL w m) ((parL w m).map fun n => ofBits (bitsOf w n)) := by
  have nd : (parL w m).Nodup := List.Pairwise.filter _ List.nodup_range
  have lt : ∀ n ∈ parL w m, n < 2 ^ w := fun n hn => List.mem_range.mp (List.mem_filter.mp hn).1
  refine ⟨hw, nd, lt, (Q70.lev_zero nd lt).nd, fun r => ?_⟩
  have hP : ∀ b : List Bool, b.length = w → (Q70.bv b ∈ parL w m ↔ (Q70.cnt b + m) % 2 = 0) := fun b hb => by
    have hlt := Q70.bv_lt b
    rw [hb] at hlt
    have hg := Q70.wts_get w b hb
    unfold parL
    rw [List.mem_filter, List.mem_range, List.getD_eq_getElem?_getD, hg]
    simp [hlt]
  rw [List.mem_map]
  constructor
  · rintro ⟨n, hn, rfl⟩
    have hl : (ofBits (bitsOf w n)).length = w := by simp [ofBits, Q70.bitsOf_length]
    refine ⟨hl, (Q70.prime_par hP hl).mpr ⟨bitsOf w n, Q70.bitsOf_length w n, ?_, rfl⟩⟩
    rw [Q70.bv_bitsOf w n (lt n hn)]
    exact hn
  · rintro ⟨h1, h2⟩
    obtain ⟨b, hb, hp, rfl⟩ := (Q70.prime_par hP h1).mp h2
    refine ⟨Q70.bv b, hp, ?_⟩
    have : bitsOf w (Q70.bv b) = b := Q70.bv_inj (by rw [Q70.bitsOf_length, hb]) (Q70.bv_bitsOf w _ (lt _ hp))
    rw [this]
theorem fdiv_pow {n e : Nat} (he : e ≤ 7) : fdivD (.int (n : Int)) (nD (2 ^ e)) = some (.int ((n / 2 ^ e : Nat) : Int)) := by
  have hc : (0 : Int) < ((2 ^ e : Nat) : Int) ∧ ((2 ^ e : Nat) : Int).natAbs.log2 < 9000 := by
    have : e = 0 ∨ e = 1 ∨ e = 2 ∨ e = 3 ∨ e = 4 ∨ e = 5 ∨ e = 6 ∨ e = 7 := by omega
    rcases this with rfl | rfl | rfl | rfl | rfl | rfl | rfl | rfl <;> decide
  rw [show nD (2 ^ e) = D.int ((2 ^ e : Nat) : Int) from rfl, fdivD_int, if_pos hc, Int.natCast_ediv]
def dgL (w n : Nat) : List Nat := (List.range w).map fun k => n / 2 ^ (w - 1 - k) % 2
theorem dgL_tx (w n : Nat) : (dgL w n).map (fun d => 48 + d) = tx (ofBits (bitsOf w n)) := by
  have hl : (ofBits (bitsOf w n)).length = w := by simp [ofBits, Q70.bitsOf_length]
  apply List.ext_getElem?
  intro k
  by_cases h : k < w
  · rw [tx_get (by omega), hl]
    unfold dgL ofBits
    rw [List.getElem?_map, List.getElem?_map, List.getElem?_range h, List.getElem?_map, Q70.bitsOf_get, if_pos (by omega)]
    simp only [Option.map_some]
    have : n / 2 ^ (w - 1 - k) % 2 = 0 ∨ n / 2 ^ (w - 1 - k) % 2 = 1 := by omega
    rcases this with e | e <;> rw [e] <;> rfl
  · rw [List.getElem?_eq_none (by simp [dgL]; omega), List.getElem?_eq_none (by rw [tx_length, hl]; omega)]
theorem pow_at {w k : Nat} (h6 : 6 ≤ w) (h8 : w ≤ 8) (hk : k < w) : L2.atI [D.int 128, .int 64, .int 32, .int 16, .int 8, .int 4, .int 2, .int 1] ((8 : Int) - (w : Int) + (k : Int)) = some (nD (2 ^ (w - 1 - k))) := by
  obtain ⟨j, hj⟩ : ∃ j : Nat, j = 8 - w + k := ⟨_, rfl⟩
  have e1 : (8 : Int) - (w : Int) + (k : Int) = (j : Int) := by omega
  have e2 : w - 1 - k = 7 - j := by omega
  rw [e1, e2]
  have : j = 0 ∨ j = 1 ∨ j = 2 ∨ j = 3 ∨ j = 4 ∨ j = 5 ∨ j = 6 ∨ j = 7 := by omega
  rcases this with rfl | rfl | rfl | rfl | rfl | rfl | rfl | rfl <;> rfl
theorem str_bit {d : Nat} (h : d < 2) : strB [nD d] = some (.str [48 + d]) := by
  have : d = 0 ∨ d = 1 := by omega
  have key : ∀ z : Int, z.natAbs.log2 < 1920 → strB [.int z] = some (.str (Str.ofString (toString z)).cps.toList) := fun z hz => by
    show (if z.natAbs.log2 < 1920 then some (D.str (Str.ofString (toString z)).cps.toList) else none) = _
    rw [if_pos hz]
  rcases this with rfl | rfl
  · have e : (Str.ofString (toString (0 : Int))).cps.toList = [48] := by decide +kernel
    have := key 0 (by decide)
    rw [e] at this
    exact this
  · have e : (Str.ofString (toString (1 : Int))).cps.toList = [49] := by decide +kernel
    have := key 1 (by decide)
    rw [e] at this
    exact this
abbrev SC (nl : D) (w : Nat) (o3 o4 : Sl) (t5 o7 o8 : D) (s9 s10 : Sl) : Sx := [.va nl, .va (.int 7), .va (.int w), o3, o4, .va t5, .un, .va o7, .va o8, s9, s10, .un]
theorem digits_row {nl : D} {w n : Nat} {o3 : Sl} {acc : List (List Sg)} {t5 o7 o8 : D} {s10 : Sl} (h6 : 6 ≤ w) (h8 : w ≤ 8) (ha : acc.length ≤ 1000) :
    ∃ S', l_law_case_1 (SC nl w o3 (.ow (.lst (acc.map tD))) t5 o7 o8 (.va (nD n)) s10) = .ok .nx S' ∧ ∃ s10, S' = SC nl w o3 (.ow (.lst ((acc ++ [ofBits (bitsOf w n)]).map tD))) t5 o7 o8 (.va (nD n)) s10 := by
  have szl := szl
  have hl8 : lstD [D.int 128, .int 64, .int 32, .int 16, .int 8, .int 4, .int 2, .int 1] = some (.lst [D.int 128, .int 64, .int 32, .int 16, .int 8, .int 4, .int 2, .int 1]) := rfl
  have hrg := range1_nat (n := w) (by omega)
  have hacc : acc.length < sizeLine := by omega
  have lc1 : eLc [6] (iRg1 (oVar 2)) (.nm 6) tYesM (eBin modD (eCal intB [(eBin fdivD (oVar 9) (eBin ixA (eLst [(eC (.int 128)), (eC (.int 64)), (eC (.int 32)), (eC (.int 16)), (eC (.int 8)), (eC (.int 4)), (eC (.int 2)), (eC (.int 1))]) (eBin addD (eBin subD (eC (.int 8)) (oVar 2)) (oVar 6))))]) (eC (.int 2)))
      (SC nl w o3 (.ow (.lst (acc.map tD))) t5 o7 o8 (.va (nD n)) s10) = .ok (.lst ((dgL w n).map nD)) (SC nl w o3 (.ow (.lst (acc.map tD))) t5 o7 o8 (.va (nD n)) s10) := by
    have e : (dgL w n).map nD = (rgD 0 w).map fun d => match d with | .int i => .int (((n / 2 ^ (w - 1 - i.toNat) : Nat) : Int) % 2) | d => d := by
      unfold dgL rgD
      rw [List.map_map, List.map_map]
      apply List.map_congr_left
      intro k _
      show D.int _ = D.int _
      rw [Int.zero_add, Int.toNat_natCast]
      rfl
    rw [e]
    refine ev_lcm (ds := rgD 0 w) _ ?_ rfl (by rw [rgD_length]; omega) fun d hd => ?_
    · simp [hrg]
    · obtain ⟨k, hk, rfl⟩ := rgD_mem hd
      refine ⟨[.va nl, .va (.int 7), .va (.int w), o3, .ow (.lst (acc.map tD)), .va t5, .va (nD k), .va o7, .va o8, .va (nD n), s10, .un], [.va nl, .va (.int 7), .va (.int w), o3, .ow (.lst (acc.map tD)), .va t5, .va (nD k), .va o7, .va o8, .va (nD n), s10, .un], by simp, ?_, rfl⟩
      have hpa := pow_at h6 h8 hk
      have hfd := fdiv_pow (n := n) (e := w - 1 - k) (by omega)
      have ek : (0 + (k : Int)).toNat = k := by omega
      simp only [ek]
      generalize nD (2 ^ (w - 1 - k)) = dz at hpa hfd
      generalize n / 2 ^ (w - 1 - k) = q at hfd ⊢
      simp [hl8, hpa, hfd, -fdivD_int]
  have lc2 : eLc [11] (iSeq (eVar 10)) (.nm 11) tYesM (eCal strB [(oVar 11)]) (SC nl w o3 (.ow (.lst (acc.map tD))) t5 o7 o8 (.va (nD n)) (.ow (.lst ((dgL w n).map nD)))) =
      .ok (.lst ((dgL w n).map fun d => .str [48 + d])) (SC nl w o3 (.ow (.lst (acc.map tD))) t5 o7 o8 (.va (nD n)) (.va (.lst ((dgL w n).map nD)))) := by
    have e : ((dgL w n).map fun d => D.str [48 + d]) = ((dgL w n).map nD).map fun d => match d with | .int i => .str [48 + i.toNat] | d => d := by
      rw [List.map_map]
      apply List.map_congr_left
      intro d _
      show D.str _ = D.str _
      rw [Int.toNat_natCast]
    rw [e]
    refine ev_lcm (ds := (dgL w n).map nD) _ ?_ rfl (by simp [dgL]; omega) fun d hd => ?_
    · simp
    · obtain ⟨b, hb, rfl⟩ := List.mem_map.mp hd
      have hb2 : b < 2 := by
        unfold dgL at hb
        obtain ⟨k, _, rfl⟩ := List.mem_map.mp hb
        omega
      have hsb := str_bit hb2
      refine ⟨[.va nl, .va (.int 7), .va (.int w), o3, .ow (.lst (acc.map tD)), .va t5, .un, .va o7, .va o8, .va (nD n), .va (.lst ((dgL w n).map nD)), .va (nD b)], [.va nl, .va (.int 7), .va (.int w), o3, .ow (.lst (acc.map tD)), .va t5, .un, .va o7, .va o8, .va (nD n), .va (.lst ((dgL w n).map nD)), .va (nD b)], by simp, ?_, rfl⟩
      simp [hsb]
  have hj := joinD_signs (fun d => 48 + d) (l := dgL w n) (by simp [dgL]; omega)
  rw [dgL_tx] at hj
  refine ⟨SC nl w o3 (.ow (.lst ((acc ++ [ofBits (bitsOf w n)]).map tD))) t5 o7 o8 (.va (nD n)) (.va (.lst ((dgL w n).map nD))), ?_, _, rfl⟩
  rw [List.map_append]
  generalize (dgL w n).map nD = dl at *
  generalize (dgL w n).map (fun d => D.str [48 + d]) = el at *
  unfold l_law_case_1
  simp [lc1, lc2, hj, hacc]
end MP

/-! P70t: form 7. -/
namespace MP
open PySem PySem.Spec PyProof.Rows L2
open Q70 (Sg vl mk cov cov1 allT ds wts oppRow oppL lone ofBits bitsOf)
def sg3 (n : Nat) : Sg := if n = 0 then none else if n = 1 then some false else some true
theorem sg3_at (n : Nat) : L2.atI [D.str [45], .str [48], .str [49]] ((n : Int) % 3) = some (.str [sgn (sg3 (n % 3))]) := by
  have e : (n : Int) % 3 = ((n % 3 : Nat) : Int) := by omega
  rw [e]
  have : n % 3 = 0 ∨ n % 3 = 1 ∨ n % 3 = 2 := by omega
  rcases this with h | h | h <;> rw [h] <;> rfl
theorem lst3 : lstD [D.str [45], .str [48], .str [49]] = some (.lst [D.str [45], .str [48], .str [49]]) := rfl
theorem case_7 {N : List Nat} (hN : N.length = 67) : CaseOk N 7 := by
  have szl := szl
  have hI0 : L2.atI (N.map nD) 0 = some (nD (N[0]'(by omega))) := ix_nD (k := 0) (by omega)
  have hI1 : L2.atI (N.map nD) 1 = some (nD (N[1]'(by omega))) := ix_nD (k := 1) (by omega)
  have hI2 : L2.atI (N.map nD) 2 = some (nD (N[2]'(by omega))) := ix_nD (k := 2) (by omega)
  obtain ⟨n0, hn0⟩ : ∃ n0, n0 = N[0]'(by omega) := ⟨_, rfl⟩
  obtain ⟨n1, hn1⟩ : ∃ n0, n0 = N[1]'(by omega) := ⟨_, rfl⟩
  obtain ⟨n2, hn2⟩ : ∃ n0, n0 = N[2]'(by omega) := ⟨_, rfl⟩
  rw [← hn0] at hI0
  rw [← hn1] at hI1
  rw [← hn2] at hI2
  obtain ⟨w, hw⟩ : ∃ w : Nat, w = 6 + n0 % 3 := ⟨_, rfl⟩
  have hw' : 6 + (n0 : Int) % 3 = (w : Int) := by omega
  have w6 : 6 ≤ w := by omega
  have w8 : w ≤ 8 := by omega
  have pw : 2 ^ w ≤ 256 := Nat.le_trans (Nat.pow_le_pow_right (by decide) w8) (by decide)
  have hrg := range1_nat (n := w) (by omega)
  obtain ⟨l, hl⟩ : ∃ l : List Sg, l = (List.range w).map fun k => sg3 (N.getD (2 + k) 0 % 3) := ⟨_, rfl⟩
  have lc5 : eLc [6] (iRg1 (oVar 2)) (.nm 6) tYesM (eBin ixA (eLst [(eS "-"), (eS "0"), (eS "1")]) (eBin modD (eCal intB [(eBin ixA (oVar 0) (eBin addD (eC (.int 2)) (oVar 6)))]) (eC (.int 3))))
      [.va (.lst (N.map nD)), .va (.int 7), .va (.int w), .un, .un, .un, .un, .un, .un, .un, .un, .un] = .ok (.lst (l.map fun s => .str [sgn s])) [.va (.lst (N.map nD)), .va (.int 7), .va (.int w), .un, .un, .un, .un, .un, .un, .un, .un, .un] := by
    have e : (l.map fun s => D.str [sgn s]) = (rgD 0 w).map fun d => match d with | .int i => .str [sgn (sg3 (N.getD (2 + i.toNat) 0 % 3))] | d => d := by
      rw [hl]
      unfold rgD
      rw [List.map_map, List.map_map]
      apply List.map_congr_left
      intro k _
      show D.str _ = D.str _
      rw [Int.zero_add, Int.toNat_natCast]
    rw [e]
    refine ev_lcm (ds := rgD 0 w) _ ?_ rfl (by rw [rgD_length]; omega) fun d hd => ?_
    · simp [hrg]
    · obtain ⟨k, hk, rfl⟩ := rgD_mem hd
      have hI := ix_nD (N := N) (k := 2 + k) (by omega)
      rw [Int.natCast_add] at hI
      have hg : N.getD (2 + k) 0 = N[2 + k]'(by omega) := by
        rw [List.getD_eq_getElem?_getD, List.getElem?_eq_getElem (by omega)]
        rfl
      have hs := sg3_at (N[2 + k]'(by omega))
      have ek : (0 + (k : Int)).toNat = k := by omega
      have e2 : ((2 : Nat) : Int) = 2 := rfl
      rw [e2] at hI
      refine ⟨[.va (.lst (N.map nD)), .va (.int 7), .va (.int w), .un, .un, .un, .va (nD k), .un, .un, .un, .un, .un], [.va (.lst (N.map nD)), .va (.int 7), .va (.int w), .un, .un, .un, .va (nD k), .un, .un, .un, .un, .un], by simp, ?_, rfl⟩
      simp only [ek, hg]
      generalize N.map nD = nl at *
      generalize N[2 + k]'(by omega) = z at *
      simp [hI, lst3, hs]
  have hll : l.length = w := by rw [hl]; simp
  have hj := joinD_signs sgn (l := l) (by omega)
  have hcl : l.reverse.length = w := by rw [List.length_reverse, hll]
  have ht : l.map sgn = tx l.reverse := by unfold tx; rw [List.reverse_reverse]
  rw [ht] at hj
  generalize l.reverse = c at hcl ht hj
  have hcv := e_covered (r := c) (by omega)
  have hwt := e_weights (w := w) w8
  have hop := e_opposite (c := c) (by omega)
  rw [hcl] at hop
  have hlw : ((wts w).map nD).length = 2 ^ w := by rw [List.length_map, Q70.wts_len]
  have hrw : range1D [.int (((wts w).map nD).length : Nat)] = some (rgD 0 (2 ^ w)) := by
    rw [hlw]
    exact range1_nat (n := 2 ^ w) (Nat.lt_of_le_of_lt pw (by decide))
  have lc3 : eLc [6] (iRg1 (eCal lenB [(oVar 8)])) (.nm 6) (MP.tCmp notInA (oVar 6) (oVar 7)) (eVar 6) (SC (.lst (N.map nD)) w .un .un (.str (tx c)) (.lst ((cov c).map nD)) (.lst ((wts w).map nD)) .un .un)
      = .ok (.lst ((outL w c).map nD)) (SC (.lst (N.map nD)) w .un .un (.str (tx c)) (.lst ((cov c).map nD)) (.lst ((wts w).map nD)) .un .un) := by
    have e : (outL w c).map nD = (rgD 0 (2 ^ w)).filterMap (fun d => match d with | .int i => if (!decide (i.toNat ∈ cov c)) = true then some d else none | _ => none) := by
      unfold rgD outL
      generalize List.range (2 ^ w) = l
      induction l with
      | nil => rfl
      | cons k l ih =>
        rw [List.map_cons, List.filterMap_cons, ← ih, List.filter_cons]
        by_cases q : k ∈ cov c <;> simp [q]
    rw [e]
    refine ev_lc (ds := rgD 0 (2 ^ w)) _ ?_ rfl (by rw [rgD_length]; omega) fun d hd => ?_
    · generalize (wts w).map nD = wl at *
      simp [hrw]
    · obtain ⟨i, hi, rfl⟩ := rgD_mem hd
      have hn := notInA_nat i (cov c)
      refine ⟨[.va (.lst (N.map nD)), .va (.int 7), .va (.int w), .un, .un, .va (.str (tx c)), .va (nD i), .va (.lst ((cov c).map nD)), .va (.lst ((wts w).map nD)), .un, .un, .un], ?_, rfl⟩
      unfold lcTurn
      generalize (cov c).map nD = cl at *
      by_cases q : i ∈ cov c
      · simp [hn, q]
      · simp [hn, q]
  have e0 : startS 12 [.lst (N.map nD), .int (7 : Nat)] = [.va (.lst (N.map nD)), .va (.int 7), .un, .un, .un, .un, .un, .un, .un, .un, .un, .un] := rfl
  by_cases h4 : n1 % 4 = 0
  · -- parity
    have lc4 : ∀ o3 o4, eLc [6] (iRg1 (eCal lenB [(oVar 8)])) (.nm 6) (MP.tCmp eqD (eBin modD (eCal intB [(eBin addD (eBin ixA (oVar 8) (oVar 6)) (eBin ixA (oVar 0) (eC (.int 2))))]) (eC (.int 2))) (eC (.int 0))) (eVar 6)
        (SC (.lst (N.map nD)) w o3 o4 (.str (tx c)) (.lst ((cov c).map nD)) (.lst ((wts w).map nD)) .un .un)
        = .ok (.lst ((parL w n2).map nD)) (SC (.lst (N.map nD)) w o3 o4 (.str (tx c)) (.lst ((cov c).map nD)) (.lst ((wts w).map nD)) .un .un) := by
      intro o3 o4
      have e : (parL w n2).map nD = (rgD 0 (2 ^ w)).filterMap (fun d => match d with | .int i => if (decide (((wts w).getD i.toNat 0 + n2) % 2 = 0)) = true then some d else none | _ => none) := by
        unfold rgD parL
        generalize List.range (2 ^ w) = l
        induction l with
        | nil => rfl
        | cons k l ih =>
          rw [List.map_cons, List.filterMap_cons, ← ih, List.filter_cons]
          by_cases q : ((wts w).getD k 0 + n2) % 2 = 0
          · have q' : ((wts w).getD (0 + (k : Int)).toNat 0 + n2) % 2 = 0 := by rw [Int.zero_add, Int.toNat_natCast]; exact q
            simp only [q, q', decide_true, if_true]
            rw [List.map_cons]
            congr 1
            show nD _ = _
            unfold nD
            rw [Int.zero_add]
          · have q' : ¬ ((wts w).getD (0 + (k : Int)).toNat 0 + n2) % 2 = 0 := by rw [Int.zero_add, Int.toNat_natCast]; exact q
            simp only [q, q', decide_false, if_false, Bool.false_eq_true]
      rw [e]
      refine ev_lc (ds := rgD 0 (2 ^ w)) _ ?_ rfl (by rw [rgD_length]; omega) fun d hd => ?_
      · generalize (wts w).map nD = wl at *
        simp [hrw]
      · obtain ⟨i, hi, rfl⟩ := rgD_mem hd
        have hlt : i < (wts w).length := by rw [Q70.wts_len]; exact hi
        have hI := ix_nD (N := wts w) (k := i) hlt
        have hg : (wts w).getD i 0 = (wts w)[i]'hlt := by
          rw [List.getD_eq_getElem?_getD, List.getElem?_eq_getElem hlt]
          rfl
        have ek : (0 + (i : Int)).toNat = i := by omega
        refine ⟨[.va (.lst (N.map nD)), .va (.int 7), .va (.int w), o3, o4, .va (.str (tx c)), .va (nD i), .va (.lst ((cov c).map nD)), .va (.lst ((wts w).map nD)), .un, .un, .un], ?_, rfl⟩
        unfold lcTurn
        simp only [ek, hg]
        generalize (wts w).map nD = wl at *
        generalize N.map nD = nl at *
        generalize (wts w)[i]'hlt = z at *
        by_cases q : (z + n2) % 2 = 0
        · have q' : ((z : Int) + (n2 : Int)) % 2 = 0 := by omega
          simp [hI, hI2, q, q']
        · have q' : ¬ ((z : Int) + (n2 : Int)) % 2 = 0 := by omega
          simp [hI, hI2, q, q']
    refine ⟨w, parL w n2, _, false, good_par w8, ?_⟩
    have hpl : (parL w n2).length ≤ 256 := by
      unfold parL
      refine Nat.le_trans (List.length_filter_le _ _) ?_
      rw [List.length_range]
      exact pw
    obtain ⟨S', k1, s9, s10, e⟩ := for_fold (tg := pTg (.nm 9)) (b := l_law_case_1) (fun acc S => ∃ s9 s10, S = SC (.lst (N.map nD)) w (.va (.lst ((parL w n2).map nD))) (.ow (.lst (acc.map tD))) (.str (tx c)) (.lst ((cov c).map nD)) (.lst ((wts w).map nD)) s9 s10)
      nD (fun acc n => acc ++ [ofBits (bitsOf w n)]) [] (parL w n2) (fun pre n post hp S ⟨s9, s10, hS⟩ => by
      subst hS
      have hpl2 : pre.length ≤ (parL w n2).length := by rw [hp]; simp
      have hz : (pre.flatMap fun n => [ofBits (bitsOf w n)]).length ≤ 1 * pre.length := len_flat fun a _ => by simp
      have hff : pre.foldl (fun acc n => acc ++ [ofBits (bitsOf w n)]) [] = pre.flatMap fun n => [ofBits (bitsOf w n)] := by
        have := Q70.fold_fm (fun n => [ofBits (bitsOf w n)]) pre []
        rw [List.nil_append] at this
        exact this
      rw [hff]
      obtain ⟨S', k1, s10', rfl⟩ := digits_row (nl := .lst (N.map nD)) (w := w) (n := n) (o3 := .va (.lst ((parL w n2).map nD))) (acc := pre.flatMap fun n => [ofBits (bitsOf w n)]) (t5 := .str (tx c)) (o7 := .lst ((cov c).map nD)) (o8 := .lst ((wts w).map nD)) (s10 := s10) w6 w8 (by omega)
      exact ⟨SC (.lst (N.map nD)) w (.va (.lst ((parL w n2).map nD))) (.ow (.lst ((pre.flatMap fun n => [ofBits (bitsOf w n)]).map tD))) (.str (tx c)) (.lst ((cov c).map nD)) (.lst ((wts w).map nD)) (.va (nD n)) s10, by simp, _, .inl k1, _, _, rfl⟩)
      (S := SC (.lst (N.map nD)) w (.va (.lst ((parL w n2).map nD))) (.ow (.lst [])) (.str (tx c)) (.lst ((cov c).map nD)) (.lst ((wts w).map nD)) .un .un) ⟨.un, .un, rfl⟩
    have hff : (parL w n2).foldl (fun acc n => acc ++ [ofBits (bitsOf w n)]) [] = (parL w n2).map fun n => ofBits (bitsOf w n) := by
      have := Q70.fold_fm (fun n => [ofBits (bitsOf w n)]) (parL w n2) []
      rw [List.nil_append] at this
      refine Eq.trans this ?_
      generalize parL w n2 = q
      induction q with
      | nil => rfl
      | cons a q ih => rw [List.flatMap_cons, ih]; rfl
    rw [hff] at e
    subst e
    have htl : ∀ T, tlD false T = .lst (T.map tD) := fun _ => rfl
    rw [htl]
    have h4' : (n1 : Int) % 4 = 0 := by omega
    clear hn0 hn1 hn2 hw h4
    generalize ((parL w n2).map fun n => ofBits (bitsOf w n)).map tD = tl at *
    generalize (parL w n2).map nD = ol at *
    generalize (l.map fun s => D.str [sgn s]) = ls at *
    generalize (outL w c).map nD = xl at *
    generalize (oppL w c).map tD = yl at *
    generalize (wts w).map nD = wl at *
    generalize (cov c).map nD = cl at *
    generalize N.map nD = nl at *
    generalize tx c = t at *
    unfold p_law_case runF m_law_case
    rw [e0]
    simp [hI0, hw', lc5, hj, hcv, hwt, lc3, hop, hI1, h4', lc4, k1]
  · refine ⟨w, outL w c, _, false, good_opp w8 hcl, ?_⟩
    have htl : ∀ T, tlD false T = .lst (T.map tD) := fun _ => rfl
    rw [htl]
    have h4' : ¬ (n1 : Int) % 4 = 0 := by omega
    clear hn0 hn1 hn2 hw h4
    generalize (l.map fun s => D.str [sgn s]) = ls at *
    generalize (outL w c).map nD = xl at *
    generalize (oppL w c).map tD = yl at *
    generalize (wts w).map nD = wl at *
    generalize (cov c).map nD = cl at *
    generalize N.map nD = nl at *
    generalize tx c = t at *
    unfold p_law_case runF m_law_case
    rw [e0]
    simp [hI0, hw', lc5, hj, hcv, hwt, lc3, hop, hI1, h4']
end MP

/-! P70u: form 3, the plain part. -/
namespace Q70
abbrev on (r : List Sg) : Nat := r.count (some true)
abbrev ze (r : List Sg) : Nat := r.count (some false)
theorem cnt_all : ∀ r : List Sg, on r + ze r + dashes r = r.length
  | [] => rfl
  | s :: r => by
    have := cnt_all r
    simp only [on, ze, dashes, List.count_cons, List.length_cons] at this ⊢
    rcases s with _ | s
    · simp; omega
    · cases s <;> simp <;> omega
theorem mt_cnt : ∀ {r : List Sg} {b : List Bool}, mt r b → on r ≤ cnt b ∧ cnt b ≤ on r + dashes r
  | [], [], _ => ⟨Nat.le_refl _, Nat.le_refl _⟩
  | [], _ :: _, h => h.elim
  | _ :: _, [], h => h.elim
  | s :: r, c :: b, h => by
    have ih := mt_cnt h.2
    have h1 := h.1
    simp only [on, cnt, dashes, List.count_cons] at ih ⊢
    rcases s with _ | s
    · cases c <;> simp <;> omega
    · rcases h1 with h1 | h1
      · cases h1
      · cases h1
        cases c <;> simp <;> omega
theorem mt_lo : ∀ r : List Sg, ∃ b, mt r b ∧ cnt b = on r
  | [] => ⟨[], trivial, rfl⟩
  | s :: r => by
    obtain ⟨b, h1, h2⟩ := mt_lo r
    rcases s with _ | s
    · exact ⟨false :: b, ⟨.inl rfl, h1⟩, by simp [cnt, on, List.count_cons] at h2 ⊢; exact h2⟩
    · exact ⟨s :: b, ⟨.inr rfl, h1⟩, by simp [cnt, on, List.count_cons] at h2 ⊢; rw [h2]⟩
theorem mt_hi : ∀ r : List Sg, ∃ b, mt r b ∧ cnt b = on r + dashes r
  | [] => ⟨[], trivial, rfl⟩
  | s :: r => by
    obtain ⟨b, h1, h2⟩ := mt_hi r
    rcases s with _ | s
    · exact ⟨true :: b, ⟨.inl rfl, h1⟩, by simp [cnt, on, dashes, List.count_cons] at h2 ⊢; omega⟩
    · exact ⟨s :: b, ⟨.inr rfl, h1⟩, by simp [cnt, on, dashes, List.count_cons] at h2 ⊢; rw [h2]; omega⟩
theorem set_tt : ∀ {r : List Sg} {i : Nat}, r[i]? = some (some true) → on (r.set i none) + 1 = on r ∧ ze (r.set i none) = ze r
  | [], i, h => by simp at h
  | s :: r, 0, h => by
    simp at h
    subst h
    simp [on, ze, List.count_cons]
  | s :: r, i + 1, h => by
    have := set_tt (r := r) (i := i) (by simpa using h)
    simp only [on, ze, List.set_cons_succ, List.count_cons] at this ⊢
    omega
theorem set_ff : ∀ {r : List Sg} {i : Nat}, r[i]? = some (some false) → on (r.set i none) = on r ∧ ze (r.set i none) + 1 = ze r
  | [], i, h => by simp at h
  | s :: r, 0, h => by
    simp at h
    subst h
    simp [on, ze, List.count_cons]
  | s :: r, i + 1, h => by
    have := set_ff (r := r) (i := i) (by simpa using h)
    simp only [on, ze, List.set_cons_succ, List.count_cons] at this ⊢
    omega
theorem mem_at {r : List Sg} {s : Sg} (h : 0 < r.count s) : ∃ i, i < r.length ∧ r[i]? = some s := by
  obtain ⟨i, hi, e⟩ := List.getElem_of_mem (List.count_pos_iff.mp h)
  exact ⟨i, hi, by rw [List.getElem?_eq_getElem hi, e]⟩
theorem prime_cnt {w low high : Nat} (hh : low ≤ high) (hw : high ≤ w) {P : Nat → Prop} (hP : ∀ b : List Bool, b.length = w → (P (bv b) ↔ low ≤ cnt b ∧ cnt b ≤ high)) {r : List Sg} (hr : r.length = w) : prime P r ↔ on r = low ∧ ze r = w - high := by
  have im : ∀ r : List Sg, r.length = w → (impl P r ↔ low ≤ on r ∧ w ≤ ze r + high) := fun r hr => by
    have ca := cnt_all r
    constructor
    · intro h
      obtain ⟨b, b1, b2⟩ := mt_lo r
      obtain ⟨c, c1, c2⟩ := mt_hi r
      have h1 := (hP b (by rw [mt_length b1, hr])).mp (h b b1)
      have h2 := (hP c (by rw [mt_length c1, hr])).mp (h c c1)
      omega
    · rintro ⟨h1, h2⟩ b hb
      have := mt_cnt hb
      exact (hP b (by rw [mt_length hb, hr])).mpr (by omega)
  unfold prime
  rw [im r hr]
  have ca := cnt_all r
  constructor
  · rintro ⟨⟨h1, h2⟩, h3⟩
    constructor
    · refine Classical.byContradiction fun z => ?_
      obtain ⟨i, hi, e⟩ := mem_at (r := r) (s := some true) (show 0 < on r by omega)
      have hs := set_tt e
      refine h3 i hi (by rw [e]; simp) ((im _ (by simpa using hr)).mpr (by omega))
    · refine Classical.byContradiction fun z => ?_
      obtain ⟨i, hi, e⟩ := mem_at (r := r) (s := some false) (show 0 < ze r by omega)
      have hs := set_ff e
      refine h3 i hi (by rw [e]; simp) ((im _ (by simpa using hr)).mpr (by omega))
  · rintro ⟨h1, h2⟩
    refine ⟨by omega, fun i hi hn z => ?_⟩
    have z := (im _ (by simpa using hr)).mp z
    obtain ⟨s, hs⟩ : ∃ s, r[i]? = some s := ⟨r[i], List.getElem?_eq_getElem hi⟩
    rcases s with _ | s
    · exact hn hs
    · cases s
      · have := set_ff hs
        omega
      · have := set_tt hs
        omega
end Q70
namespace MP
open PySem PySem.Spec PyProof.Rows L2
open Builtin Builtin.Str in
theorem occ_walk (x : Str) (c : Nat) : ∀ (n i : Nat) (st : Array Nat × Nat), i + n = x.length + 1 → st.1.size ≤ i → st.2 ≤ i →
    (forIn (List.range' i n) st (StrLaws.occBody x ⟨#[c]⟩ x.length (x.length + 1))).run.fst.size = st.1.size + (x.cps.toList.drop i).count c
  | 0, i, st, h, _, _ => by
    have e : x.cps.toList.drop i = [] := List.drop_of_length_le (by simp [Str.length] at h ⊢; omega)
    rw [e]
    rfl
  | n + 1, i, st, h, h1, h2 => by
    rw [List.range'_succ, List.forIn_cons]
    have key := StrLaws.subAt_one x c i
    have hone : (⟨#[c]⟩ : Str).length = 1 := rfl
    unfold StrLaws.occBody
    by_cases q : x.cps.toList[i]? = some c
    · have k2 := key.mpr q
      have hlt : i < x.cps.toList.length := (List.getElem?_eq_some_iff.mp q).1
      have hd : x.cps.toList.drop i = c :: x.cps.toList.drop (i + 1) := by
        rw [List.drop_eq_getElem_cons hlt]
        congr 1
        exact (List.getElem?_eq_some_iff.mp q).2
      rw [if_pos ⟨⟨⟨by omega, h2⟩, k2.1⟩, k2.2⟩]
      have ih := occ_walk x c n (i + 1) (st.1.push i, i + (⟨#[c]⟩ : Str).length) (by omega) (by simp; omega) (by rw [hone]; exact Nat.le_refl _)
      rw [hd, List.count_cons_self]
      refine Eq.trans ih ?_
      simp
      omega
    · have k2 : ¬ (((st.1.size < x.length + 1 ∧ st.2 ≤ i) ∧ i + (⟨#[c]⟩ : Str).length ≤ x.length) ∧ subAt x ⟨#[c]⟩ i = true) := fun z => q (key.mp ⟨z.1.2, z.2⟩)
      rw [if_neg k2]
      have ih := occ_walk x c n (i + 1) (st.1, st.2) (by omega) (by simp; omega) (by simp; omega)
      have hd : (x.cps.toList.drop i).count c = (x.cps.toList.drop (i + 1)).count c := by
        by_cases hlt : i < x.cps.toList.length
        · rw [List.drop_eq_getElem_cons hlt, List.count_cons]
          have : ¬ (x.cps.toList[i] == c) = true := fun z => q (by rw [List.getElem?_eq_getElem hlt, beq_iff_eq.mp z])
          rw [if_neg this]
          rfl
        · rw [List.drop_of_length_le (by omega), List.drop_of_length_le (by omega)]
      rw [hd]
      exact ih
theorem count_one (x : Str) (c : Nat) : Txt.count x ⟨#[c]⟩ = ((x.cps.toList.count c : Nat) : Int) := by
  show (((Builtin.Str.occurrences x ⟨#[c]⟩ 0 x.length (x.length + 1)).length : Nat) : Int) = _
  congr 1
  rw [StrLaws.occ_eq, Array.length_toList]
  have := occ_walk x c (x.length + 1 - 0) 0 (#[], 0) (by omega) (by simp) (by simp)
  rw [this, List.drop_zero]
  simp
theorem countD_one (x : List Nat) (c : Nat) : countD (.str x) (.str [c]) = some (.int ((x.count c : Nat) : Int)) := by
  show some (D.int (Txt.count ⟨x.toArray⟩ ⟨#[c]⟩)) = _
  rw [count_one]
open Q70 (Sg on ze dashes)
theorem tx_count (r : List Sg) (s : Sg) : (tx r).count (sgn s) = r.count s := by
  have inj : ∀ a b : Sg, sgn a = sgn b → a = b := by
    intro a b h
    rcases a with _ | a <;> rcases b with _ | b
    · rfl
    · cases b <;> simp [sgn] at h
    · cases a <;> simp [sgn] at h
    · cases a <;> cases b <;> simp [sgn] at h ⊢
  have key : ∀ l : List Sg, (l.map sgn).count (sgn s) = l.count s := by
    intro l
    induction l with
    | nil => rfl
    | cons a l ih =>
      rw [List.map_cons, List.count_cons, List.count_cons, ih]
      by_cases q : a = s
      · simp [q]
      · have : ¬ sgn a = sgn s := fun z => q (inj _ _ z)
        simp [q, this]
  unfold tx
  rw [key, List.count_reverse]
end MP

/-! P70v: form 3. -/
namespace MP
open PySem PySem.Spec PyProof.Rows L2
open Q70 (Sg vl mk cov cov1 allT ds wts on ze dashes)
def okB (a z d : Nat) (r : List Sg) : Bool := decide (on r ≤ a) && (decide (ze r ≤ z) && decide (dashes r ≤ d))
theorem ok_tail {a z d : Nat} {s : Sg} {r : List Sg} (h : okB a z d (s :: r) = true) : okB a z d r = true := by
  unfold okB at h ⊢
  simp only [Bool.and_eq_true, decide_eq_true_eq] at h ⊢
  have h1 : on r ≤ on (s :: r) := by simp only [on, List.count_cons]; omega
  have h2 : ze r ≤ ze (s :: r) := by simp only [ze, List.count_cons]; omega
  have h3 : dashes r ≤ dashes (s :: r) := by simp only [dashes, List.count_cons]; omega
  omega
theorem ok_step {a z d : Nat} : ∀ l : List (List Sg), (l.flatMap step3).filter (okB a z d) = (l.filter (okB a z d)).flatMap fun r => (step3 r).filter (okB a z d)
  | [] => rfl
  | r :: l => by
    rw [List.flatMap_cons, List.filter_append, ok_step l]
    by_cases q : okB a z d r = true
    · rw [List.filter_cons_of_pos (a := r) (l := l) q, List.flatMap_cons]
    · have : (step3 r).filter (okB a z d) = [] := by
        rw [List.filter_eq_nil_iff]
        intro x hx hk
        simp [step3] at hx
        rcases hx with rfl | rfl | rfl <;> exact q (ok_tail hk)
      rw [List.filter_cons_of_neg (a := r) (l := l) q, this, List.nil_append]
theorem sh_row1 {w a z d : Nat} {o3 k x8 : Sl} {acc : List (List Sg)} {r : List Sg} {s : Sg} (hd : (w : Int) - (a : Int) - (z : Int) = (d : Int)) (hr : r.length ≤ 100) (ha : acc.length ≤ 1000000) :
    l_law_shuffles_1 [.va (.int w), .va (.int a), .va (.int z), o3, k, .ow (.lst (acc.map tD)), .va (tD r), .va (.str [sgn s]), x8] =
      .ok .nx [.va (.int w), .va (.int a), .va (.int z), o3, k, .ow (.lst ((if okB a z d (s :: r) = true then acc ++ [s :: r] else acc).map tD)), .va (tD r), .va (.str [sgn s]), .va (tD (s :: r))] := by
  have szl := szl
  have hl : (tx r).length + 1 ≤ sizeLine := by rw [tx_length]; omega
  have hac : acc.length < sizeLine := by omega
  have e1 := tx_cons s r
  have c1 := countD_one (tx (s :: r)) 49
  have c2 := countD_one (tx (s :: r)) 48
  have c3 := countD_one (tx (s :: r)) 45
  have t1 : (tx (s :: r)).count 49 = on (s :: r) := tx_count (s :: r) (some true)
  have t2 : (tx (s :: r)).count 48 = ze (s :: r) := tx_count (s :: r) (some false)
  have t3 : (tx (s :: r)).count 45 = dashes (s :: r) := tx_count (s :: r) none
  rw [t1] at c1
  rw [t2] at c2
  rw [t3] at c3
  have ok : okB a z d (s :: r) = (decide (on (s :: r) ≤ a) && (decide (ze (s :: r) ≤ z) && decide (dashes (s :: r) ≤ d))) := rfl
  have etD : tD (s :: r) = .str (tx (s :: r)) := rfl
  have eap : (acc ++ [s :: r]).map tD = acc.map tD ++ [.str (tx (s :: r))] := by rw [List.map_append]; rfl
  generalize on (s :: r) = x1 at *
  generalize ze (s :: r) = x2 at *
  generalize dashes (s :: r) = x3 at *
  rw [etD, ok]
  rw [apply_ite (List.map tD), eap]
  generalize tx (s :: r) = t at *
  by_cases q1 : x1 ≤ a
  · by_cases q2 : x2 ≤ z
    · by_cases q3 : x3 ≤ d
      · simp [l_law_shuffles_1, hl, ← e1, c1, c2, c3, hd, q1, q2, q3, hac]
      · simp [l_law_shuffles_1, hl, ← e1, c1, c2, c3, hd, q1, q2, q3, hac]
    · simp [l_law_shuffles_1, hl, ← e1, c1, c2, c3, hd, q1, q2, hac]
  · simp [l_law_shuffles_1, hl, ← e1, c1, c2, c3, hd, q1, hac]
theorem st_m01 : (Str.ofString "-01").cps.toList = [45, 48, 49] := by decide
theorem sh_row2 {w a z d : Nat} {o3 k x7 x8 : Sl} {acc : List (List Sg)} {r : List Sg} (hd : (w : Int) - (a : Int) - (z : Int) = (d : Int)) (hr : r.length ≤ 100) (ha : acc.length ≤ 100000) :
    ∃ S', l_law_shuffles_2 [.va (.int w), .va (.int a), .va (.int z), o3, k, .ow (.lst (acc.map tD)), .va (tD r), x7, x8] = .ok .nx S' ∧
      ∃ x7 x8, S' = [.va (.int w), .va (.int a), .va (.int z), o3, k, .ow (.lst ((acc ++ (step3 r).filter (okB a z d)).map tD)), .va (tD r), x7, x8] := by
  obtain ⟨S', k1, x7', x8', e⟩ := for_fold (tg := pTg (.nm 7)) (b := l_law_shuffles_1) (fun acc S => ∃ x7 x8, S = [.va (.int w), .va (.int a), .va (.int z), o3, k, .ow (.lst (acc.map tD)), .va (tD r), x7, x8]) (fun s => D.str [sgn s])
    (fun acc s => if okB a z d (s :: r) = true then acc ++ [s :: r] else acc) acc [none, some false, some true] (fun pre s post hp S ⟨x7, x8, hS⟩ => by
    subst hS
    have hpl : pre.length ≤ 3 := by
      have := congrArg List.length hp
      simp at this
      omega
    have hz : ∀ (l : List Sg) (acc : List (List Sg)), (l.foldl (fun acc s => if okB a z d (s :: r) = true then acc ++ [s :: r] else acc) acc).length ≤ acc.length + l.length := by
      intro l
      induction l with
      | nil => intro acc; exact Nat.le_refl _
      | cons x l ih =>
        intro acc
        rw [List.foldl_cons]
        refine Nat.le_trans (ih _) ?_
        rw [List.length_cons]
        split <;> simp <;> omega
    have := hz pre acc
    exact ⟨[.va (.int w), .va (.int a), .va (.int z), o3, k, .ow (.lst ((pre.foldl (fun acc s => if okB a z d (s :: r) = true then acc ++ [s :: r] else acc) acc).map tD)), .va (tD r), .va (.str [sgn s]), x8], by simp, _, .inl (sh_row1 hd hr (by omega)), _, _, rfl⟩)
    (S := [.va (.int w), .va (.int a), .va (.int z), o3, k, .ow (.lst (acc.map tD)), .va (tD r), x7, x8]) ⟨x7, x8, rfl⟩
  have ef : [none, some false, some true].foldl (fun acc s => if okB a z d (s :: r) = true then acc ++ [s :: r] else acc) acc = acc ++ (step3 r).filter (okB a z d) := by
    simp only [List.foldl_cons, List.foldl_nil, step3, List.filter_cons, List.filter_nil]
    by_cases q1 : okB a z d (none :: r) = true <;> by_cases q2 : okB a z d (some false :: r) = true <;> by_cases q3 : okB a z d (some true :: r) = true <;> simp [q1, q2, q3]
  rw [ef] at e
  refine ⟨S', ?_, x7', x8', e⟩
  have k1' : forGo (pTg (.nm 7)) l_law_shuffles_1 [.str [45], .str [48], .str [49]] [.va (.int w), .va (.int a), .va (.int z), o3, k, .ow (.lst (acc.map tD)), .va (tD r), x7, x8] = .ok .nx S' := k1
  unfold l_law_shuffles_2
  simp [st_m01, k1']
end MP

/-! P70w: form 3, read. -/
namespace MP
open PySem PySem.Spec PyProof.Rows L2
open Q70 (Sg vl mk cov cov1 allT ds wts on ze dashes)
def shL (a z d k : Nat) : List (List Sg) := (allT k).filter (okB a z d)
theorem shL_step (a z d k : Nat) : (shL a z d k).flatMap (fun r => (step3 r).filter (okB a z d)) = shL a z d (k + 1) := (ok_step (allT k)).symm
theorem sh_row3 {w a z d : Nat} {o k x5 x6 x7 x8 : Sl} {ts : List (List Sg)} (hd : (w : Int) - (a : Int) - (z : Int) = (d : Int)) (hr : ∀ r ∈ ts, r.length ≤ 100) (ht : ts.length ≤ 10000) (ho : o = .va (.lst (ts.map tD)) ∨ o = .ow (.lst (ts.map tD))) :
    ∃ S', l_law_shuffles_3 [.va (.int w), .va (.int a), .va (.int z), o, k, x5, x6, x7, x8] = .ok .nx S' ∧
      ∃ x5 x6 x7 x8, S' = [.va (.int w), .va (.int a), .va (.int z), .va (.lst ((ts.flatMap fun r => (step3 r).filter (okB a z d)).map tD)), k, x5, x6, x7, x8] := by
  have szl := szl
  obtain ⟨S', k1, x6', x7', x8', e⟩ := for_fold (tg := pTg (.nm 6)) (b := l_law_shuffles_2) (fun acc S => ∃ x6 x7 x8, S = [.va (.int w), .va (.int a), .va (.int z), .va (.lst (ts.map tD)), k, .ow (.lst (acc.map tD)), x6, x7, x8]) tD
    (fun acc r => acc ++ (step3 r).filter (okB a z d)) [] ts (fun pre r post hp S ⟨x6, x7, x8, hS⟩ => by
    subst hS
    have hpl : pre.length ≤ ts.length := by rw [hp]; simp
    have hrl := hr r (by rw [hp]; simp)
    have hz : (pre.flatMap fun r => (step3 r).filter (okB a z d)).length ≤ 3 * pre.length := len_flat fun a _ => List.length_filter_le _ _
    rw [Q70.fold_fm, List.nil_append]
    obtain ⟨S', k1, x7', x8', rfl⟩ := sh_row2 (o3 := .va (.lst (ts.map tD))) (k := k) (x7 := x7) (x8 := x8) (acc := pre.flatMap fun r => (step3 r).filter (okB a z d)) (r := r) hd hrl (by omega)
    exact ⟨[.va (.int w), .va (.int a), .va (.int z), .va (.lst (ts.map tD)), k, .ow (.lst ((pre.flatMap fun r => (step3 r).filter (okB a z d)).map tD)), .va (tD r), x7, x8], by simp, _, .inl k1, _, _, _, rfl⟩)
    (S := [.va (.int w), .va (.int a), .va (.int z), .va (.lst (ts.map tD)), k, .ow (.lst []), x6, x7, x8]) ⟨x6, x7, x8, rfl⟩
  rw [Q70.fold_fm, List.nil_append] at e
  subst e
  generalize (ts.flatMap fun r => (step3 r).filter (okB a z d)).map tD = nl at *
  refine ⟨[.va (.int w), .va (.int a), .va (.int z), .va (.lst nl), k, .va (.lst nl), x6', x7', x8'], ?_, _, _, _, _, rfl⟩
  rcases ho with rfl | rfl <;> simp [l_law_shuffles_3, k1]
theorem e_shuffles {w a z d : Nat} (hw : w ≤ 8) (hd : (w : Int) - (a : Int) - (z : Int) = (d : Int)) : p_law_shuffles [.int w, .int a, .int z] = .ok (.lst ((shL a z d w).map tD)) := by
  have h3 : 3 ^ w ≤ 6561 := Nat.le_trans (Nat.pow_le_pow_right (by decide) hw) (by decide)
  have hf : ∀ (l : List Nat) (j : Nat), l.foldl (fun ts (_ : Nat) => ts.flatMap fun r => (step3 r).filter (okB a z d)) (shL a z d j) = shL a z d (j + l.length) := by
    intro l
    induction l with
    | nil => intro j; rfl
    | cons x l ih =>
      intro j
      rw [List.foldl_cons, shL_step, ih (j + 1), List.length_cons]
      congr 1
      omega
  have h00 : shL a z d 0 = [[]] := by
    have : okB a z d [] = true := by
      unfold okB
      have e1 : on [] = 0 := rfl
      have e2 : ze [] = 0 := rfl
      have e3 : dashes [] = 0 := rfl
      rw [e1, e2, e3]
      simp
    unfold shL allT
    rw [List.filter_cons_of_pos this]
    rfl
  obtain ⟨S', k1, o, k, x5, x6, x7, x8, ho, e⟩ := for_fold (tg := pTg (.nm 4)) (b := l_law_shuffles_3) (fun ts S => ∃ o k x5 x6 x7 x8, (o = .va (.lst (ts.map tD)) ∨ o = .ow (.lst (ts.map tD))) ∧ S = [.va (.int w), .va (.int a), .va (.int z), o, k, x5, x6, x7, x8])
    (fun i : Nat => D.int (0 + (i : Int))) (fun ts (_ : Nat) => ts.flatMap fun r => (step3 r).filter (okB a z d)) (shL a z d 0) (List.range w) (fun pre i post hp S ⟨o, k, x5, x6, x7, x8, ho, hS⟩ => by
    subst hS
    have hpl : pre.length ≤ w := by
      have := congrArg List.length hp
      simp only [List.length_range, List.length_append] at this
      omega
    rw [hf, Nat.zero_add] at ho ⊢
    have hle : (shL a z d pre.length).length ≤ 10000 := by
      refine Nat.le_trans (List.length_filter_le _ _) ?_
      rw [Q70.len_allT]
      have : 3 ^ pre.length ≤ 3 ^ w := Nat.pow_le_pow_right (by decide) hpl
      omega
    have hrl : ∀ r ∈ shL a z d pre.length, r.length ≤ 100 := fun r hr => by
      have := Q70.mem_allT.mp (List.mem_filter.mp hr).1
      omega
    obtain ⟨S', k1, y5, y6, y7, y8, rfl⟩ := sh_row3 (w := w) (a := a) (z := z) (d := d) (o := o) (k := .va (.int (i : Int))) (x5 := x5) (x6 := x6) (x7 := x7) (x8 := x8) (ts := shL a z d pre.length) hd hrl hle ho
    exact ⟨[.va (.int w), .va (.int a), .va (.int z), o, .va (.int (i : Int)), x5, x6, x7, x8], by simp, _, .inl k1, _, _, _, _, _, _, .inl rfl, rfl⟩)
    (S := [.va (.int w), .va (.int a), .va (.int z), .ow (.lst [.str []]), .un, .un, .un, .un, .un]) ⟨_, .un, .un, .un, .un, .un, .inr (by rw [h00]; rfl), rfl⟩
  rw [hf, List.length_range, Nat.zero_add] at ho
  subst e
  have hr := range1_nat (n := w) (by omega)
  have k1 : forGo (pTg (.nm 4)) l_law_shuffles_3 (rgD 0 w) [.va (.int w), .va (.int a), .va (.int z), .ow (.lst [.str []]), .un, .un, .un, .un, .un] = .ok .nx [.va (.int w), .va (.int a), .va (.int z), o, k, x5, x6, x7, x8] := k1
  have e0 : startS 9 [.int w, .int a, .int z] = [.va (.int w), .va (.int a), .va (.int z), .un, .un, .un, .un, .un, .un] := rfl
  generalize (shL a z d w).map tD = nl at *
  unfold p_law_shuffles runF m_law_shuffles
  rw [e0]
  rcases ho with rfl | rfl <;> simp [hr, k1]
def cntL (w low high : Nat) : List Nat := (List.range (2 ^ w)).filter fun n => decide (low ≤ (wts w).getD n 0) && decide ((wts w).getD n 0 ≤ high)
theorem good_cnt {w low high : Nat} (hw : w ≤ 8) (hh : low ≤ high) (h2 : high ≤ w) : Good w (cntL w low high) (shL low (w - high) (high - low) w) := by
  refine ⟨hw, List.Pairwise.filter _ List.nodup_range, fun n hn => List.mem_range.mp (List.mem_filter.mp hn).1, List.Pairwise.filter _ (Q70.allT_nodup w), fun r => ?_⟩
  have hP : ∀ b : List Bool, b.length = w → (Q70.bv b ∈ cntL w low high ↔ low ≤ Q70.cnt b ∧ Q70.cnt b ≤ high) := fun b hb => by
    have hlt := Q70.bv_lt b
    rw [hb] at hlt
    have hg := Q70.wts_get w b hb
    unfold cntL
    rw [List.mem_filter, List.mem_range, List.getD_eq_getElem?_getD, hg]
    simp [hlt]
  unfold shL
  rw [List.mem_filter, Q70.mem_allT]
  have ca := Q70.cnt_all r
  have hok : okB low (w - high) (high - low) r = true ↔ on r ≤ low ∧ ze r ≤ w - high ∧ dashes r ≤ high - low := by
    unfold okB
    simp
  constructor
  · rintro ⟨h1, h3⟩
    have := hok.mp h3
    exact ⟨h1, (Q70.prime_cnt hh h2 hP h1).mpr (by omega)⟩
  · rintro ⟨h1, h3⟩
    have := (Q70.prime_cnt hh h2 hP h1).mp h3
    exact ⟨h1, hok.mpr (by omega)⟩
end MP

/-! P70y: form 3's case. -/
namespace MP
open PySem PySem.Spec PyProof.Rows L2
open Q70 (Sg vl mk cov cov1 allT ds wts on ze dashes)
theorem e_counted {M : List Nat} {w : Nat} (hM : 2 ≤ M.length) (h8 : w ≤ 8) : ∃ os T, Good w os T ∧ p_law_counted [.lst (M.map nD), .int w] = .ok (.tup [.lst (os.map nD), .lst (T.map tD)]) := by
  have szl := szl
  have pw : 2 ^ w ≤ 256 := Nat.le_trans (Nat.pow_le_pow_right (by decide) h8) (by decide)
  have hI0 : L2.atI (M.map nD) 0 = some (nD (M[0]'(by omega))) := ix_nD (k := 0) (by omega)
  have hI1 : L2.atI (M.map nD) 1 = some (nD (M[1]'(by omega))) := ix_nD (k := 1) (by omega)
  generalize M[0]'(by omega) = m0 at hI0
  generalize M[1]'(by omega) = m1 at hI1
  obtain ⟨low, hlo⟩ : ∃ low, low = m0 % (w + 1) := ⟨_, rfl⟩
  have lw : low ≤ w := by
    have := Nat.mod_lt m0 (show 0 < w + 1 by omega)
    omega
  have hlo' : (m0 : Int) % ((w : Int) + 1) = (low : Int) := by rw [hlo]; simp
  obtain ⟨high, hhi⟩ : ∃ high, high = low + m1 % (w + 1 - low) := ⟨_, rfl⟩
  have hmm := Nat.mod_lt m1 (show 0 < w + 1 - low by omega)
  have hw2 : high ≤ w := by omega
  have hh : low ≤ high := by omega
  have hsub : (w : Int) + 1 - (low : Int) = ((w + 1 - low : Nat) : Int) := by omega
  have hhi' : (low : Int) + (m1 : Int) % ((w : Int) + 1 - (low : Int)) = (high : Int) := by
    rw [hsub, hhi, Int.natCast_add, Int.natCast_emod]
  have pos1 : (0 : Int) < (w : Int) + 1 := by omega
  have pos2 : (0 : Int) < (w : Int) + 1 - (low : Int) := by omega
  have pos3 : (low : Int) < (w : Int) + 1 := by omega
  have hwh : (w : Int) - (high : Int) = ((w - high : Nat) : Int) := by omega
  have hsh := e_shuffles (w := w) (a := low) (z := w - high) (d := high - low) h8 (by omega)
  rw [← hwh] at hsh
  have hwt := e_weights (w := w) h8
  have hlw : ((wts w).map nD).length = 2 ^ w := by rw [List.length_map, Q70.wts_len]
  have hrw : range1D [.int (((wts w).map nD).length : Nat)] = some (rgD 0 (2 ^ w)) := by
    rw [hlw]
    exact range1_nat (n := 2 ^ w) (Nat.lt_of_le_of_lt pw (by decide))
  have lc : eLc [6] (iRg1 (eCal lenB [(oVar 4)])) (.nm 6) (MP.tCh (oVar 2) [(leD, (eBin ixA (oVar 4) (oVar 6))), (leD, (oVar 3))]) (eVar 6) [.va (.lst (M.map nD)), .va (.int w), .va (.int low), .va (.int high), .va (.lst ((wts w).map nD)), .un, .un]
      = .ok (.lst ((cntL w low high).map nD)) [.va (.lst (M.map nD)), .va (.int w), .va (.int low), .va (.int high), .va (.lst ((wts w).map nD)), .un, .un] := by
    have e : (cntL w low high).map nD = (rgD 0 (2 ^ w)).filterMap (fun d => match d with | .int i => if (decide (low ≤ (wts w).getD i.toNat 0) && decide ((wts w).getD i.toNat 0 ≤ high)) = true then some d else none | _ => none) := by
      unfold rgD cntL
      generalize List.range (2 ^ w) = l
      induction l with
      | nil => rfl
      | cons k l ih =>
        rw [List.map_cons, List.filterMap_cons, ← ih, List.filter_cons]
        have ek : (0 + (k : Int)).toNat = k := by omega
        simp only [ek]
        by_cases q : (decide (low ≤ (wts w).getD k 0) && decide ((wts w).getD k 0 ≤ high)) = true
        · simp only [q, if_true]
          rw [List.map_cons]
          congr 1
          show nD _ = _
          unfold nD
          rw [Int.zero_add]
        · simp only [q, if_false]
          rfl
    rw [e]
    refine ev_lc (ds := rgD 0 (2 ^ w)) _ ?_ rfl (by rw [rgD_length]; omega) fun d hd => ?_
    · generalize (wts w).map nD = wl at *
      simp [hrw]
    · obtain ⟨i, hi, rfl⟩ := rgD_mem hd
      have hlt : i < (wts w).length := by rw [Q70.wts_len]; exact hi
      have hI := ix_nD (N := wts w) (k := i) hlt
      have hg : (wts w).getD i 0 = (wts w)[i]'hlt := by
        rw [List.getD_eq_getElem?_getD, List.getElem?_eq_getElem hlt]
        rfl
      have ek : (0 + (i : Int)).toNat = i := by omega
      refine ⟨[.va (.lst (M.map nD)), .va (.int w), .va (.int low), .va (.int high), .va (.lst ((wts w).map nD)), .un, .va (nD i)], ?_, rfl⟩
      unfold lcTurn
      simp only [ek, hg]
      generalize (wts w).map nD = wl at *
      generalize M.map nD = nl at *
      generalize (wts w)[i]'hlt = z at *
      by_cases q1 : low ≤ z
      · by_cases q2 : z ≤ high
        · simp [hI, q1, q2]
        · simp [hI, q1, q2]
      · simp [hI, q1]
  refine ⟨_, _, good_cnt h8 hh hw2, ?_⟩
  have e0 : startS 7 [.lst (M.map nD), .int w] = [.va (.lst (M.map nD)), .va (.int w), .un, .un, .un, .un, .un] := rfl
  clear hlo hhi hsub hwh
  generalize (shL low (w - high) (high - low) w).map tD = tl at *
  generalize (cntL w low high).map nD = ol at *
  generalize (wts w).map nD = wl at *
  generalize M.map nD = nl at *
  unfold p_law_counted runF m_law_counted
  rw [e0]
  simp [hI0, pos1, hlo', hI1, pos3, hhi', hwt, lc, hsh]
theorem case_3 {N : List Nat} (hN : N.length = 67) : CaseOk N 3 := by
  have hI0 : L2.atI (N.map nD) 0 = some (nD (N[0]'(by omega))) := ix_nD (k := 0) (by omega)
  obtain ⟨n0, hn0⟩ : ∃ n0, n0 = N[0]'(by omega) := ⟨_, rfl⟩
  rw [← hn0] at hI0
  obtain ⟨w, hw⟩ : ∃ w : Nat, w = 6 + n0 % 3 := ⟨_, rfl⟩
  have hw' : 6 + (n0 : Int) % 3 = (w : Int) := by omega
  obtain ⟨os, T, G, h⟩ := e_counted (M := N.drop 1) (w := w) (by rw [List.length_drop]; omega) (by omega)
  refine ⟨w, os, T, false, G, ?_⟩
  have e0 : startS 12 [.lst (N.map nD), .int (3 : Nat)] = [.va (.lst (N.map nD)), .va (.int 3), .un, .un, .un, .un, .un, .un, .un, .un, .un, .un] := rfl
  have hsl : cut (N.map nD) (some 1) none = (N.drop 1).map nD := cu_from N 1
  have htl : tlD false T = .lst (T.map tD) := rfl
  rw [htl]
  clear hn0 hw
  generalize N.map nD = nl at *
  generalize (N.drop 1).map nD = nl1 at *
  generalize os.map nD = ol at *
  generalize T.map tD = tl at *
  unfold p_law_case runF m_law_case
  rw [e0]
  simp [hI0, hsl, hw', h]
end MP

/-! P70z: cubes far from one another, with no program in sight. -/
namespace Q70
def opp (c d : List Sg) (i : Nat) : Prop := ∃ x : Bool, c[i]? = some (some x) ∧ d[i]? = some (some (!x))
def far (C : List (List Sg)) : Prop := ∀ c ∈ C, ∀ d ∈ C, c ≠ d → ∃ i j, i ≠ j ∧ opp c d i ∧ opp c d j
theorem far_sub {C : List (List Sg)} {w : Nat} {P : Nat → Prop} (hC : ∀ c ∈ C, c.length = w) (hf : far C) (hP : ∀ n, P n ↔ ∃ c ∈ C, n ∈ cov c) : ∀ (k : Nat) {r : List Sg}, dashes r = k → r.length = w → impl P r → ∃ c ∈ C, ∀ b, mt r b → mt c b
  | 0, r, hk, hr, hi => by
    obtain ⟨b, rfl, hb⟩ := dashes_zero hk
    have hm : mt (ofBits b) b := mt_ofBits.mpr rfl
    obtain ⟨c, hc, hn⟩ := (hP _).mp (hi b hm)
    have hl : b.length = w := by rw [hb, hr]
    refine ⟨c, hc, fun b' hb' => ?_⟩
    rw [mt_ofBits.mp hb']
    exact (cov_iff (by rw [hl, hC c hc])).mp hn
  | k + 1, r, hk, hr, hi => by
    obtain ⟨i, hil, hn⟩ := dashes_pos (r := r) (by omega)
    have hq := (impl_set hn).mp hi
    have d1 : ∀ y : Bool, dashes (r.set i (some y)) = k := fun y => by
      have e : dashes ((r.set i (some y)).set i none) = dashes (r.set i (some y)) + 1 := dashes_set (x := y) (set_get hil)
      rw [set_back hn] at e
      omega
    obtain ⟨c, hc, h1⟩ := far_sub hC hf hP k (d1 false) (by simpa using hr) hq.1
    obtain ⟨d, hd, h2⟩ := far_sub hC hf hP k (d1 true) (by simpa using hr) hq.2
    by_cases e : c = d
    · subst e
      refine ⟨c, hc, fun b hb => ?_⟩
      rcases (mt_set hn).mp hb with h | h
      · exact h1 b h
      · exact h2 b h
    · exfalso
      obtain ⟨p, q, hpq, ⟨x, x1, x2⟩, ⟨y, y1, y2⟩⟩ := hf c hc d hd e
      obtain ⟨b, hb⟩ := mt_ex (r.set i (some false))
      have hbr : mt r b := (mt_set hn).mpr (.inl hb)
      have hb2 : mt (r.set i (some true)) (b.set i true) := by
        refine mt_of (by rw [List.length_set, List.length_set]; exact mt_length hbr) fun j z ez => ?_
        by_cases hj : i = j
        · subst hj
          rw [List.getElem?_set_self hil] at ez
          cases ez
          rw [List.getElem?_set_self (by rw [mt_length hbr]; exact hil)]
        · rw [List.getElem?_set_ne hj] at ez ⊢
          exact mt_get hbr ez
      have m1 := h1 b hb
      have m2 := h2 _ hb2
      have key : ∀ j z, j ≠ i → c[j]? = some (some z) → d[j]? = some (some (!z)) → False := fun j z hj e1 e2 => by
        have g1 := mt_get m1 e1
        have g2 := mt_get m2 e2
        rw [List.getElem?_set_ne (Ne.symm hj), g1] at g2
        cases z <;> cases g2
      by_cases hp : p = i
      · exact key q y (fun z => hpq (by rw [hp, z])) y1 y2
      · exact key p x hp x1 x2
theorem sub_get {r c : List Sg} (hl : r.length = c.length) (h : ∀ b, mt r b → mt c b) {i : Nat} {x : Bool} (e : c[i]? = some (some x)) : r[i]? = some (some x) := by
  have hi : i < r.length := by
    have := (List.getElem?_eq_some_iff.mp e).1
    omega
  obtain ⟨s, hs⟩ : ∃ s, r[i]? = some s := ⟨r[i], List.getElem?_eq_getElem hi⟩
  obtain ⟨b, hb⟩ := mt_ex r
  rcases s with _ | y
  · have := mt_get (h _ (mt_flip hb hs (!x))) e
    rw [List.getElem?_set_self (by rw [mt_length hb]; exact hi)] at this
    cases x <;> cases this
  · have g1 := mt_get (h b hb) e
    have g2 := mt_get hb hs
    rw [g1] at g2
    cases g2
    exact hs
theorem sub_of {r c : List Sg} (hl : r.length = c.length) (h : ∀ (i : Nat) (x : Bool), c[i]? = some (some x) → r[i]? = some (some x)) : ∀ b, mt r b → mt c b := fun b hb =>
  mt_of (by rw [mt_length hb, hl]) fun i x e => mt_get hb (h i x e)
theorem prime_far {C : List (List Sg)} {w : Nat} {P : Nat → Prop} (hC : ∀ c ∈ C, c.length = w) (hf : far C) (hP : ∀ n, P n ↔ ∃ c ∈ C, n ∈ cov c) {r : List Sg} (hr : r.length = w) : prime P r ↔ r ∈ C := by
  have up : ∀ r : List Sg, r.length = w → ∀ c ∈ C, (∀ b, mt r b → mt c b) → impl P r := fun r hr c hc h b hb =>
    (hP _).mpr ⟨c, hc, (cov_iff (by rw [mt_length hb, hr, hC c hc])).mpr (h b hb)⟩
  constructor
  · rintro ⟨h1, h2⟩
    obtain ⟨c, hc, h⟩ := far_sub hC hf hP _ rfl hr h1
    have hl : r.length = c.length := by rw [hr, hC c hc]
    have : r = c := by
      apply List.ext_getElem?
      intro i
      by_cases hi : i < r.length
      · obtain ⟨s, hs⟩ : ∃ s, c[i]? = some s := ⟨c[i]'(by omega), List.getElem?_eq_getElem (by omega)⟩
        rcases s with _ | x
        · rw [hs]
          refine Classical.byContradiction fun z => h2 i hi z (up _ (by simpa using hr) c hc (sub_of (by simpa using hl) fun j x e => ?_))
          have hj : i ≠ j := by
            intro z
            rw [z, e] at hs
            cases hs
          rw [List.getElem?_set_ne hj]
          exact sub_get hl h e
        · rw [hs, sub_get hl h hs]
      · rw [List.getElem?_eq_none (by omega), List.getElem?_eq_none (by omega)]
    rw [this]
    exact hc
  · intro hc
    refine ⟨up r hr r hc fun b hb => hb, fun i hi hn z => ?_⟩
    obtain ⟨d, hd, h⟩ := far_sub hC hf hP _ rfl (by rw [List.length_set]; exact hr) z
    have hl : (r.set i none).length = d.length := by rw [List.length_set, hr, hC d hd]
    have e : r = d := by
      refine Classical.byContradiction fun ne => ?_
      obtain ⟨p, q, hpq, ⟨x, x1, x2⟩, ⟨y, y1, y2⟩⟩ := hf r hc d hd ne
      have key : ∀ j z, r[j]? = some (some z) → d[j]? = some (some (!z)) → False := fun j z e1 e2 => by
        have g := sub_get hl h e2
        by_cases hj : i = j
        · subst hj
          rw [List.getElem?_set_self hi] at g
          cases g
        · rw [List.getElem?_set_ne hj, e1] at g
          cases z <;> cases g
      exact key p x x1 x2
    subst e
    obtain ⟨s, hs⟩ : ∃ s, r[i]? = some s := ⟨r[i], List.getElem?_eq_getElem hi⟩
    rcases s with _ | x
    · exact hn hs
    · have g := sub_get hl h hs
      rw [List.getElem?_set_self hi] at g
      cases g
end Q70

/-! P70A: form 4, read. -/
namespace MP
open PySem PySem.Spec PyProof.Rows L2
open Q70 (Sg vl mk cov cov1)
def base3 : Nat → List Sg
  | 0 => [some false, some false, some false]
  | 1 => [some false, some true, some true]
  | 2 => [some true, some false, some true]
  | _ => [some true, some true, some false]
def tl4 (M : List Nat) (k j : Nat) : Sg := sg3 (M.getD (2 + 5 * k + j) 0 % 3)
def txt4 (M : List Nat) (w k : Nat) : List Sg := base3 k ++ (List.range (w - 3)).map (tl4 M k)
def cube4 (M : List Nat) (w s k : Nat) : List Sg := ((txt4 M w k).drop s ++ (txt4 M w k).take s).reverse
theorem base3_len (k : Nat) : (base3 k).length = 3 := by
  unfold base3
  split <;> rfl
theorem txt4_len {M : List Nat} {w k : Nat} (hw : 3 ≤ w) : (txt4 M w k).length = w := by
  unfold txt4
  rw [List.length_append, base3_len, List.length_map, List.length_range]
  omega
theorem cube4_len {M : List Nat} {w s k : Nat} (hw : 3 ≤ w) : (cube4 M w s k).length = w := by
  unfold cube4
  rw [List.length_reverse, List.length_append, List.length_drop, List.length_take, txt4_len hw]
  omega
theorem st_000 : (Str.ofString "000").cps.toList = [48, 48, 48] := by decide
theorem st_011 : (Str.ofString "011").cps.toList = [48, 49, 49] := by decide
theorem st_101 : (Str.ofString "101").cps.toList = [49, 48, 49] := by decide
theorem st_110 : (Str.ofString "110").cps.toList = [49, 49, 48] := by decide
theorem lst4 : lstD [D.str [48, 48, 48], .str [48, 49, 49], .str [49, 48, 49], .str [49, 49, 48]] = some (.lst [D.str [48, 48, 48], .str [48, 49, 49], .str [49, 48, 49], .str [49, 49, 48]]) := rfl
theorem base_at {k : Nat} (hk : k < 4) : L2.atI [D.str [48, 48, 48], .str [48, 49, 49], .str [49, 48, 49], .str [49, 49, 48]] (k : Int) = some (.str ((base3 k).map sgn)) := by
  have : k = 0 ∨ k = 1 ∨ k = 2 ∨ k = 3 := by omega
  rcases this with rfl | rfl | rfl | rfl <;> rfl
theorem far_row1 {M : List Nat} {w s k j : Nat} {o3 o4 x7 : Sl} {t : List Sg} (hk : k < 4) (hj : j < 5) (hM : M.length = 66) (ht : t.length ≤ 100) :
    l_law_far_cubes_1 [.va (.lst (M.map nD)), .va (.int w), .va (.int s), o3, o4, .va (.int k), .va (.str (t.map sgn)), .va (.int j)] =
      .ok .nx [.va (.lst (M.map nD)), .va (.int w), .va (.int s), o3, o4, .va (.int k), .va (.str ((t ++ [tl4 M k j]).map sgn)), .va (.int j)] := by
  have szl := szl
  have hI := ix_nD (N := M) (k := 2 + 5 * k + j) (by omega)
  have hg : M.getD (2 + 5 * k + j) 0 = M[2 + 5 * k + j]'(by omega) := by
    rw [List.getD_eq_getElem?_getD, List.getElem?_eq_getElem (by omega)]
    rfl
  have hs := sg3_at (M[2 + 5 * k + j]'(by omega))
  have ei : ((2 + 5 * k + j : Nat) : Int) = 2 + 5 * (k : Int) + (j : Int) := by omega
  rw [ei] at hI
  have s5 : smallI 5 = true := by decide
  have hl : (t.map sgn).length + 1 ≤ sizeLine := by rw [List.length_map]; omega
  rw [List.map_append]
  unfold tl4
  rw [hg]
  generalize M.map nD = nl at *
  generalize M[2 + 5 * k + j]'(by omega) = z at *
  generalize t.map sgn = tt at *
  simp [l_law_far_cubes_1, s5, hI, lst3, hs, hl]
theorem far_row2 {M : List Nat} {w s k : Nat} {T : List (List Sg)} {os : List Nat} {x6 x7 : Sl} (hw : 3 ≤ w) (h8 : w ≤ 8) (hs : s < w) (hk : k < 4) (hM : M.length = 66) (hT : T.length ≤ 1000) (hos : os.length ≤ 10000) :
    ∃ S', l_law_far_cubes_2 [.va (.lst (M.map nD)), .va (.int w), .va (.int s), .ow (.lst (T.map tD)), .ow (.lst (os.map nD)), .va (.int k), x6, x7] = .ok .nx S' ∧
      ∃ x6 x7, S' = [.va (.lst (M.map nD)), .va (.int w), .va (.int s), .ow (.lst ((T ++ [cube4 M w s k]).map tD)), .ow (.lst ((os ++ cov (cube4 M w s k)).map nD)), .va (.int k), x6, x7] := by
  have szl := szl
  have hrg := range1_nat (n := w - 3) (by omega)
  have hw3 : (w : Int) - 3 = ((w - 3 : Nat) : Int) := by omega
  rw [← hw3] at hrg
  obtain ⟨S', k1, x7', e⟩ := for_fold (tg := pTg (.nm 7)) (b := l_law_far_cubes_1) (fun t S => ∃ x7, S = [.va (.lst (M.map nD)), .va (.int w), .va (.int s), .ow (.lst (T.map tD)), .ow (.lst (os.map nD)), .va (.int k), .va (.str (t.map sgn)), x7])
    (fun i : Nat => D.int (0 + (i : Int))) (fun t j => t ++ [tl4 M k j]) (base3 k) (List.range (w - 3)) (fun pre j post hp S ⟨x7, hS⟩ => by
    subst hS
    have hj : j < w - 3 := List.mem_range.mp (by rw [hp]; simp)
    have hpl : pre.length ≤ w - 3 := by
      have := congrArg List.length hp
      simp only [List.length_range, List.length_append] at this
      omega
    have hz : (pre.flatMap fun j => [tl4 M k j]).length ≤ 1 * pre.length := len_flat fun a _ => by simp
    rw [Q70.fold_fm]
    have hb := base3_len k
    have := far_row1 (M := M) (w := w) (s := s) (k := k) (j := j) (o3 := .ow (.lst (T.map tD))) (o4 := .ow (.lst (os.map nD))) (x7 := x7) (t := base3 k ++ pre.flatMap fun j => [tl4 M k j]) hk (by omega) hM (by rw [List.length_append]; omega)
    exact ⟨[.va (.lst (M.map nD)), .va (.int w), .va (.int s), .ow (.lst (T.map tD)), .ow (.lst (os.map nD)), .va (.int k), .va (.str ((base3 k ++ pre.flatMap fun j => [tl4 M k j]).map sgn)), .va (.int j)], by simp, _, .inl this, _, rfl⟩)
    (S := [.va (.lst (M.map nD)), .va (.int w), .va (.int s), .ow (.lst (T.map tD)), .ow (.lst (os.map nD)), .va (.int k), .va (.str ((base3 k).map sgn)), x7]) ⟨x7, rfl⟩
  rw [Q70.fold_fm] at e
  have et : base3 k ++ (List.range (w - 3)).flatMap (fun j => [tl4 M k j]) = txt4 M w k := by
    unfold txt4
    congr 1
    generalize List.range (w - 3) = l
    induction l with
    | nil => rfl
    | cons a l ih => rw [List.flatMap_cons, ih]; rfl
  rw [et] at e
  subst e
  have k1 : forGo (pTg (.nm 7)) l_law_far_cubes_1 (rgD 0 (w - 3)) [.va (.lst (M.map nD)), .va (.int w), .va (.int s), .ow (.lst (T.map tD)), .ow (.lst (os.map nD)), .va (.int k), .va (.str ((base3 k).map sgn)), x7] = _ := k1
  have hlen := txt4_len (M := M) (w := w) (k := k) hw
  have hl : ((txt4 M w k).map sgn).length ≤ sizeLine := by rw [List.length_map, hlen]; omega
  have hc1 : slD (some (s : Int)) none (.str ((txt4 M w k).map sgn)) = some (.str (((txt4 M w k).drop s).map sgn)) := by
    have e1 : slD (some (s : Int)) none (.str ((txt4 M w k).map sgn)) = if ((txt4 M w k).map sgn).length ≤ sizeLine then some (.str (cut ((txt4 M w k).map sgn) (some (s : Int)) none)) else none := rfl
    rw [e1, if_pos hl, cut_map]
    unfold cut
    rw [HT.sIx_none, HT.sIx_nat, Nat.min_eq_left (by omega), List.take_of_length_le (by rw [List.length_drop]; exact Nat.le_refl _)]
  have hc2 : slD none (some (s : Int)) (.str ((txt4 M w k).map sgn)) = some (.str (((txt4 M w k).take s).map sgn)) := by
    have e1 : slD none (some (s : Int)) (.str ((txt4 M w k).map sgn)) = if ((txt4 M w k).map sgn).length ≤ sizeLine then some (.str (cut ((txt4 M w k).map sgn) none (some (s : Int)))) else none := rfl
    rw [e1, if_pos hl, cut_map]
    unfold cut
    rw [HT.sIx_none, HT.sIx_nat, List.drop_zero, Nat.min_eq_left (by omega)]
    rfl
  have hcat : addD (.str (((txt4 M w k).drop s).map sgn)) (.str (((txt4 M w k).take s).map sgn)) = some (.str (tx (cube4 M w s k))) := by
    rw [addD_str, if_pos (by rw [List.length_map, List.length_map, List.length_drop, List.length_take, hlen]; omega), ← List.map_append]
    unfold tx cube4
    rw [List.reverse_reverse]
  have hcl := cube4_len (M := M) (w := w) (s := s) (k := k) hw
  have hcv := e_covered (r := cube4 M w s k) (by omega)
  have hcvl := Q70.len_cov (cube4 M w s k)
  rw [hcl] at hcvl
  have pw : 2 ^ w ≤ 256 := Nat.le_trans (Nat.pow_le_pow_right (by decide) h8) (by decide)
  have hal : (os.map nD).length + ((cov (cube4 M w s k)).map nD).length ≤ sizeLine := by rw [List.length_map, List.length_map]; omega
  have hTl : (T.map tD).length < sizeLine := by rw [List.length_map]; omega
  have hba := base_at hk
  refine ⟨[.va (.lst (M.map nD)), .va (.int w), .va (.int s), .ow (.lst ((T ++ [cube4 M w s k]).map tD)), .ow (.lst ((os ++ cov (cube4 M w s k)).map nD)), .va (.int k), .va (tD (cube4 M w s k)), x7'], ?_, _, _, rfl⟩
  have etD : [cube4 M w s k].map tD = [.str (tx (cube4 M w s k))] := rfl
  rw [List.map_append, List.map_append, etD]
  show _ = Ou.ok Fl.nx [_, _, _, _, _, _, .va (.str (tx (cube4 M w s k))), _]
  generalize ((txt4 M w k).drop s).map sgn = t1 at *
  generalize ((txt4 M w k).take s).map sgn = t2 at *
  generalize (txt4 M w k).map sgn = t0 at *
  generalize (cov (cube4 M w s k)).map nD = cl at *
  generalize tx (cube4 M w s k) = ct at *
  generalize M.map nD = nl at *
  generalize os.map nD = ol at *
  generalize T.map tD = tl at *
  generalize (base3 k).map sgn = b3 at *
  unfold l_law_far_cubes_2
  simp [st_000, st_011, st_101, st_110, lst4, hba, hrg, k1, hc1, hc2, hcat, hcv, hal, hTl]
end MP

/-! P70B: form 4, and the law. -/
namespace MP
open PySem PySem.Spec PyProof.Rows L2
open Q70 (Sg vl mk cov cov1)
def ix4 (w s p : Nat) : Nat := if p < s then w - s + p else p - s
theorem cube4_get {M : List Nat} {w s k p : Nat} (hw : 3 ≤ w) (hs : s < w) (hp : p < 3) : (cube4 M w s k)[w - 1 - ix4 w s p]? = (base3 k)[p]? := by
  have hlen := txt4_len (M := M) (w := w) (k := k) hw
  have hix : ix4 w s p < w := by
    unfold ix4
    split <;> omega
  have hrl : ((txt4 M w k).drop s ++ (txt4 M w k).take s).length = w := by
    rw [List.length_append, List.length_drop, List.length_take, hlen]
    omega
  unfold cube4
  rw [List.getElem?_reverse (by omega), hrl]
  have e : w - 1 - (w - 1 - ix4 w s p) = ix4 w s p := by omega
  rw [e]
  have hb : (txt4 M w k)[p]? = (base3 k)[p]? := by
    unfold txt4
    rw [List.getElem?_append_left (by rw [base3_len]; exact hp)]
  rw [← hb]
  unfold ix4
  by_cases q : p < s
  · rw [if_pos q, List.getElem?_append_right (by rw [List.length_drop, hlen]; omega), List.length_drop, hlen, Nat.add_sub_cancel_left, List.getElem?_take_of_lt q]
  · rw [if_neg q, List.getElem?_append_left (by rw [List.length_drop, hlen]; omega), List.getElem?_drop]
    congr 1
    omega
theorem base_opp : ∀ k k' : Fin 4, k ≠ k' → ∃ p q : Fin 3, p ≠ q ∧ (∃ x : Bool, (base3 k.val)[p.val]? = some (some x) ∧ (base3 k'.val)[p.val]? = some (some (!x))) ∧ ∃ x : Bool, (base3 k.val)[q.val]? = some (some x) ∧ (base3 k'.val)[q.val]? = some (some (!x)) := by decide +kernel
theorem cube4_opp {M : List Nat} {w s k k' : Nat} (hw : 3 ≤ w) (hs : s < w) (hk : k < 4) (hk' : k' < 4) (hne : k ≠ k') : ∃ i j, i ≠ j ∧ Q70.opp (cube4 M w s k) (cube4 M w s k') i ∧ Q70.opp (cube4 M w s k) (cube4 M w s k') j := by
  obtain ⟨p, q, hpq, ⟨x, x1, x2⟩, y, y1, y2⟩ := base_opp ⟨k, hk⟩ ⟨k', hk'⟩ (fun z => hne (by simpa using z))
  have hp := p.isLt
  have hq := q.isLt
  have hv : p.val ≠ q.val := fun z => hpq (Fin.ext z)
  refine ⟨w - 1 - ix4 w s p.val, w - 1 - ix4 w s q.val, ?_, ⟨x, by rw [cube4_get hw hs hp]; exact x1, by rw [cube4_get hw hs hp]; exact x2⟩, ⟨y, by rw [cube4_get hw hs hq]; exact y1, by rw [cube4_get hw hs hq]; exact y2⟩⟩
  unfold ix4
  split <;> split <;> omega
theorem cube4_inj {M : List Nat} {w s k k' : Nat} (hw : 3 ≤ w) (hs : s < w) (hk : k < 4) (hk' : k' < 4) (hne : k ≠ k') : cube4 M w s k ≠ cube4 M w s k' := by
  intro e
  obtain ⟨i, _, _, ⟨x, x1, x2⟩, _⟩ := cube4_opp (M := M) hw hs hk hk' hne
  rw [e, x2] at x1
  cases x <;> cases x1
theorem sortOk_nats {os : List Nat} (h : os.length ≤ 1000000) : sortOk (os.map nD) = true := by
  have hp : ∀ l : List Nat, ∀ a ∈ pys (l.map nD), ∃ s, a = .int s := by
    intro l
    induction l with
    | nil => intro a ha; cases ha
    | cons x l ih =>
      intro a ha
      rw [List.map_cons, pys] at ha
      rcases List.mem_cons.mp ha with rfl | ha
      · exact ⟨_, rfl⟩
      · exact ih a ha
  unfold sortOk
  rw [fits_nD, List.length_map]
  have szl := szl
  simp only [Bool.true_and, Bool.and_eq_true, Bool.or_eq_true, decide_eq_true_eq]
  refine ⟨⟨by omega, ?_⟩, .inr ?_⟩
  · rw [List.all_eq_true]
    intro a ha
    rw [List.all_eq_true]
    intro b hb
    obtain ⟨s, rfl⟩ := hp os a ha
    obtain ⟨t, rfl⟩ := hp os b hb
    rfl
  · rw [List.all_eq_true]
    intro a ha
    obtain ⟨x, _, rfl⟩ := List.mem_map.mp ha
    rfl
def srt (os : List Nat) : List Nat := os.mergeSort fun a b => leD1 (nD a) (nD b)
theorem good_far {M : List Nat} {w s K : Nat} (hw : 3 ≤ w) (h8 : w ≤ 8) (hs : s < w) (hK : K ≤ 4) : Good w (srt ((List.range K).flatMap fun k => cov (cube4 M w s k))) ((List.range K).map (cube4 M w s)) := by
  have hpm : (srt ((List.range K).flatMap fun k => cov (cube4 M w s k))).Perm ((List.range K).flatMap fun k => cov (cube4 M w s k)) := List.mergeSort_perm _ _
  have hcl : ∀ k, (cube4 M w s k).length = w := fun k => cube4_len hw
  have lt4 : ∀ k ∈ List.range K, k < 4 := fun k hk => by
    have := List.mem_range.mp hk
    omega
  refine ⟨h8, ?_, ?_, ?_, ?_⟩
  · rw [hpm.nodup_iff, List.Nodup, List.pairwise_flatMap]
    refine ⟨fun k _ => Q70.cov_nodup _, List.Pairwise.imp ?_ (List.Pairwise.and_mem.mp (List.nodup_range (n := K)))⟩
    rintro k k' ⟨hk, hk', hne⟩ x hx y hy e
    subst e
    obtain ⟨i, _, _, ⟨z, z1, z2⟩, _⟩ := cube4_opp (M := M) hw hs (lt4 k hk) (lt4 k' hk') hne
    obtain ⟨b, b1, b2⟩ := Q70.mem_cov.mp hx
    obtain ⟨c, c1, c2⟩ := Q70.mem_cov.mp hy
    have ebc : b = c := Q70.bv_inj (by rw [Q70.mt_length b1, Q70.mt_length c1, hcl, hcl]) (by rw [b2, c2])
    subst ebc
    have g1 := Q70.mt_get b1 z1
    have g2 := Q70.mt_get c1 z2
    rw [g1] at g2
    cases z <;> cases g2
  · intro n hn
    obtain ⟨k, _, h⟩ := List.mem_flatMap.mp (hpm.mem_iff.mp hn)
    have := Q70.cov_lt h
    rwa [hcl] at this
  · rw [List.Nodup, List.pairwise_map]
    exact List.Pairwise.imp (fun {k k'} ⟨hk, hk', hne⟩ => cube4_inj hw hs (lt4 k hk) (lt4 k' hk') hne) (List.Pairwise.and_mem.mp (List.nodup_range (n := K)))
  · intro r
    have hC : ∀ c ∈ (List.range K).map (cube4 M w s), c.length = w := fun c hc => by
      obtain ⟨k, _, rfl⟩ := List.mem_map.mp hc
      exact hcl k
    have hf : Q70.far ((List.range K).map (cube4 M w s)) := fun c hc d hd hne => by
      obtain ⟨k, hk, rfl⟩ := List.mem_map.mp hc
      obtain ⟨k', hk', rfl⟩ := List.mem_map.mp hd
      exact cube4_opp hw hs (lt4 k hk) (lt4 k' hk') fun z => hne (by rw [z])
    have hP : ∀ n, n ∈ srt ((List.range K).flatMap fun k => cov (cube4 M w s k)) ↔ ∃ c ∈ (List.range K).map (cube4 M w s), n ∈ cov c := fun n => by
      rw [hpm.mem_iff, List.mem_flatMap]
      constructor
      · rintro ⟨k, hk, h⟩
        exact ⟨_, List.mem_map.mpr ⟨k, hk, rfl⟩, h⟩
      · rintro ⟨c, hc, h⟩
        obtain ⟨k, hk, rfl⟩ := List.mem_map.mp hc
        exact ⟨k, hk, h⟩
    constructor
    · intro h
      exact ⟨hC r h, (Q70.prime_far hC hf hP (hC r h)).mpr h⟩
    · rintro ⟨h1, h2⟩
      exact (Q70.prime_far hC hf hP h1).mp h2
theorem e_far_cubes {M : List Nat} {w : Nat} (hM : M.length = 66) (h6 : 6 ≤ w) (h8 : w ≤ 8) : ∃ os T, Good w os T ∧ p_law_far_cubes [.lst (M.map nD), .int w] = .ok (.tup [.lst (os.map nD), .lst (T.map tD)]) := by
  have szl := szl
  have pw : 2 ^ w ≤ 256 := Nat.le_trans (Nat.pow_le_pow_right (by decide) h8) (by decide)
  have hI0 : L2.atI (M.map nD) 0 = some (nD (M[0]'(by omega))) := ix_nD (k := 0) (by omega)
  have hI1 : L2.atI (M.map nD) 1 = some (nD (M[1]'(by omega))) := ix_nD (k := 1) (by omega)
  generalize M[0]'(by omega) = m0 at hI0
  generalize M[1]'(by omega) = m1 at hI1
  obtain ⟨s, hs⟩ : ∃ s, s = m0 % w := ⟨_, rfl⟩
  have hsw : s < w := by
    rw [hs]
    exact Nat.mod_lt _ (by omega)
  have hs' : (m0 : Int) % (w : Int) = (s : Int) := by rw [hs]; simp
  obtain ⟨K, hK⟩ : ∃ K, K = 1 + m1 % 4 := ⟨_, rfl⟩
  have hK' : 1 + (m1 : Int) % 4 = (K : Int) := by omega
  have hK4 : K ≤ 4 := by omega
  have pos : (0 : Int) < (w : Int) := by omega
  have hrg := range1_nat (n := K) (by omega)
  have clen : ∀ l : List Nat, (l.flatMap fun k => cov (cube4 M w s k)).length ≤ 256 * l.length := fun l => len_flat fun k _ => by
    have := Q70.len_cov (cube4 M w s k)
    rw [cube4_len (by omega)] at this
    omega
  obtain ⟨S', k1, x5, x6, x7, e⟩ := for_fold (tg := pTg (.nm 5)) (b := l_law_far_cubes_2) (fun (st : List (List Sg) × List Nat) S => ∃ x5 x6 x7, S = [.va (.lst (M.map nD)), .va (.int w), .va (.int s), .ow (.lst (st.1.map tD)), .ow (.lst (st.2.map nD)), x5, x6, x7])
    (fun i : Nat => D.int (0 + (i : Int))) (fun st k => (st.1 ++ [cube4 M w s k], st.2 ++ cov (cube4 M w s k))) ([], []) (List.range K) (fun pre k post hp S ⟨x5, x6, x7, hS⟩ => by
    subst hS
    have hk : k < K := List.mem_range.mp (by rw [hp]; simp)
    have hpl : pre.length ≤ K := by
      have := congrArg List.length hp
      simp only [List.length_range, List.length_append] at this
      omega
    have hz : ∀ (l : List Nat) (st : List (List Sg) × List Nat), (l.foldl (fun (st : List (List Sg) × List Nat) k => (st.1 ++ [cube4 M w s k], st.2 ++ cov (cube4 M w s k))) st) = (st.1 ++ l.map (cube4 M w s), st.2 ++ l.flatMap fun k => cov (cube4 M w s k)) := by
      intro l
      induction l with
      | nil => intro st; simp
      | cons a l ih => intro st; rw [List.foldl_cons, ih]; simp
    rw [hz]
    have c1 := clen pre
    obtain ⟨S', k1, y6, y7, rfl⟩ := far_row2 (M := M) (w := w) (s := s) (k := k) (T := [] ++ pre.map (cube4 M w s)) (os := [] ++ pre.flatMap fun k => cov (cube4 M w s k)) (x6 := x6) (x7 := x7) (by omega) h8 hsw (by omega) hM (by simp; omega) (by rw [List.nil_append]; omega)
    exact ⟨[.va (.lst (M.map nD)), .va (.int w), .va (.int s), .ow (.lst (([] ++ pre.map (cube4 M w s)).map tD)), .ow (.lst (([] ++ pre.flatMap fun k => cov (cube4 M w s k)).map nD)), .va (.int k), x6, x7], by simp, _, .inl k1, _, _, _, rfl⟩)
    (S := [.va (.lst (M.map nD)), .va (.int w), .va (.int s), .ow (.lst []), .ow (.lst []), .un, .un, .un]) ⟨.un, .un, .un, rfl⟩
  have hz : ∀ (l : List Nat) (st : List (List Sg) × List Nat), (l.foldl (fun (st : List (List Sg) × List Nat) k => (st.1 ++ [cube4 M w s k], st.2 ++ cov (cube4 M w s k))) st) = (st.1 ++ l.map (cube4 M w s), st.2 ++ l.flatMap fun k => cov (cube4 M w s k)) := by
    intro l
    induction l with
    | nil => intro st; simp
    | cons a l ih => intro st; rw [List.foldl_cons, ih]; simp
  rw [hz] at e
  simp only [List.nil_append] at e
  subst e
  refine ⟨_, _, good_far (M := M) (w := w) (s := s) (K := K) (by omega) h8 hsw hK4, ?_⟩
  have cK := clen (List.range K)
  rw [List.length_range] at cK
  have hso := sorted_ok (sortOk_nats (os := (List.range K).flatMap fun k => cov (cube4 M w s k)) (by omega))
  have hmap : (((List.range K).flatMap fun k => cov (cube4 M w s k)).map nD).mergeSort leD1 = (srt ((List.range K).flatMap fun k => cov (cube4 M w s k))).map nD := (List.map_mergeSort (r := fun a b => leD1 (nD a) (nD b)) (s := leD1) (f := nD) fun _ _ _ _ => rfl).symm
  rw [hmap] at hso
  have k1 : forGo (pTg (.nm 5)) l_law_far_cubes_2 (rgD 0 K) [.va (.lst (M.map nD)), .va (.int w), .va (.int s), .ow (.lst []), .ow (.lst []), .un, .un, .un] = _ := k1
  have e0 : startS 8 [.lst (M.map nD), .int w] = [.va (.lst (M.map nD)), .va (.int w), .un, .un, .un, .un, .un, .un] := rfl
  clear hs hK hmap
  generalize (srt ((List.range K).flatMap fun k => cov (cube4 M w s k))).map nD = sl at *
  generalize ((List.range K).flatMap fun k => cov (cube4 M w s k)).map nD = ol at *
  generalize ((List.range K).map (cube4 M w s)).map tD = tl at *
  generalize M.map nD = nl at *
  unfold p_law_far_cubes runF m_law_far_cubes
  rw [e0]
  have pos' : 0 < w := by omega
  simp [hI0, pos, pos', hs', hI1, hK', hrg, k1, hso]
theorem case_4 {N : List Nat} (hN : N.length = 67) : CaseOk N 4 := by
  have hI0 : L2.atI (N.map nD) 0 = some (nD (N[0]'(by omega))) := ix_nD (k := 0) (by omega)
  obtain ⟨n0, hn0⟩ : ∃ n0, n0 = N[0]'(by omega) := ⟨_, rfl⟩
  rw [← hn0] at hI0
  obtain ⟨w, hw⟩ : ∃ w : Nat, w = 6 + n0 % 3 := ⟨_, rfl⟩
  have hw' : 6 + (n0 : Int) % 3 = (w : Int) := by omega
  obtain ⟨os, T, G, h⟩ := e_far_cubes (M := N.drop 1) (w := w) (by rw [List.length_drop]; omega) (by omega) (by omega)
  refine ⟨w, os, T, false, G, ?_⟩
  have e0 : startS 12 [.lst (N.map nD), .int (4 : Nat)] = [.va (.lst (N.map nD)), .va (.int 4), .un, .un, .un, .un, .un, .un, .un, .un, .un, .un] := rfl
  have hsl : cut (N.map nD) (some 1) none = (N.drop 1).map nD := cu_from N 1
  have htl : tlD false T = .lst (T.map tD) := rfl
  rw [htl]
  clear hn0 hw
  generalize N.map nD = nl at *
  generalize (N.drop 1).map nD = nl1 at *
  generalize os.map nD = ol at *
  generalize T.map tD = tl at *
  unfold p_law_case runF m_law_case
  rw [e0]
  simp [hI0, hsl, hw', h]
theorem law70 (ns : List Int) : p_law [.lst (ns.map .int)] = .ok (.bl true) := law_of_case fun f N hf hN _ => by
  have : f < 3 ∨ f = 3 ∨ f = 4 ∨ f = 5 ∨ f = 6 ∨ f = 7 := by omega
  rcases this with h | rfl | rfl | rfl | rfl | rfl
  · exact case_012 h hN
  · exact case_3 hN
  · exact case_4 hN
  · exact case_5 hN
  · exact case_6 hN
  · exact case_7 hN
end MP

namespace MP
open PySem PySem.Spec PyProof.Rows L2
noncomputable section
def top (i : Nat) : Stmt := PySem.Challenge.pw_neverdrivendark_k70_prime_cubes_by_value.main.body.getD i (.Pass ⟨0, 0, 0, 0⟩)
/-! ### law_cell -/
abbrev s_law_cell : Stmt := top 5
abbrev sc_law_cell : Scope := defScope s_law_cell
def N_law_cell : List Str := ["script", "k"]
theorem f_law_cell {g : G} {W : WX} {X : Cx} {k : Nat} (B : Bd g W X k N_law_cell sc_law_cell sc_law_cell) (po : PassesOwn (model X.prog X.w) X.A X.env X.xe) (b_len : X.mg "len" = none) : PSs X (defBody s_law_cell) (Ts g W m_law_cell) := by
  have v0 : visB sc_law_cell "k" = true := by decide +kernel
  have v1 : visB sc_law_cell "script" = true := by decide +kernel
  have v2 : glB sc_law_cell "len" = true := by decide +kernel
  exact (ss_cons (ss_if (t_cmp op2_lt (o_v B 1 v0 rfl) (te_wo (w_bi B b_len v2 (cal_len B.at_) (o_cons (o_v B 0 v1 rfl) sao_nil))))
    (ss_one (ss_ret (s_ix B (o_v B 0 v1 rfl) (o_v B 1 v0 rfl))))
    ss_nil)
    (ss_one (ss_ret (te_ws se_int))))
theorem fs_law_cell : FnScope N_law_cell ["script", "k"] sc_law_cell := ⟨rfl, rfl, rfl, by decide +kernel, rfl, by decide +kernel, by decide +kernel⟩
def d_law_cell : He.DefD := ⟨("_law_cell", none), "_law_cell", "_law_cell", defArgs s_law_cell, defBody s_law_cell, defScope s_law_cell, [], []⟩
/-! ### law_spread -/
abbrev s_law_spread : Stmt := top 20
abbrev sc_law_spread : Scope := defScope s_law_spread
def N_law_spread : List Str := ["script", "k"]
theorem f_law_spread {g : G} {W : WX} {X : Cx} {k : Nat} (B : Bd g W X k N_law_spread sc_law_spread sc_law_spread) (po : PassesOwn (model X.prog X.w) X.A X.env X.xe) (b_range : X.mg "range" = none) (c_law_cell : Cl g X.mg X.base k "_law_cell" 2 p_law_cell) : PSs X (defBody s_law_spread) (Ts g W m_law_spread) := by
  have v0 : glB sc_law_spread "range" = true := by decide +kernel
  exact (ss_one (ss_ret (te_ws (w_lc B [("k", 1)] (by decide +kernel) rfl (i_rg1 B b_range v0 (te_wo se_int)) (fun X1 h1 hb1 B1 => ⟨(g_v B1 1 (by decide +kernel) rfl), sts_nil, (te_ws (se_bin (op2_add B1.at_) (te_so (s_call B1 (by rw [h1, hb1]; exact c_law_cell) (by decide +kernel) (a_nm B1 0 (by decide +kernel) rfl (a_nm B1 1 (by decide +kernel) rfl sar_nil)))) (te_wo (se_bin (op2_mul B1.at_) (o_v B1 1 (by decide +kernel) rfl) (te_so (s_call B1 (by rw [h1, hb1]; exact c_law_cell) (by decide +kernel) (a_nm B1 0 (by decide +kernel) rfl (a_ex (te_ws se_int) sar_nil))))))))⟩)))))
theorem fs_law_spread : FnScope N_law_spread ["script"] sc_law_spread := ⟨rfl, rfl, rfl, by decide +kernel, rfl, by decide +kernel, by decide +kernel⟩
def d_law_spread : He.DefD := ⟨("_law_spread", none), "_law_spread", "_law_spread", defArgs s_law_spread, defBody s_law_spread, defScope s_law_spread, [], []⟩
/-! ### law_numbers -/
abbrev s_law_numbers : Stmt := top 6
abbrev sc_law_numbers : Scope := defScope s_law_numbers
def N_law_numbers : List Str := ["cell", "count", "numbers", "rest", "k", "one", "two", "mixed"]
theorem f_law_numbers {g : G} {W : WX} {X : Cx} {k : Nat} (B : Bd g W X k N_law_numbers sc_law_numbers sc_law_numbers) (po : PassesOwn (model X.prog X.w) X.A X.env X.xe) (b_abs : X.mg "abs" = none) (b_range : X.mg "range" = none) (b_int : X.mg "int" = none) : PSs X (defBody s_law_numbers) (Ts g W m_law_numbers) := by
  have v0 : locB sc_law_numbers "numbers" = true := by decide +kernel
  have v1 : locB sc_law_numbers "rest" = true := by decide +kernel
  have v2 : visB sc_law_numbers "cell" = true := by decide +kernel
  have v3 : glB sc_law_numbers "abs" = true := by decide +kernel
  have v4 : glB sc_law_numbers "range" = true := by decide +kernel
  have v5 : visB sc_law_numbers "count" = true := by decide +kernel
  have v6 : locB sc_law_numbers "k" = true := by decide +kernel
  have v7 : visB sc_law_numbers "rest" = true := by decide +kernel
  have v8 : glB sc_law_numbers "int" = true := by decide +kernel
  have v9 : visB sc_law_numbers "numbers" = true := by decide +kernel
  have v10 : locB sc_law_numbers "one" = true := by decide +kernel
  have v11 : visB sc_law_numbers "k" = true := by decide +kernel
  have v12 : locB sc_law_numbers "two" = true := by decide +kernel
  have v13 : locB sc_law_numbers "mixed" = true := by decide +kernel
  have v14 : visB sc_law_numbers "one" = true := by decide +kernel
  have v15 : visB sc_law_numbers "two" = true := by decide +kernel
  have v16 : visB sc_law_numbers "mixed" = true := by decide +kernel
  exact (ss_cons (y_setO B 2 v0 rfl (se_lst sas_nil))
    (ss_cons (y_setO B 3 v1 rfl (w_bi B b_abs v3 cal_abs (o_cons (o_v B 0 v2 rfl) sao_nil)))
    (ss_cons (y_for B po (i_rg1 B b_range v4 (o_v B 1 v5 rfl)) (g_v B 4 v6 rfl)
    (ss_one (ss_if (PW.pt (sw_and (t_cmp op2_ge (te_wo (w_bi B b_abs v3 cal_abs (o_cons (o_v B 0 v2 rfl) sao_nil))) (te_wo (se_bin op2_pow (te_wo se_int) (te_wo se_int)))) (sw_and1 (t_cmp op2_gt (o_v B 3 v7 rfl) (te_wo se_int)))))
    (ss_cons (y_app B 2 v9 rfl (te_ws (se_bin op2_mod (te_wo (w_ty B b_int v8 cal_int (o_cons (o_v B 3 v7 rfl) sao_nil))) (te_wo se_int))))
    (ss_one (y_setO B 3 v1 rfl (se_bin op2_fdiv (o_v B 3 v7 rfl) (te_wo se_int)))))
    (ss_cons (y_setO B 5 v10 rfl (se_bin op2_mod (te_wo (w_ty B b_int v8 cal_int (o_cons (te_wo (se_bin (op2_add B.at_) (te_wo (se_bin (op2_mul B.at_) (te_wo (w_bi B b_abs v3 cal_abs (o_cons (o_v B 0 v2 rfl) sao_nil))) (te_wo se_int))) (te_wo (se_bin (op2_mul B.at_) (te_wo (se_bin (op2_add B.at_) (o_v B 4 v11 rfl) (te_wo se_int))) (te_wo se_int))))) sao_nil))) (te_wo se_int)))
    (ss_cons (y_setO B 6 v12 rfl (se_bin op2_mod (te_wo (w_ty B b_int v8 cal_int (o_cons (te_wo (se_bin (op2_add B.at_) (te_wo (se_bin (op2_add B.at_) (te_wo (se_bin (op2_mul B.at_) (te_wo (w_bi B b_abs v3 cal_abs (o_cons (o_v B 0 v2 rfl) sao_nil))) (te_wo se_int))) (te_wo (se_bin (op2_mul B.at_) (te_wo (se_bin (op2_mul B.at_) (te_wo (se_bin (op2_add B.at_) (o_v B 4 v11 rfl) (te_wo se_int))) (te_wo (se_bin (op2_add B.at_) (o_v B 4 v11 rfl) (te_wo se_int))))) (te_wo se_int))))) (te_wo se_int))) sao_nil))) (te_wo se_int)))
    (ss_cons (y_setO B 7 v13 rfl (se_bin op2_mod (te_wo (w_ty B b_int v8 cal_int (o_cons (te_wo (se_bin (op2_add B.at_) (te_wo (se_bin (op2_add B.at_) (te_wo (se_bin (op2_mul B.at_) (o_v B 5 v14 rfl) (o_v B 6 v15 rfl))) (te_wo (se_bin op2_fdiv (o_v B 5 v14 rfl) (te_wo se_int))))) (te_wo (se_bin op2_fdiv (o_v B 6 v15 rfl) (te_wo se_int))))) sao_nil))) (te_wo se_int)))
    (ss_cons (y_setO B 7 v13 rfl (se_bin op2_mod (te_wo (w_ty B b_int v8 cal_int (o_cons (te_wo (se_bin (op2_add B.at_) (te_wo (se_bin (op2_mul B.at_) (o_v B 7 v16 rfl) (te_wo se_int))) (te_wo (se_bin (op2_mul B.at_) (te_wo (se_bin op2_fdiv (o_v B 7 v16 rfl) (te_wo se_int))) (te_wo se_int))))) sao_nil))) (te_wo se_int)))
    (ss_one (y_app B 2 v9 rfl (te_ws (se_bin op2_mod (te_wo (w_ty B b_int v8 cal_int (o_cons (te_wo (se_bin op2_fdiv (o_v B 7 v16 rfl) (te_wo se_int))) sao_nil))) (te_wo se_int))))))))))))
    (ss_one (ss_ret (s_v B 2 v9 rfl))))))
theorem fs_law_numbers : FnScope N_law_numbers ["cell", "count"] sc_law_numbers := ⟨rfl, rfl, rfl, by decide +kernel, rfl, by decide +kernel, by decide +kernel⟩
def d_law_numbers : He.DefD := ⟨("_law_numbers", none), "_law_numbers", "_law_numbers", defArgs s_law_numbers, defBody s_law_numbers, defScope s_law_numbers, [], []⟩
/-! ### law_subset -/
abbrev s_law_subset : Stmt := top 11
abbrev sc_law_subset : Scope := defScope s_law_subset
def N_law_subset : List Str := ["numbers", "width", "share", "k"]
theorem f_law_subset {g : G} {W : WX} {X : Cx} {k : Nat} (B : Bd g W X k N_law_subset sc_law_subset sc_law_subset) (po : PassesOwn (model X.prog X.w) X.A X.env X.xe) (b_int : X.mg "int" = none) (b_range : X.mg "range" = none) : PSs X (defBody s_law_subset) (Ts g W m_law_subset) := by
  have v0 : locB sc_law_subset "share" = true := by decide +kernel
  have v1 : visB sc_law_subset "numbers" = true := by decide +kernel
  have v2 : glB sc_law_subset "int" = true := by decide +kernel
  have v3 : glB sc_law_subset "range" = true := by decide +kernel
  have v4 : visB sc_law_subset "width" = true := by decide +kernel
  exact (ss_cons (y_setO B 2 v0 rfl (se_bin op2_mod (te_wo (w_ty B b_int v2 cal_int (o_cons (te_so (s_ix B (o_v B 0 v1 rfl) (te_wo se_int))) sao_nil))) (te_wo se_int)))
    (ss_one (ss_ret (te_ws (w_lc B [("k", 3)] (by decide +kernel) rfl (i_rg1 B b_range v3 (te_so (s_ix B (te_wo (se_lst (s_cons (te_ws se_int) (s_cons (te_ws se_int) (s_cons (te_ws se_int) (s_cons (te_ws se_int) (s_cons (te_ws se_int) (s_cons (te_ws se_int) (s_cons (te_ws se_int) sas_nil))))))))) (o_v B 1 v4 rfl)))) (fun X1 h1 hb1 B1 => ⟨(g_v B1 3 (by decide +kernel) rfl), (sts_one (t_cmp op2_lt (te_wo (se_bin op2_mod (te_wo (w_ty B1 (by rw [h1]; exact b_int) (by decide +kernel) cal_int (o_cons (te_so (s_ix B1 (o_v B1 0 (by decide +kernel) rfl) (te_wo (se_bin (op2_add B1.at_) (te_wo se_int) (o_v B1 3 (by decide +kernel) rfl))))) sao_nil))) (te_wo se_int))) (o_v B1 2 (by decide +kernel) rfl))), (s_v B1 3 (by decide +kernel) rfl)⟩))))))
theorem fs_law_subset : FnScope N_law_subset ["numbers", "width"] sc_law_subset := ⟨rfl, rfl, rfl, by decide +kernel, rfl, by decide +kernel, by decide +kernel⟩
def d_law_subset : He.DefD := ⟨("_law_subset", none), "_law_subset", "_law_subset", defArgs s_law_subset, defBody s_law_subset, defScope s_law_subset, [], []⟩
/-! ### law_covered -/
abbrev s_law_covered : Stmt := top 7
abbrev sc_law_covered : Scope := defScope s_law_covered
def N_law_covered : List Str := ["text", "numbers", "sign", "longer", "number"]
theorem f_law_covered {g : G} {W : WX} {X : Cx} {k : Nat} (B : Bd g W X k N_law_covered sc_law_covered sc_law_covered) (po : PassesOwn (model X.prog X.w) X.A X.env X.xe) : PSs X (defBody s_law_covered) (Ts g W m_law_covered) := by
  have v0 : locB sc_law_covered "numbers" = true := by decide +kernel
  have v1 : visB sc_law_covered "text" = true := by decide +kernel
  have v2 : locB sc_law_covered "sign" = true := by decide +kernel
  have v3 : locB sc_law_covered "longer" = true := by decide +kernel
  have v4 : visB sc_law_covered "numbers" = true := by decide +kernel
  have v5 : locB sc_law_covered "number" = true := by decide +kernel
  have v6 : visB sc_law_covered "sign" = true := by decide +kernel
  have v7 : visB sc_law_covered "number" = true := by decide +kernel
  have v8 : visB sc_law_covered "longer" = true := by decide +kernel
  exact (ss_cons (y_setO B 1 v0 rfl (se_lst (s_cons (te_ws se_int) sas_nil)))
    (ss_cons (y_for B po (si_seq B.at_ (s_v B 0 v1 rfl)) (g_v B 2 v2 rfl)
    (ss_cons (y_setO B 3 v3 rfl (se_lst sas_nil))
    (ss_cons (y_for B po (si_seq B.at_ (s_v B 1 v4 rfl)) (g_v B 4 v5 rfl)
    (ss_cons (ss_if (t_cmp (op2_ne B.at_) (o_v B 2 v6 rfl) (te_wo w_str))
    (ss_one (y_app B 3 v8 rfl (te_ws (se_bin (op2_mul B.at_) (te_wo se_int) (o_v B 4 v7 rfl)))))
    ss_nil)
    (ss_one (ss_if (t_cmp (op2_ne B.at_) (o_v B 2 v6 rfl) (te_wo w_str))
    (ss_one (y_app B 3 v8 rfl (te_ws (se_bin (op2_add B.at_) (te_wo (se_bin (op2_mul B.at_) (te_wo se_int) (o_v B 4 v7 rfl))) (te_wo se_int)))))
    ss_nil))))
    (ss_one (y_setV B 1 v0 rfl (s_v B 3 v8 rfl))))))
    (ss_one (ss_ret (s_v B 1 v4 rfl)))))
theorem fs_law_covered : FnScope N_law_covered ["text"] sc_law_covered := ⟨rfl, rfl, rfl, by decide +kernel, rfl, by decide +kernel, by decide +kernel⟩
def d_law_covered : He.DefD := ⟨("_law_covered", none), "_law_covered", "_law_covered", defArgs s_law_covered, defBody s_law_covered, defScope s_law_covered, [], []⟩
/-! ### law_implicants -/
abbrev s_law_implicants : Stmt := top 8
abbrev sc_law_implicants : Scope := defScope s_law_implicants
def N_law_implicants : List Str := ["width", "ones", "texts", "k", "longer", "text", "found", "good", "number"]
theorem f_law_implicants {g : G} {W : WX} {X : Cx} {k : Nat} (B : Bd g W X k N_law_implicants sc_law_implicants sc_law_implicants) (po : PassesOwn (model X.prog X.w) X.A X.env X.xe) (b_range : X.mg "range" = none) (c_law_covered : Cl g X.mg X.base k "_law_covered" 1 p_law_covered) : PSs X (defBody s_law_implicants) (Ts g W m_law_implicants) := by
  have v0 : locB sc_law_implicants "texts" = true := by decide +kernel
  have v1 : glB sc_law_implicants "range" = true := by decide +kernel
  have v2 : visB sc_law_implicants "width" = true := by decide +kernel
  have v3 : locB sc_law_implicants "k" = true := by decide +kernel
  have v4 : locB sc_law_implicants "longer" = true := by decide +kernel
  have v5 : visB sc_law_implicants "texts" = true := by decide +kernel
  have v6 : locB sc_law_implicants "text" = true := by decide +kernel
  have v7 : visB sc_law_implicants "text" = true := by decide +kernel
  have v8 : visB sc_law_implicants "longer" = true := by decide +kernel
  have v9 : locB sc_law_implicants "found" = true := by decide +kernel
  have v10 : locB sc_law_implicants "good" = true := by decide +kernel
  have v11 : glB sc_law_implicants "_law_covered" = true := by decide +kernel
  have v12 : locB sc_law_implicants "number" = true := by decide +kernel
  have v13 : visB sc_law_implicants "number" = true := by decide +kernel
  have v14 : visB sc_law_implicants "ones" = true := by decide +kernel
  have v15 : visB sc_law_implicants "good" = true := by decide +kernel
  have v16 : visB sc_law_implicants "found" = true := by decide +kernel
  exact (ss_cons (y_setO B 2 v0 rfl (se_lst (s_cons (te_ws w_str) sas_nil)))
    (ss_cons (y_for B po (i_rg1 B b_range v1 (o_v B 0 v2 rfl)) (g_v B 3 v3 rfl)
    (ss_cons (y_setO B 4 v4 rfl (se_lst sas_nil))
    (ss_cons (y_for B po (si_seq B.at_ (s_v B 2 v5 rfl)) (g_v B 5 v6 rfl)
    (ss_cons (y_app B 4 v8 rfl (te_ws (se_bin (op2_add B.at_) (o_v B 5 v7 rfl) (te_wo w_str))))
    (ss_cons (y_app B 4 v8 rfl (te_ws (se_bin (op2_add B.at_) (o_v B 5 v7 rfl) (te_wo w_str))))
    (ss_one (y_app B 4 v8 rfl (te_ws (se_bin (op2_add B.at_) (o_v B 5 v7 rfl) (te_wo w_str))))))))
    (ss_one (y_setV B 2 v0 rfl (s_v B 4 v8 rfl))))))
    (ss_cons (y_setO B 6 v9 rfl (se_lst sas_nil))
    (ss_cons (y_for B po (si_seq B.at_ (s_v B 2 v5 rfl)) (g_v B 5 v6 rfl)
    (ss_cons (y_setO B 7 v10 rfl se_bl)
    (ss_cons (y_for B po (si_seq B.at_ (s_call B c_law_covered v11 (a_nm B 5 v7 rfl sar_nil))) (g_v B 8 v12 rfl)
    (ss_one (ss_if (t_cmp (op2_notInA B.at_) (o_v B 8 v13 rfl) (o_v B 1 v14 rfl))
    (ss_one (y_setO B 7 v10 rfl se_bl))
    ss_nil)))
    (ss_one (ss_if (t_val B (o_v B 7 v15 rfl))
    (ss_one (y_app B 6 v16 rfl (s_v B 5 v7 rfl)))
    ss_nil)))))
    (ss_one (ss_ret (s_v B 6 v16 rfl)))))))
theorem fs_law_implicants : FnScope N_law_implicants ["width", "ones"] sc_law_implicants := ⟨rfl, rfl, rfl, by decide +kernel, rfl, by decide +kernel, by decide +kernel⟩
def d_law_implicants : He.DefD := ⟨("_law_implicants", none), "_law_implicants", "_law_implicants", defArgs s_law_implicants, defBody s_law_implicants, defScope s_law_implicants, [], []⟩
/-! ### law_primes -/
abbrev s_law_primes : Stmt := top 9
abbrev sc_law_primes : Scope := defScope s_law_primes
def N_law_primes : List Str := ["width", "ones", "found", "primes", "text", "prime", "k"]
theorem f_law_primes {g : G} {W : WX} {X : Cx} {k : Nat} (B : Bd g W X k N_law_primes sc_law_primes sc_law_primes) (po : PassesOwn (model X.prog X.w) X.A X.env X.xe) (b_range : X.mg "range" = none) (b_sorted : X.mg "sorted" = none) (b_tuple : X.mg "tuple" = none) (c_law_implicants : Cl g X.mg X.base k "_law_implicants" 2 p_law_implicants) : PSs X (defBody s_law_primes) (Ts g W m_law_primes) := by
  have v0 : locB sc_law_primes "found" = true := by decide +kernel
  have v1 : visB sc_law_primes "ones" = true := by decide +kernel
  have v2 : visB sc_law_primes "width" = true := by decide +kernel
  have v3 : glB sc_law_primes "_law_implicants" = true := by decide +kernel
  have v4 : locB sc_law_primes "primes" = true := by decide +kernel
  have v5 : visB sc_law_primes "found" = true := by decide +kernel
  have v6 : locB sc_law_primes "text" = true := by decide +kernel
  have v7 : locB sc_law_primes "prime" = true := by decide +kernel
  have v8 : glB sc_law_primes "range" = true := by decide +kernel
  have v9 : locB sc_law_primes "k" = true := by decide +kernel
  have v10 : visB sc_law_primes "text" = true := by decide +kernel
  have v11 : visB sc_law_primes "k" = true := by decide +kernel
  have v12 : visB sc_law_primes "prime" = true := by decide +kernel
  have v13 : visB sc_law_primes "primes" = true := by decide +kernel
  have v14 : glB sc_law_primes "sorted" = true := by decide +kernel
  have v15 : glB sc_law_primes "tuple" = true := by decide +kernel
  exact (ss_cons (y_setV B 2 v0 rfl (s_call B c_law_implicants v3 (a_nm B 0 v2 rfl (a_nm B 1 v1 rfl sar_nil))))
    (ss_cons (y_setO B 3 v4 rfl (se_lst sas_nil))
    (ss_cons (y_for B po (si_seq B.at_ (s_v B 2 v5 rfl)) (g_v B 4 v6 rfl)
    (ss_cons (y_setO B 5 v7 rfl se_bl)
    (ss_cons (y_for B po (i_rg1 B b_range v8 (o_v B 0 v2 rfl)) (g_v B 6 v9 rfl)
    (ss_one (ss_if (PW.pt (sw_and (t_cmp (op2_ne B.at_) (te_so (s_ix B (o_v B 4 v10 rfl) (o_v B 6 v11 rfl))) (te_wo w_str)) (sw_and1 (t_cmp (op2_inA B.at_) (te_wo (se_bin (op2_add B.at_) (te_wo (se_bin (op2_add B.at_) (te_wo (se_sl B.at_ (o_v B 4 v10 rfl) sp_none (sp_some (o_v B 6 v11 rfl)))) (te_wo w_str))) (te_wo (se_sl B.at_ (o_v B 4 v10 rfl) (sp_some (te_wo (se_bin (op2_add B.at_) (o_v B 6 v11 rfl) (te_wo se_int)))) sp_none)))) (o_v B 2 v5 rfl)))))
    (ss_one (y_setO B 5 v7 rfl se_bl))
    ss_nil)))
    (ss_one (ss_if (t_val B (o_v B 5 v12 rfl))
    (ss_one (y_app B 3 v13 rfl (s_v B 4 v10 rfl)))
    ss_nil)))))
    (ss_one (ss_ret (te_ws (w_ty B b_tuple v15 (cal_tuple B.at_) (o_cons (te_wo (w_bi B b_sorted v14 (cal_sorted B.at_) (o_cons (o_v B 3 v13 rfl) sao_nil))) sao_nil))))))))
theorem fs_law_primes : FnScope N_law_primes ["width", "ones"] sc_law_primes := ⟨rfl, rfl, rfl, by decide +kernel, rfl, by decide +kernel, by decide +kernel⟩
def d_law_primes : He.DefD := ⟨("_law_primes", none), "_law_primes", "_law_primes", defArgs s_law_primes, defBody s_law_primes, defScope s_law_primes, [], []⟩
/-! ### law_weights -/
abbrev s_law_weights : Stmt := top 14
abbrev sc_law_weights : Scope := defScope s_law_weights
def N_law_weights : List Str := ["width", "weights", "k", "weight"]
theorem f_law_weights {g : G} {W : WX} {X : Cx} {k : Nat} (B : Bd g W X k N_law_weights sc_law_weights sc_law_weights) (po : PassesOwn (model X.prog X.w) X.A X.env X.xe) (b_range : X.mg "range" = none) : PSs X (defBody s_law_weights) (Ts g W m_law_weights) := by
  have v0 : locB sc_law_weights "weights" = true := by decide +kernel
  have v1 : glB sc_law_weights "range" = true := by decide +kernel
  have v2 : visB sc_law_weights "width" = true := by decide +kernel
  have v3 : locB sc_law_weights "k" = true := by decide +kernel
  have v4 : visB sc_law_weights "weights" = true := by decide +kernel
  exact (ss_cons (y_setO B 1 v0 rfl (se_lst (s_cons (te_ws se_int) sas_nil)))
    (ss_cons (y_for B po (i_rg1 B b_range v1 (o_v B 0 v2 rfl)) (g_v B 2 v3 rfl)
    (ss_one (y_setO B 1 v0 rfl (se_bin (op2_add B.at_) (o_v B 1 v4 rfl) (te_wo (w_lc B [("weight", 3)] (by decide +kernel) rfl (si_seq B.at_ (s_v B 1 v4 rfl)) (fun X1 h1 hb1 B1 => ⟨(g_v B1 3 (by decide +kernel) rfl), sts_nil, (te_ws (se_bin (op2_add B1.at_) (o_v B1 3 (by decide +kernel) rfl) (te_wo se_int)))⟩)))))))
    (ss_one (ss_ret (s_v B 1 v4 rfl)))))
theorem fs_law_weights : FnScope N_law_weights ["width"] sc_law_weights := ⟨rfl, rfl, rfl, by decide +kernel, rfl, by decide +kernel, by decide +kernel⟩
def d_law_weights : He.DefD := ⟨("_law_weights", none), "_law_weights", "_law_weights", defArgs s_law_weights, defBody s_law_weights, defScope s_law_weights, [], []⟩
/-! ### law_shuffles -/
abbrev s_law_shuffles : Stmt := top 13
abbrev sc_law_shuffles : Scope := defScope s_law_shuffles
def N_law_shuffles : List Str := ["width", "ones", "zeros", "texts", "k", "longer", "text", "sign", "more"]
theorem f_law_shuffles {g : G} {W : WX} {X : Cx} {k : Nat} (B : Bd g W X k N_law_shuffles sc_law_shuffles sc_law_shuffles) (po : PassesOwn (model X.prog X.w) X.A X.env X.xe) (b_range : X.mg "range" = none) : PSs X (defBody s_law_shuffles) (Ts g W m_law_shuffles) := by
  have v0 : locB sc_law_shuffles "texts" = true := by decide +kernel
  have v1 : glB sc_law_shuffles "range" = true := by decide +kernel
  have v2 : visB sc_law_shuffles "width" = true := by decide +kernel
  have v3 : locB sc_law_shuffles "k" = true := by decide +kernel
  have v4 : locB sc_law_shuffles "longer" = true := by decide +kernel
  have v5 : visB sc_law_shuffles "texts" = true := by decide +kernel
  have v6 : locB sc_law_shuffles "text" = true := by decide +kernel
  have v7 : locB sc_law_shuffles "sign" = true := by decide +kernel
  have v8 : locB sc_law_shuffles "more" = true := by decide +kernel
  have v9 : visB sc_law_shuffles "text" = true := by decide +kernel
  have v10 : visB sc_law_shuffles "sign" = true := by decide +kernel
  have v11 : visB sc_law_shuffles "more" = true := by decide +kernel
  have v12 : visB sc_law_shuffles "ones" = true := by decide +kernel
  have v13 : visB sc_law_shuffles "zeros" = true := by decide +kernel
  have v14 : visB sc_law_shuffles "longer" = true := by decide +kernel
  exact (ss_cons (y_setO B 3 v0 rfl (se_lst (s_cons (te_ws w_str) sas_nil)))
    (ss_cons (y_for B po (i_rg1 B b_range v1 (o_v B 0 v2 rfl)) (g_v B 4 v3 rfl)
    (ss_cons (y_setO B 5 v4 rfl (se_lst sas_nil))
    (ss_cons (y_for B po (si_seq B.at_ (s_v B 3 v5 rfl)) (g_v B 6 v6 rfl)
    (ss_one (y_for B po (si_seq B.at_ (te_ws w_str)) (g_v B 7 v7 rfl)
    (ss_cons (y_setO B 8 v8 rfl (se_bin (op2_add B.at_) (o_v B 6 v9 rfl) (o_v B 7 v10 rfl)))
    (ss_one (ss_if (PW.pt (sw_and (t_cmp op2_le (te_wo (se_count (o_v B 8 v11 rfl) (te_wo w_str) rfl rfl rfl)) (o_v B 1 v12 rfl)) (sw_and (t_cmp op2_le (te_wo (se_count (o_v B 8 v11 rfl) (te_wo w_str) rfl rfl rfl)) (o_v B 2 v13 rfl)) (sw_and1 (t_cmp op2_le (te_wo (se_count (o_v B 8 v11 rfl) (te_wo w_str) rfl rfl rfl)) (te_wo (se_bin op2_sub (te_wo (se_bin op2_sub (o_v B 0 v2 rfl) (o_v B 1 v12 rfl))) (o_v B 2 v13 rfl))))))))
    (ss_one (y_app B 5 v14 rfl (s_v B 8 v11 rfl)))
    ss_nil))))))
    (ss_one (y_setV B 3 v0 rfl (s_v B 5 v14 rfl))))))
    (ss_one (ss_ret (s_v B 3 v5 rfl)))))
theorem fs_law_shuffles : FnScope N_law_shuffles ["width", "ones", "zeros"] sc_law_shuffles := ⟨rfl, rfl, rfl, by decide +kernel, rfl, by decide +kernel, by decide +kernel⟩
def d_law_shuffles : He.DefD := ⟨("_law_shuffles", none), "_law_shuffles", "_law_shuffles", defArgs s_law_shuffles, defBody s_law_shuffles, defScope s_law_shuffles, [], []⟩
/-! ### law_counted -/
abbrev s_law_counted : Stmt := top 15
abbrev sc_law_counted : Scope := defScope s_law_counted
def N_law_counted : List Str := ["numbers", "width", "low", "high", "weights", "ones", "k"]
theorem f_law_counted {g : G} {W : WX} {X : Cx} {k : Nat} (B : Bd g W X k N_law_counted sc_law_counted sc_law_counted) (po : PassesOwn (model X.prog X.w) X.A X.env X.xe) (b_int : X.mg "int" = none) (b_range : X.mg "range" = none) (b_len : X.mg "len" = none) (c_law_weights : Cl g X.mg X.base k "_law_weights" 1 p_law_weights) (c_law_shuffles : Cl g X.mg X.base k "_law_shuffles" 3 p_law_shuffles) : PSs X (defBody s_law_counted) (Ts g W m_law_counted) := by
  have v0 : locB sc_law_counted "low" = true := by decide +kernel
  have v1 : visB sc_law_counted "numbers" = true := by decide +kernel
  have v2 : glB sc_law_counted "int" = true := by decide +kernel
  have v3 : visB sc_law_counted "width" = true := by decide +kernel
  have v4 : locB sc_law_counted "high" = true := by decide +kernel
  have v5 : visB sc_law_counted "low" = true := by decide +kernel
  have v6 : locB sc_law_counted "weights" = true := by decide +kernel
  have v7 : glB sc_law_counted "_law_weights" = true := by decide +kernel
  have v8 : locB sc_law_counted "ones" = true := by decide +kernel
  have v9 : glB sc_law_counted "range" = true := by decide +kernel
  have v10 : visB sc_law_counted "weights" = true := by decide +kernel
  have v11 : glB sc_law_counted "len" = true := by decide +kernel
  have v12 : lclB sc_law_counted "ones" = true := by decide +kernel
  have v13 : visB sc_law_counted "high" = true := by decide +kernel
  have v14 : glB sc_law_counted "_law_shuffles" = true := by decide +kernel
  have v15 : visB sc_law_counted "ones" = true := by decide +kernel
  exact (ss_cons (y_setO B 2 v0 rfl (se_bin op2_mod (te_wo (w_ty B b_int v2 cal_int (o_cons (te_so (s_ix B (o_v B 0 v1 rfl) (te_wo se_int))) sao_nil))) (te_wo (se_bin (op2_add B.at_) (o_v B 1 v3 rfl) (te_wo se_int)))))
    (ss_cons (y_setO B 3 v4 rfl (se_bin (op2_add B.at_) (o_v B 2 v5 rfl) (te_wo (se_bin op2_mod (te_wo (w_ty B b_int v2 cal_int (o_cons (te_so (s_ix B (o_v B 0 v1 rfl) (te_wo se_int))) sao_nil))) (te_wo (se_bin op2_sub (te_wo (se_bin (op2_add B.at_) (o_v B 1 v3 rfl) (te_wo se_int))) (o_v B 2 v5 rfl)))))))
    (ss_cons (y_setV B 4 v6 rfl (s_call B c_law_weights v7 (a_nm B 1 v3 rfl sar_nil)))
    (ss_cons (y_lc B 5 [("k", 6)] v12 rfl (by decide +kernel) rfl (i_rg1 B b_range v9 (te_wo (w_bi B b_len v11 (cal_len B.at_) (o_cons (o_v B 4 v10 rfl) sao_nil)))) (fun X1 h1 hb1 B1 => ⟨(g_v B1 6 (by decide +kernel) rfl), (sts_one (t_ch (o_v B1 2 (by decide +kernel) rfl) (ch_more op2_le (te_so (s_ix B1 (o_v B1 4 (by decide +kernel) rfl) (o_v B1 6 (by decide +kernel) rfl))) (ch_one op2_le (o_v B1 3 (by decide +kernel) rfl))))), (s_v B1 6 (by decide +kernel) rfl)⟩))
    (ss_one (ss_ret (te_ws (se_tup (s_cons (s_v B 5 v15 rfl) (s_cons (s_call B c_law_shuffles v14 (a_nm B 1 v3 rfl (a_nm B 2 v5 rfl (a_ex (te_ws (se_bin op2_sub (o_v B 1 v3 rfl) (o_v B 3 v13 rfl))) sar_nil)))) sas_nil))))))))))
theorem fs_law_counted : FnScope N_law_counted ["numbers", "width"] sc_law_counted := ⟨rfl, rfl, rfl, by decide +kernel, rfl, by decide +kernel, by decide +kernel⟩
def d_law_counted : He.DefD := ⟨("_law_counted", none), "_law_counted", "_law_counted", defArgs s_law_counted, defBody s_law_counted, defScope s_law_counted, [], []⟩
/-! ### law_far_cubes -/
abbrev s_law_far_cubes : Stmt := top 16
abbrev sc_law_far_cubes : Scope := defScope s_law_far_cubes
def N_law_far_cubes : List Str := ["numbers", "width", "shift", "texts", "ones", "k", "text", "j"]
theorem f_law_far_cubes {g : G} {W : WX} {X : Cx} {k : Nat} (B : Bd g W X k N_law_far_cubes sc_law_far_cubes sc_law_far_cubes) (po : PassesOwn (model X.prog X.w) X.A X.env X.xe) (b_int : X.mg "int" = none) (b_range : X.mg "range" = none) (b_sorted : X.mg "sorted" = none) (c_law_covered : Cl g X.mg X.base k "_law_covered" 1 p_law_covered) : PSs X (defBody s_law_far_cubes) (Ts g W m_law_far_cubes) := by
  have v0 : locB sc_law_far_cubes "shift" = true := by decide +kernel
  have v1 : visB sc_law_far_cubes "numbers" = true := by decide +kernel
  have v2 : glB sc_law_far_cubes "int" = true := by decide +kernel
  have v3 : visB sc_law_far_cubes "width" = true := by decide +kernel
  have v4 : locB sc_law_far_cubes "texts" = true := by decide +kernel
  have v5 : locB sc_law_far_cubes "ones" = true := by decide +kernel
  have v6 : glB sc_law_far_cubes "range" = true := by decide +kernel
  have v7 : locB sc_law_far_cubes "k" = true := by decide +kernel
  have v8 : locB sc_law_far_cubes "text" = true := by decide +kernel
  have v9 : visB sc_law_far_cubes "k" = true := by decide +kernel
  have v10 : locB sc_law_far_cubes "j" = true := by decide +kernel
  have v11 : visB sc_law_far_cubes "text" = true := by decide +kernel
  have v12 : visB sc_law_far_cubes "j" = true := by decide +kernel
  have v13 : visB sc_law_far_cubes "shift" = true := by decide +kernel
  have v14 : visB sc_law_far_cubes "texts" = true := by decide +kernel
  have v15 : visB sc_law_far_cubes "ones" = true := by decide +kernel
  have v16 : glB sc_law_far_cubes "_law_covered" = true := by decide +kernel
  have v17 : glB sc_law_far_cubes "sorted" = true := by decide +kernel
  exact (ss_cons (y_setO B 2 v0 rfl (se_bin op2_mod (te_wo (w_ty B b_int v2 cal_int (o_cons (te_so (s_ix B (o_v B 0 v1 rfl) (te_wo se_int))) sao_nil))) (o_v B 1 v3 rfl)))
    (ss_cons (y_setO B 3 v4 rfl (se_lst sas_nil))
    (ss_cons (y_setO B 4 v5 rfl (se_lst sas_nil))
    (ss_cons (y_for B po (i_rg1 B b_range v6 (te_wo (se_bin (op2_add B.at_) (te_wo se_int) (te_wo (se_bin op2_mod (te_wo (w_ty B b_int v2 cal_int (o_cons (te_so (s_ix B (o_v B 0 v1 rfl) (te_wo se_int))) sao_nil))) (te_wo se_int)))))) (g_v B 5 v7 rfl)
    (ss_cons (y_setV B 6 v8 rfl (s_ix B (te_wo (se_lst (s_cons (te_ws w_str) (s_cons (te_ws w_str) (s_cons (te_ws w_str) (s_cons (te_ws w_str) sas_nil)))))) (o_v B 5 v9 rfl)))
    (ss_cons (y_for B po (i_rg1 B b_range v6 (te_wo (se_bin op2_sub (o_v B 1 v3 rfl) (te_wo se_int)))) (g_v B 7 v10 rfl)
    (ss_one (y_setO B 6 v8 rfl (se_bin (op2_add B.at_) (o_v B 6 v11 rfl) (te_so (s_ix B (te_wo (se_lst (s_cons (te_ws w_str) (s_cons (te_ws w_str) (s_cons (te_ws w_str) sas_nil))))) (te_wo (se_bin op2_mod (te_wo (w_ty B b_int v2 cal_int (o_cons (te_so (s_ix B (o_v B 0 v1 rfl) (te_wo (se_bin (op2_add B.at_) (te_wo (se_bin (op2_add B.at_) (te_wo se_int) (te_wo (se_bin (op2_mul B.at_) (te_wo se_int) (o_v B 5 v9 rfl))))) (o_v B 7 v12 rfl))))) sao_nil))) (te_wo se_int)))))))))
    (ss_cons (y_setO B 6 v8 rfl (se_bin (op2_add B.at_) (te_wo (se_sl B.at_ (o_v B 6 v11 rfl) (sp_some (o_v B 2 v13 rfl)) sp_none)) (te_wo (se_sl B.at_ (o_v B 6 v11 rfl) sp_none (sp_some (o_v B 2 v13 rfl))))))
    (ss_cons (y_app B 3 v14 rfl (s_v B 6 v11 rfl))
    (ss_one (y_setO B 4 v5 rfl (se_bin (op2_add B.at_) (o_v B 4 v15 rfl) (te_so (s_call B c_law_covered v16 (a_nm B 6 v11 rfl sar_nil)))))))))))
    (ss_one (ss_ret (te_ws (se_tup (s_cons (te_ws (w_bi B b_sorted v17 (cal_sorted B.at_) (o_cons (o_v B 4 v15 rfl) sao_nil))) (s_cons (s_v B 3 v14 rfl) sas_nil))))))))))
theorem fs_law_far_cubes : FnScope N_law_far_cubes ["numbers", "width"] sc_law_far_cubes := ⟨rfl, rfl, rfl, by decide +kernel, rfl, by decide +kernel, by decide +kernel⟩
def d_law_far_cubes : He.DefD := ⟨("_law_far_cubes", none), "_law_far_cubes", "_law_far_cubes", defArgs s_law_far_cubes, defBody s_law_far_cubes, defScope s_law_far_cubes, [], []⟩
/-! ### law_both -/
abbrev s_law_both : Stmt := top 17
abbrev sc_law_both : Scope := defScope s_law_both
def N_law_both : List Str := ["numbers", "left", "right", "first", "second", "size", "ones", "texts", "one", "other", "text", "more"]
theorem f_law_both {g : G} {W : WX} {X : Cx} {k : Nat} (B : Bd g W X k N_law_both sc_law_both sc_law_both) (po : PassesOwn (model X.prog X.w) X.A X.env X.xe) (c_law_subset : Cl g X.mg X.base k "_law_subset" 2 p_law_subset) (c_law_primes : Cl g X.mg X.base k "_law_primes" 2 p_law_primes) : PSs X (defBody s_law_both) (Ts g W m_law_both) := by
  have v0 : locB sc_law_both "first" = true := by decide +kernel
  have v1 : visB sc_law_both "left" = true := by decide +kernel
  have v2 : visB sc_law_both "numbers" = true := by decide +kernel
  have v3 : glB sc_law_both "_law_subset" = true := by decide +kernel
  have v4 : locB sc_law_both "second" = true := by decide +kernel
  have v5 : visB sc_law_both "right" = true := by decide +kernel
  have v6 : locB sc_law_both "size" = true := by decide +kernel
  have v7 : locB sc_law_both "ones" = true := by decide +kernel
  have v8 : locB sc_law_both "texts" = true := by decide +kernel
  have v9 : visB sc_law_both "first" = true := by decide +kernel
  have v10 : locB sc_law_both "one" = true := by decide +kernel
  have v11 : visB sc_law_both "ones" = true := by decide +kernel
  have v12 : visB sc_law_both "second" = true := by decide +kernel
  have v13 : glB sc_law_both "_law_primes" = true := by decide +kernel
  have v14 : locB sc_law_both "text" = true := by decide +kernel
  have v15 : visB sc_law_both "texts" = true := by decide +kernel
  exact (ss_cons (y_setV B 3 v0 rfl (s_call B c_law_subset v3 (a_ex (te_ws (se_sl B.at_ (o_v B 0 v2 rfl) sp_none (sp_some (te_wo se_int)))) (a_nm B 1 v1 rfl sar_nil))))
    (ss_cons (y_setV B 4 v4 rfl (s_call B c_law_subset v3 (a_ex (te_ws (se_sl B.at_ (o_v B 0 v2 rfl) (sp_some (te_wo se_int)) (sp_some (te_wo se_int)))) (a_nm B 2 v5 rfl sar_nil))))
    (ss_cons (y_setV B 5 v6 rfl (s_ix B (te_wo (se_lst (s_cons (te_ws se_int) (s_cons (te_ws se_int) (s_cons (te_ws se_int) (s_cons (te_ws se_int) (s_cons (te_ws se_int) sas_nil))))))) (o_v B 2 v5 rfl)))
    (ss_cons (y_setO B 6 v7 rfl (se_lst sas_nil))
    (ss_cons (y_setO B 7 v8 rfl (se_lst sas_nil))
    (ss_cons (y_for B po (si_seq B.at_ (s_v B 3 v9 rfl)) (g_v B 8 v10 rfl)
    (ss_one (y_setO B 6 v7 rfl (se_bin (op2_add B.at_) (o_v B 6 v11 rfl) (te_wo (w_lc B [("other", 9)] (by decide +kernel) rfl (si_seq B.at_ (s_v B 4 v12 rfl)) (fun X1 h1 hb1 B1 => ⟨(g_v B1 9 (by decide +kernel) rfl), sts_nil, (te_ws (se_bin (op2_add B1.at_) (te_wo (se_bin (op2_mul B1.at_) (o_v B1 8 (by decide +kernel) rfl) (o_v B1 5 (by decide +kernel) rfl))) (o_v B1 9 (by decide +kernel) rfl)))⟩)))))))
    (ss_cons (y_for B po (si_seq B.at_ (s_call B c_law_primes v13 (a_nm B 1 v1 rfl (a_nm B 3 v9 rfl sar_nil)))) (g_v B 10 v14 rfl)
    (ss_one (y_setO B 7 v8 rfl (se_bin (op2_add B.at_) (o_v B 7 v15 rfl) (te_wo (w_lc B [("more", 11)] (by decide +kernel) rfl (si_seq B.at_ (s_call B c_law_primes v13 (a_nm B 2 v5 rfl (a_nm B 4 v12 rfl sar_nil)))) (fun X2 h2 hb2 B2 => ⟨(g_v B2 11 (by decide +kernel) rfl), sts_nil, (te_ws (se_bin (op2_add B2.at_) (o_v B2 10 (by decide +kernel) rfl) (o_v B2 11 (by decide +kernel) rfl)))⟩)))))))
    (ss_one (ss_ret (te_ws (se_tup (s_cons (s_v B 6 v11 rfl) (s_cons (s_v B 7 v15 rfl) sas_nil)))))))))))))
theorem fs_law_both : FnScope N_law_both ["numbers", "left", "right"] sc_law_both := ⟨rfl, rfl, rfl, by decide +kernel, rfl, by decide +kernel, by decide +kernel⟩
def d_law_both : He.DefD := ⟨("_law_both", none), "_law_both", "_law_both", defArgs s_law_both, defBody s_law_both, defScope s_law_both, [], []⟩
/-! ### law_either -/
abbrev s_law_either : Stmt := top 18
abbrev sc_law_either : Scope := defScope s_law_either
def N_law_either : List Str := ["numbers", "left", "right", "first", "second", "size", "many", "ones", "one", "other", "texts", "text"]
theorem f_law_either {g : G} {W : WX} {X : Cx} {k : Nat} (B : Bd g W X k N_law_either sc_law_either sc_law_either) (po : PassesOwn (model X.prog X.w) X.A X.env X.xe) (b_range : X.mg "range" = none) (b_len : X.mg "len" = none) (c_law_subset : Cl g X.mg X.base k "_law_subset" 2 p_law_subset) (c_law_primes : Cl g X.mg X.base k "_law_primes" 2 p_law_primes) : PSs X (defBody s_law_either) (Ts g W m_law_either) := by
  have v0 : locB sc_law_either "first" = true := by decide +kernel
  have v1 : visB sc_law_either "left" = true := by decide +kernel
  have v2 : visB sc_law_either "numbers" = true := by decide +kernel
  have v3 : glB sc_law_either "_law_subset" = true := by decide +kernel
  have v4 : locB sc_law_either "second" = true := by decide +kernel
  have v5 : visB sc_law_either "right" = true := by decide +kernel
  have v6 : locB sc_law_either "size" = true := by decide +kernel
  have v7 : locB sc_law_either "many" = true := by decide +kernel
  have v8 : locB sc_law_either "ones" = true := by decide +kernel
  have v9 : glB sc_law_either "range" = true := by decide +kernel
  have v10 : visB sc_law_either "many" = true := by decide +kernel
  have v11 : locB sc_law_either "one" = true := by decide +kernel
  have v12 : visB sc_law_either "ones" = true := by decide +kernel
  have v13 : visB sc_law_either "size" = true := by decide +kernel
  have v14 : visB sc_law_either "first" = true := by decide +kernel
  have v15 : glB sc_law_either "len" = true := by decide +kernel
  have v16 : visB sc_law_either "second" = true := by decide +kernel
  have v17 : locB sc_law_either "texts" = true := by decide +kernel
  have v18 : glB sc_law_either "_law_primes" = true := by decide +kernel
  have v19 : lclB sc_law_either "texts" = true := by decide +kernel
  have v20 : visB sc_law_either "texts" = true := by decide +kernel
  exact (ss_cons (y_setV B 3 v0 rfl (s_call B c_law_subset v3 (a_ex (te_ws (se_sl B.at_ (o_v B 0 v2 rfl) sp_none (sp_some (te_wo se_int)))) (a_nm B 1 v1 rfl sar_nil))))
    (ss_cons (y_setV B 4 v4 rfl (s_call B c_law_subset v3 (a_ex (te_ws (se_sl B.at_ (o_v B 0 v2 rfl) (sp_some (te_wo se_int)) (sp_some (te_wo se_int)))) (a_nm B 2 v5 rfl sar_nil))))
    (ss_cons (y_setV B 5 v6 rfl (s_ix B (te_wo (se_lst (s_cons (te_ws se_int) (s_cons (te_ws se_int) (s_cons (te_ws se_int) (s_cons (te_ws se_int) (s_cons (te_ws se_int) sas_nil))))))) (o_v B 2 v5 rfl)))
    (ss_cons (y_setV B 6 v7 rfl (s_ix B (te_wo (se_lst (s_cons (te_ws se_int) (s_cons (te_ws se_int) (s_cons (te_ws se_int) (s_cons (te_ws se_int) (s_cons (te_ws se_int) sas_nil))))))) (o_v B 1 v1 rfl)))
    (ss_cons (y_setO B 7 v8 rfl (se_lst sas_nil))
    (ss_cons (y_for B po (i_rg1 B b_range v9 (o_v B 6 v10 rfl)) (g_v B 8 v11 rfl)
    (ss_one (y_setO B 7 v8 rfl (se_bin (op2_add B.at_) (o_v B 7 v12 rfl) (te_wo (w_lc B [("other", 9)] (by decide +kernel) rfl (i_rg1 B b_range v9 (o_v B 5 v13 rfl)) (fun X1 h1 hb1 B1 => ⟨(g_v B1 9 (by decide +kernel) rfl), (sts_one (PW.pt (sw_or (t_cmp (op2_inA B1.at_) (o_v B1 8 (by decide +kernel) rfl) (o_v B1 3 (by decide +kernel) rfl)) (sw_or1 (t_cmp (op2_inA B1.at_) (o_v B1 9 (by decide +kernel) rfl) (o_v B1 4 (by decide +kernel) rfl)))))), (te_ws (se_bin (op2_add B1.at_) (te_wo (se_bin (op2_mul B1.at_) (o_v B1 8 (by decide +kernel) rfl) (o_v B1 5 (by decide +kernel) rfl))) (o_v B1 9 (by decide +kernel) rfl)))⟩)))))))
    (ss_cons (ss_if (PW.pt (sw_or (t_cmp (op2_eq B.at_) (te_wo (w_bi B b_len v15 (cal_len B.at_) (o_cons (o_v B 3 v14 rfl) sao_nil))) (o_v B 6 v10 rfl)) (sw_or1 (t_cmp (op2_eq B.at_) (te_wo (w_bi B b_len v15 (cal_len B.at_) (o_cons (o_v B 4 v16 rfl) sao_nil))) (o_v B 5 v13 rfl)))))
    (ss_one (ss_ret (te_ws (se_tup (s_cons (s_v B 7 v12 rfl) (s_cons (te_ws (se_lst (s_cons (te_ws (se_bin (op2_mul B.at_) (te_wo w_str) (te_wo (se_bin (op2_add B.at_) (o_v B 1 v1 rfl) (o_v B 2 v5 rfl))))) sas_nil))) sas_nil))))))
    ss_nil)
    (ss_cons (y_lc B 10 [("text", 11)] v19 rfl (by decide +kernel) rfl (si_seq B.at_ (s_call B c_law_primes v18 (a_nm B 1 v1 rfl (a_nm B 3 v14 rfl sar_nil)))) (fun X2 h2 hb2 B2 => ⟨(g_v B2 11 (by decide +kernel) rfl), sts_nil, (te_ws (se_bin (op2_add B2.at_) (o_v B2 11 (by decide +kernel) rfl) (te_wo (se_bin (op2_mul B2.at_) (te_wo w_str) (o_v B2 2 (by decide +kernel) rfl)))))⟩))
    (ss_one (ss_ret (te_ws (se_tup (s_cons (s_v B 7 v12 rfl) (s_cons (te_ws (se_bin (op2_add B.at_) (o_v B 10 v20 rfl) (te_wo (w_lc B [("text", 11)] (by decide +kernel) rfl (si_seq B.at_ (s_call B c_law_primes v18 (a_nm B 2 v5 rfl (a_nm B 4 v16 rfl sar_nil)))) (fun X3 h3 hb3 B3 => ⟨(g_v B3 11 (by decide +kernel) rfl), sts_nil, (te_ws (se_bin (op2_add B3.at_) (te_wo (se_bin (op2_mul B3.at_) (te_wo w_str) (o_v B3 1 (by decide +kernel) rfl))) (o_v B3 11 (by decide +kernel) rfl)))⟩))))) sas_nil))))))))))))))
theorem fs_law_either : FnScope N_law_either ["numbers", "left", "right"] sc_law_either := ⟨rfl, rfl, rfl, by decide +kernel, rfl, by decide +kernel, by decide +kernel⟩
def d_law_either : He.DefD := ⟨("_law_either", none), "_law_either", "_law_either", defArgs s_law_either, defBody s_law_either, defScope s_law_either, [], []⟩
/-! ### law_opposite -/
abbrev s_law_opposite : Stmt := top 12
abbrev sc_law_opposite : Scope := defScope s_law_opposite
def N_law_opposite : List Str := ["text", "width", "found", "k"]
theorem f_law_opposite {g : G} {W : WX} {X : Cx} {k : Nat} (B : Bd g W X k N_law_opposite sc_law_opposite sc_law_opposite) (po : PassesOwn (model X.prog X.w) X.A X.env X.xe) (b_len : X.mg "len" = none) (b_range : X.mg "range" = none) : PSs X (defBody s_law_opposite) (Ts g W m_law_opposite) := by
  have v0 : locB sc_law_opposite "width" = true := by decide +kernel
  have v1 : visB sc_law_opposite "text" = true := by decide +kernel
  have v2 : glB sc_law_opposite "len" = true := by decide +kernel
  have v3 : locB sc_law_opposite "found" = true := by decide +kernel
  have v4 : glB sc_law_opposite "range" = true := by decide +kernel
  have v5 : visB sc_law_opposite "width" = true := by decide +kernel
  have v6 : locB sc_law_opposite "k" = true := by decide +kernel
  have v7 : visB sc_law_opposite "k" = true := by decide +kernel
  have v8 : visB sc_law_opposite "found" = true := by decide +kernel
  exact (ss_cons (y_setO B 1 v0 rfl (w_bi B b_len v2 (cal_len B.at_) (o_cons (o_v B 0 v1 rfl) sao_nil)))
    (ss_cons (y_setO B 2 v3 rfl (se_lst sas_nil))
    (ss_cons (y_for B po (i_rg1 B b_range v4 (o_v B 1 v5 rfl)) (g_v B 3 v6 rfl)
    (ss_cons (ss_if (t_cmp (op2_eq B.at_) (te_so (s_ix B (o_v B 0 v1 rfl) (o_v B 3 v7 rfl))) (te_wo w_str))
    (ss_one (y_app B 2 v8 rfl (te_ws (se_bin (op2_add B.at_) (te_wo (se_bin (op2_add B.at_) (te_wo (se_bin (op2_mul B.at_) (te_wo w_str) (o_v B 3 v7 rfl))) (te_wo w_str))) (te_wo (se_bin (op2_mul B.at_) (te_wo w_str) (te_wo (se_bin op2_sub (te_wo (se_bin op2_sub (o_v B 1 v5 rfl) (te_wo se_int))) (o_v B 3 v7 rfl)))))))))
    ss_nil)
    (ss_one (ss_if (t_cmp (op2_eq B.at_) (te_so (s_ix B (o_v B 0 v1 rfl) (o_v B 3 v7 rfl))) (te_wo w_str))
    (ss_one (y_app B 2 v8 rfl (te_ws (se_bin (op2_add B.at_) (te_wo (se_bin (op2_add B.at_) (te_wo (se_bin (op2_mul B.at_) (te_wo w_str) (o_v B 3 v7 rfl))) (te_wo w_str))) (te_wo (se_bin (op2_mul B.at_) (te_wo w_str) (te_wo (se_bin op2_sub (te_wo (se_bin op2_sub (o_v B 1 v5 rfl) (te_wo se_int))) (o_v B 3 v7 rfl)))))))))
    ss_nil))))
    (ss_one (ss_ret (s_v B 2 v8 rfl))))))
theorem fs_law_opposite : FnScope N_law_opposite ["text"] sc_law_opposite := ⟨rfl, rfl, rfl, by decide +kernel, rfl, by decide +kernel, by decide +kernel⟩
def d_law_opposite : He.DefD := ⟨("_law_opposite", none), "_law_opposite", "_law_opposite", defArgs s_law_opposite, defBody s_law_opposite, defScope s_law_opposite, [], []⟩
/-! ### law_case -/
abbrev s_law_case : Stmt := top 19
abbrev sc_law_case : Scope := defScope s_law_case
def N_law_case : List Str := ["numbers", "form", "width", "ones", "texts", "text", "k", "inside", "weights", "one", "digits", "digit"]
theorem f_law_case {g : G} {W : WX} {X : Cx} {k : Nat} (B : Bd g W X k N_law_case sc_law_case sc_law_case) (po : PassesOwn (model X.prog X.w) X.A X.env X.xe) (b_int : X.mg "int" = none) (b_range : X.mg "range" = none) (b_len : X.mg "len" = none) (b_str : X.mg "str" = none) (c_law_subset : Cl g X.mg X.base k "_law_subset" 2 p_law_subset) (c_law_primes : Cl g X.mg X.base k "_law_primes" 2 p_law_primes) (c_law_counted : Cl g X.mg X.base k "_law_counted" 2 p_law_counted) (c_law_far_cubes : Cl g X.mg X.base k "_law_far_cubes" 2 p_law_far_cubes) (c_law_both : Cl g X.mg X.base k "_law_both" 3 p_law_both) (c_law_either : Cl g X.mg X.base k "_law_either" 3 p_law_either) (c_law_covered : Cl g X.mg X.base k "_law_covered" 1 p_law_covered) (c_law_weights : Cl g X.mg X.base k "_law_weights" 1 p_law_weights) (c_law_opposite : Cl g X.mg X.base k "_law_opposite" 1 p_law_opposite) : PSs X (defBody s_law_case) (Ts g W m_law_case) := by
  have v0 : locB sc_law_case "width" = true := by decide +kernel
  have v1 : visB sc_law_case "numbers" = true := by decide +kernel
  have v2 : glB sc_law_case "int" = true := by decide +kernel
  have v3 : visB sc_law_case "form" = true := by decide +kernel
  have v4 : locB sc_law_case "ones" = true := by decide +kernel
  have v5 : visB sc_law_case "width" = true := by decide +kernel
  have v6 : glB sc_law_case "_law_subset" = true := by decide +kernel
  have v7 : visB sc_law_case "ones" = true := by decide +kernel
  have v8 : glB sc_law_case "_law_primes" = true := by decide +kernel
  have v9 : glB sc_law_case "_law_counted" = true := by decide +kernel
  have v10 : locB sc_law_case "texts" = true := by decide +kernel
  have v11 : glB sc_law_case "_law_far_cubes" = true := by decide +kernel
  have v12 : glB sc_law_case "_law_both" = true := by decide +kernel
  have v13 : glB sc_law_case "_law_either" = true := by decide +kernel
  have v14 : locB sc_law_case "text" = true := by decide +kernel
  have v15 : glB sc_law_case "range" = true := by decide +kernel
  have v16 : locB sc_law_case "inside" = true := by decide +kernel
  have v17 : visB sc_law_case "text" = true := by decide +kernel
  have v18 : glB sc_law_case "_law_covered" = true := by decide +kernel
  have v19 : locB sc_law_case "weights" = true := by decide +kernel
  have v20 : glB sc_law_case "_law_weights" = true := by decide +kernel
  have v21 : visB sc_law_case "weights" = true := by decide +kernel
  have v22 : glB sc_law_case "len" = true := by decide +kernel
  have v23 : lclB sc_law_case "ones" = true := by decide +kernel
  have v24 : glB sc_law_case "_law_opposite" = true := by decide +kernel
  have v25 : locB sc_law_case "one" = true := by decide +kernel
  have v26 : locB sc_law_case "digits" = true := by decide +kernel
  have v27 : lclB sc_law_case "digits" = true := by decide +kernel
  have v28 : visB sc_law_case "digits" = true := by decide +kernel
  have v29 : visB sc_law_case "texts" = true := by decide +kernel
  exact (ss_cons (y_setO B 2 v0 rfl (se_bin (op2_add B.at_) (te_wo se_int) (te_wo (se_bin op2_mod (te_wo (w_ty B b_int v2 cal_int (o_cons (te_so (s_ix B (o_v B 0 v1 rfl) (te_wo se_int))) sao_nil))) (te_wo se_int)))))
    (ss_cons (ss_if (t_cmp op2_lt (o_v B 1 v3 rfl) (te_wo se_int))
    (ss_cons (y_setO B 2 v0 rfl (se_bin op2_mod (te_wo (w_ty B b_int v2 cal_int (o_cons (te_so (s_ix B (o_v B 0 v1 rfl) (te_wo se_int))) sao_nil))) (te_wo se_int)))
    (ss_cons (y_setV B 3 v4 rfl (s_call B c_law_subset v6 (a_ex (te_ws (se_sl B.at_ (o_v B 0 v1 rfl) (sp_some (te_wo se_int)) sp_none)) (a_nm B 2 v5 rfl sar_nil))))
    (ss_one (ss_ret (te_ws (se_tup (s_cons (s_v B 2 v5 rfl) (s_cons (s_v B 3 v7 rfl) (s_cons (s_call B c_law_primes v8 (a_nm B 2 v5 rfl (a_nm B 3 v7 rfl sar_nil))) sas_nil)))))))))
    ss_nil)
    (ss_cons (ss_if (t_cmp (op2_eq B.at_) (o_v B 1 v3 rfl) (te_wo se_int))
    (ss_one (ss_asg (g_tp B (sgs_cons (g_v B 3 v4 rfl) (sgs_cons (g_v B 4 v10 rfl) sgs_nil))) (s_call B c_law_counted v9 (a_ex (te_ws (se_sl B.at_ (o_v B 0 v1 rfl) (sp_some (te_wo se_int)) sp_none)) (a_nm B 2 v5 rfl sar_nil)))))
    ss_nil)
    (ss_cons (ss_if (t_cmp (op2_eq B.at_) (o_v B 1 v3 rfl) (te_wo se_int))
    (ss_one (ss_asg (g_tp B (sgs_cons (g_v B 3 v4 rfl) (sgs_cons (g_v B 4 v10 rfl) sgs_nil))) (s_call B c_law_far_cubes v11 (a_ex (te_ws (se_sl B.at_ (o_v B 0 v1 rfl) (sp_some (te_wo se_int)) sp_none)) (a_nm B 2 v5 rfl sar_nil)))))
    ss_nil)
    (ss_cons (ss_if (t_cmp (op2_eq B.at_) (o_v B 1 v3 rfl) (te_wo se_int))
    (ss_one (ss_asg (g_tp B (sgs_cons (g_v B 3 v4 rfl) (sgs_cons (g_v B 4 v10 rfl) sgs_nil))) (s_call B c_law_both v12 (a_ex (te_ws (se_sl B.at_ (o_v B 0 v1 rfl) (sp_some (te_wo se_int)) sp_none)) (a_ex (te_ws (se_bin op2_sub (o_v B 2 v5 rfl) (te_wo se_int))) (a_ex (te_ws se_int) sar_nil))))))
    ss_nil)
    (ss_cons (ss_if (t_cmp (op2_eq B.at_) (o_v B 1 v3 rfl) (te_wo se_int))
    (ss_one (ss_asg (g_tp B (sgs_cons (g_v B 3 v4 rfl) (sgs_cons (g_v B 4 v10 rfl) sgs_nil))) (s_call B c_law_either v13 (a_ex (te_ws (se_sl B.at_ (o_v B 0 v1 rfl) (sp_some (te_wo se_int)) sp_none)) (a_ex (te_ws se_int) (a_ex (te_ws (se_bin op2_sub (o_v B 2 v5 rfl) (te_wo se_int))) sar_nil))))))
    ss_nil)
    (ss_cons (ss_if (t_cmp (op2_eq B.at_) (o_v B 1 v3 rfl) (te_wo se_int))
    (ss_cons (y_setO B 5 v14 rfl (se_join B.at_ (te_wo w_str) (te_wo (w_lc B [("k", 6)] (by decide +kernel) rfl (i_rg1 B b_range v15 (o_v B 2 v5 rfl)) (fun X1 h1 hb1 B1 => ⟨(g_v B1 6 (by decide +kernel) rfl), sts_nil, (s_ix B1 (te_wo (se_lst (s_cons (te_ws w_str) (s_cons (te_ws w_str) (s_cons (te_ws w_str) sas_nil))))) (te_wo (se_bin op2_mod (te_wo (w_ty B1 (by rw [h1]; exact b_int) (by decide +kernel) cal_int (o_cons (te_so (s_ix B1 (o_v B1 0 (by decide +kernel) rfl) (te_wo (se_bin (op2_add B1.at_) (te_wo se_int) (o_v B1 6 (by decide +kernel) rfl))))) sao_nil))) (te_wo se_int))))⟩))) rfl rfl rfl))
    (ss_cons (y_setV B 7 v16 rfl (s_call B c_law_covered v18 (a_nm B 5 v17 rfl sar_nil)))
    (ss_cons (y_setV B 8 v19 rfl (s_call B c_law_weights v20 (a_nm B 2 v5 rfl sar_nil)))
    (ss_cons (y_lc B 3 [("k", 6)] v23 rfl (by decide +kernel) rfl (i_rg1 B b_range v15 (te_wo (w_bi B b_len v22 (cal_len B.at_) (o_cons (o_v B 8 v21 rfl) sao_nil)))) (fun X2 h2 hb2 B2 => ⟨(g_v B2 6 (by decide +kernel) rfl), (sts_one (t_cmp (op2_notInA B2.at_) (o_v B2 6 (by decide +kernel) rfl) (o_v B2 7 (by decide +kernel) rfl))), (s_v B2 6 (by decide +kernel) rfl)⟩))
    (ss_cons (y_setV B 4 v10 rfl (s_call B c_law_opposite v24 (a_nm B 5 v17 rfl sar_nil)))
    (ss_one (ss_if (t_cmp (op2_eq B.at_) (te_wo (se_bin op2_mod (te_wo (w_ty B b_int v2 cal_int (o_cons (te_so (s_ix B (o_v B 0 v1 rfl) (te_wo se_int))) sao_nil))) (te_wo se_int))) (te_wo se_int))
    (ss_cons (y_lc B 3 [("k", 6)] v23 rfl (by decide +kernel) rfl (i_rg1 B b_range v15 (te_wo (w_bi B b_len v22 (cal_len B.at_) (o_cons (o_v B 8 v21 rfl) sao_nil)))) (fun X3 h3 hb3 B3 => ⟨(g_v B3 6 (by decide +kernel) rfl), (sts_one (t_cmp (op2_eq B3.at_) (te_wo (se_bin op2_mod (te_wo (w_ty B3 (by rw [h3]; exact b_int) (by decide +kernel) cal_int (o_cons (te_wo (se_bin (op2_add B3.at_) (te_so (s_ix B3 (o_v B3 8 (by decide +kernel) rfl) (o_v B3 6 (by decide +kernel) rfl))) (te_so (s_ix B3 (o_v B3 0 (by decide +kernel) rfl) (te_wo se_int))))) sao_nil))) (te_wo se_int))) (te_wo se_int))), (s_v B3 6 (by decide +kernel) rfl)⟩))
    (ss_cons (y_setO B 4 v10 rfl (se_lst sas_nil))
    (ss_one (y_for B po (si_seq B.at_ (s_v B 3 v7 rfl)) (g_v B 9 v25 rfl)
    (ss_cons (y_lc B 10 [("k", 6)] v27 rfl (by decide +kernel) rfl (i_rg1 B b_range v15 (o_v B 2 v5 rfl)) (fun X4 h4 hb4 B4 => ⟨(g_v B4 6 (by decide +kernel) rfl), sts_nil, (te_ws (se_bin op2_mod (te_wo (w_ty B4 (by rw [h4]; exact b_int) (by decide +kernel) cal_int (o_cons (te_wo (se_bin op2_fdiv (o_v B4 9 (by decide +kernel) rfl) (te_so (s_ix B4 (te_wo (se_lst (s_cons (te_ws se_int) (s_cons (te_ws se_int) (s_cons (te_ws se_int) (s_cons (te_ws se_int) (s_cons (te_ws se_int) (s_cons (te_ws se_int) (s_cons (te_ws se_int) (s_cons (te_ws se_int) sas_nil)))))))))) (te_wo (se_bin (op2_add B4.at_) (te_wo (se_bin op2_sub (te_wo se_int) (o_v B4 2 (by decide +kernel) rfl))) (o_v B4 6 (by decide +kernel) rfl))))))) sao_nil))) (te_wo se_int)))⟩))
    (ss_one (y_app B 4 v29 rfl (te_ws (se_join B.at_ (te_wo w_str) (te_wo (w_lc B [("digit", 11)] (by decide +kernel) rfl (si_seq B.at_ (s_v B 10 v28 rfl)) (fun X5 h5 hb5 B5 => ⟨(g_v B5 11 (by decide +kernel) rfl), sts_nil, (te_ws (w_ty B5 (by rw [h5]; exact b_str) (by decide +kernel) cal_str (o_cons (o_v B5 11 (by decide +kernel) rfl) sao_nil)))⟩))) rfl rfl rfl)))))))))
    ss_nil)))))))
    ss_nil)
    (ss_one (ss_ret (te_ws (se_tup (s_cons (s_v B 2 v5 rfl) (s_cons (s_v B 3 v7 rfl) (s_cons (s_v B 4 v29 rfl) sas_nil))))))))))))))
theorem fs_law_case : FnScope N_law_case ["numbers", "form"] sc_law_case := ⟨rfl, rfl, rfl, by decide +kernel, rfl, by decide +kernel, by decide +kernel⟩
def d_law_case : He.DefD := ⟨("_law_case", none), "_law_case", "_law_case", defArgs s_law_case, defBody s_law_case, defScope s_law_case, [], []⟩
/-! ### merged -/
abbrev s_merged : Stmt := top 2
abbrev sc_merged : Scope := defScope s_merged
def N_merged : List Str := ["width", "level", "there", "cube", "wider", "covered", "value", "mask", "at", "bit", "other"]
theorem f_merged {g : G} {W : WX} {X : Cx} {k : Nat} (B : Bd g W X k N_merged sc_merged sc_merged) (po : PassesOwn (model X.prog X.w) X.A X.env X.xe) (b_range : X.mg "range" = none) (b_list : X.mg "list" = none) : PSs X (defBody s_merged) (Ts g W m_merged) := by
  have v0 : locB sc_merged "there" = true := by decide +kernel
  have v1 : visB sc_merged "level" = true := by decide +kernel
  have v2 : lclB sc_merged "there" = true := by decide +kernel
  have v3 : locB sc_merged "wider" = true := by decide +kernel
  have v4 : locB sc_merged "covered" = true := by decide +kernel
  have v5 : locB sc_merged "mask" = true := by decide +kernel
  have v6 : locB sc_merged "value" = true := by decide +kernel
  have v7 : glB sc_merged "range" = true := by decide +kernel
  have v8 : visB sc_merged "width" = true := by decide +kernel
  have v9 : locB sc_merged "at" = true := by decide +kernel
  have v10 : locB sc_merged "bit" = true := by decide +kernel
  have v11 : visB sc_merged "at" = true := by decide +kernel
  have v12 : locB sc_merged "other" = true := by decide +kernel
  have v13 : visB sc_merged "mask" = true := by decide +kernel
  have v14 : visB sc_merged "value" = true := by decide +kernel
  have v15 : visB sc_merged "bit" = true := by decide +kernel
  have v16 : visB sc_merged "other" = true := by decide +kernel
  have v17 : visB sc_merged "there" = true := by decide +kernel
  have v18 : visB sc_merged "wider" = true := by decide +kernel
  have v19 : visB sc_merged "covered" = true := by decide +kernel
  have v20 : glB sc_merged "list" = true := by decide +kernel
  exact (ss_cons (y_dc B 2 [("cube", 3)] v2 rfl (by decide +kernel) rfl (si_seq B.at_ (s_v B 1 v1 rfl)) (fun X1 h1 hb1 B1 => ⟨(g_v B1 3 (by decide +kernel) rfl), sts_nil, (s_v B1 3 (by decide +kernel) rfl), (te_ws se_bl)⟩))
    (ss_cons (y_setO B 4 v3 rfl se_dct0)
    (ss_cons (y_setO B 5 v4 rfl se_dct0)
    (ss_cons (y_for B po (si_seq B.at_ (s_v B 1 v1 rfl)) (g_tp B (sgs_cons (g_v B 6 v6 rfl) (sgs_cons (g_v B 7 v5 rfl) sgs_nil)))
    (ss_one (y_for B po (i_rg1 B b_range v7 (o_v B 0 v8 rfl)) (g_v B 8 v9 rfl)
    (ss_cons (y_setO B 9 v10 rfl (se_bin op2_shl (te_wo se_int) (o_v B 8 v11 rfl)))
    (ss_cons (y_setO B 10 v12 rfl (se_tup (s_cons (te_ws (se_bin (op2_add B.at_) (o_v B 6 v14 rfl) (o_v B 9 v15 rfl))) (s_cons (s_v B 7 v13 rfl) sas_nil))))
    (ss_one (ss_if (PW.pt (sw_and (t_cmp (op2_eq B.at_) (te_wo (se_bin op2_and (o_v B 6 v14 rfl) (o_v B 9 v15 rfl))) (te_wo se_int)) (sw_and (t_cmp (op2_eq B.at_) (te_wo (se_bin op2_and (o_v B 7 v13 rfl) (o_v B 9 v15 rfl))) (te_wo se_int)) (sw_and1 (t_cmp (op2_inA B.at_) (o_v B 10 v16 rfl) (o_v B 2 v17 rfl))))))
    (ss_cons (y_st B 4 v18 rfl (te_wo (se_tup (s_cons (s_v B 6 v14 rfl) (s_cons (te_ws (se_bin (op2_add B.at_) (o_v B 7 v13 rfl) (o_v B 9 v15 rfl))) sas_nil)))) (te_ws se_bl))
    (ss_cons (y_st B 5 v19 rfl (te_wo (se_tup (s_cons (s_v B 6 v14 rfl) (s_cons (s_v B 7 v13 rfl) sas_nil)))) (te_ws se_bl))
    (ss_one (y_st B 5 v19 rfl (o_v B 10 v16 rfl) (te_ws se_bl)))))
    ss_nil)))))))
    (ss_one (ss_ret (te_ws (se_tup (s_cons (te_ws (w_ty B b_list v20 (cal_listA B.at_ B.calm) (o_cons (o_v B 4 v18 rfl) sao_nil))) (s_cons (te_ws (w_lc B [("cube", 3)] (by decide +kernel) rfl (si_seq B.at_ (s_v B 1 v1 rfl)) (fun X2 h2 hb2 B2 => ⟨(g_v B2 3 (by decide +kernel) rfl), (sts_one (t_cmp (op2_notInA B2.at_) (o_v B2 3 (by decide +kernel) rfl) (o_v B2 5 (by decide +kernel) rfl))), (s_v B2 3 (by decide +kernel) rfl)⟩))) sas_nil))))))))))
theorem fs_merged : FnScope N_merged ["width", "level"] sc_merged := ⟨rfl, rfl, rfl, by decide +kernel, rfl, by decide +kernel, by decide +kernel⟩
def d_merged : He.DefD := ⟨("merged", none), "merged", "merged", defArgs s_merged, defBody s_merged, defScope s_merged, [], []⟩
/-! ### cube_text -/
abbrev s_cube_text : Stmt := top 1
abbrev sc_cube_text : Scope := defScope s_cube_text
def N_cube_text : List Str := ["width", "value", "mask", "signs", "at", "bit"]
theorem f_cube_text {g : G} {W : WX} {X : Cx} {k : Nat} (B : Bd g W X k N_cube_text sc_cube_text sc_cube_text) (po : PassesOwn (model X.prog X.w) X.A X.env X.xe) (b_range : X.mg "range" = none) : PSs X (defBody s_cube_text) (Ts g W m_cube_text) := by
  have v0 : locB sc_cube_text "signs" = true := by decide +kernel
  have v1 : glB sc_cube_text "range" = true := by decide +kernel
  have v2 : visB sc_cube_text "width" = true := by decide +kernel
  have v3 : locB sc_cube_text "at" = true := by decide +kernel
  have v4 : locB sc_cube_text "bit" = true := by decide +kernel
  have v5 : visB sc_cube_text "at" = true := by decide +kernel
  have v6 : visB sc_cube_text "mask" = true := by decide +kernel
  have v7 : visB sc_cube_text "bit" = true := by decide +kernel
  have v8 : visB sc_cube_text "signs" = true := by decide +kernel
  have v9 : visB sc_cube_text "value" = true := by decide +kernel
  exact (ss_cons (y_setO B 3 v0 rfl (se_lst sas_nil))
    (ss_cons (y_for B po (i_rg1 B b_range v1 (o_v B 0 v2 rfl)) (g_v B 4 v3 rfl)
    (ss_cons (y_setO B 5 v4 rfl (se_bin op2_shl (te_wo se_int) (te_wo (se_bin op2_sub (te_wo (se_bin op2_sub (o_v B 0 v2 rfl) (te_wo se_int))) (o_v B 4 v5 rfl)))))
    (ss_one (ss_if (t_cmp (op2_ne B.at_) (te_wo (se_bin op2_and (o_v B 2 v6 rfl) (o_v B 5 v7 rfl))) (te_wo se_int))
    (ss_one (y_app B 3 v8 rfl (te_ws w_str)))
    (ss_one (ss_if (t_cmp (op2_ne B.at_) (te_wo (se_bin op2_and (o_v B 1 v9 rfl) (o_v B 5 v7 rfl))) (te_wo se_int))
    (ss_one (y_app B 3 v8 rfl (te_ws w_str)))
    (ss_one (y_app B 3 v8 rfl (te_ws w_str)))))))))
    (ss_one (ss_ret (te_ws (se_join B.at_ (te_wo w_str) (o_v B 3 v8 rfl) rfl rfl rfl))))))
theorem fs_cube_text : FnScope N_cube_text ["width", "value", "mask"] sc_cube_text := ⟨rfl, rfl, rfl, by decide +kernel, rfl, by decide +kernel, by decide +kernel⟩
def d_cube_text : He.DefD := ⟨("cube_text", none), "cube_text", "cube_text", defArgs s_cube_text, defBody s_cube_text, defScope s_cube_text, [], []⟩
/-! ### prime_cubes -/
abbrev s_prime_cubes : Stmt := top 3
abbrev sc_prime_cubes : Scope := defScope s_prime_cubes
def N_prime_cubes : List Str := ["width", "ones", "level", "number", "texts", "primes", "value", "mask"]
theorem f_prime_cubes {g : G} {W : WX} {X : Cx} {k : Nat} (B : Bd g W X k N_prime_cubes sc_prime_cubes sc_prime_cubes) (po : PassesOwn (model X.prog X.w) X.A X.env X.xe) (b_len : X.mg "len" = none) (b_sorted : X.mg "sorted" = none) (b_tuple : X.mg "tuple" = none) (c_merged : Cl g X.mg X.base k "merged" 2 p_merged) (c_cube_text : Cl g X.mg X.base k "cube_text" 3 p_cube_text) : PSs X (defBody s_prime_cubes) (Ts g W m_prime_cubes) := by
  have v0 : locB sc_prime_cubes "level" = true := by decide +kernel
  have v1 : visB sc_prime_cubes "ones" = true := by decide +kernel
  have v2 : lclB sc_prime_cubes "level" = true := by decide +kernel
  have v3 : locB sc_prime_cubes "texts" = true := by decide +kernel
  have v4 : visB sc_prime_cubes "level" = true := by decide +kernel
  have v5 : glB sc_prime_cubes "len" = true := by decide +kernel
  have v6 : visB sc_prime_cubes "width" = true := by decide +kernel
  have v7 : glB sc_prime_cubes "merged" = true := by decide +kernel
  have v8 : locB sc_prime_cubes "primes" = true := by decide +kernel
  have v9 : visB sc_prime_cubes "primes" = true := by decide +kernel
  have v10 : locB sc_prime_cubes "mask" = true := by decide +kernel
  have v11 : locB sc_prime_cubes "value" = true := by decide +kernel
  have v12 : visB sc_prime_cubes "mask" = true := by decide +kernel
  have v13 : visB sc_prime_cubes "value" = true := by decide +kernel
  have v14 : glB sc_prime_cubes "cube_text" = true := by decide +kernel
  have v15 : visB sc_prime_cubes "texts" = true := by decide +kernel
  have v16 : glB sc_prime_cubes "sorted" = true := by decide +kernel
  have v17 : glB sc_prime_cubes "tuple" = true := by decide +kernel
  exact (ss_cons (y_lc B 2 [("number", 3)] v2 rfl (by decide +kernel) rfl (si_seq B.at_ (s_v B 1 v1 rfl)) (fun X1 h1 hb1 B1 => ⟨(g_v B1 3 (by decide +kernel) rfl), sts_nil, (te_ws (se_tup (s_cons (s_v B1 3 (by decide +kernel) rfl) (s_cons (te_ws se_int) sas_nil))))⟩))
    (ss_cons (y_setO B 4 v3 rfl (se_lst sas_nil))
    (ss_cons (ss_while po (t_cmp op2_gt (te_wo (w_bi B b_len v5 (cal_len B.at_) (o_cons (o_v B 2 v4 rfl) sao_nil))) (te_wo se_int))
    (ss_cons (ss_asg (g_tp B (sgs_cons (g_v B 2 v0 rfl) (sgs_cons (g_v B 5 v8 rfl) sgs_nil))) (s_call B c_merged v7 (a_nm B 0 v6 rfl (a_nm B 2 v4 rfl sar_nil))))
    (ss_one (y_for B po (si_seq B.at_ (s_v B 5 v9 rfl)) (g_tp B (sgs_cons (g_v B 6 v11 rfl) (sgs_cons (g_v B 7 v10 rfl) sgs_nil)))
    (ss_one (y_app B 4 v15 rfl (s_call B c_cube_text v14 (a_nm B 0 v6 rfl (a_nm B 6 v13 rfl (a_nm B 7 v12 rfl sar_nil))))))))))
    (ss_one (ss_ret (te_ws (w_ty B b_tuple v17 (cal_tuple B.at_) (o_cons (te_wo (w_bi B b_sorted v16 (cal_sorted B.at_) (o_cons (o_v B 4 v15 rfl) sao_nil))) sao_nil))))))))
theorem fs_prime_cubes : FnScope N_prime_cubes ["width", "ones"] sc_prime_cubes := ⟨rfl, rfl, rfl, by decide +kernel, rfl, by decide +kernel, by decide +kernel⟩
def d_prime_cubes : He.DefD := ⟨("prime_cubes", none), "prime_cubes", "prime_cubes", defArgs s_prime_cubes, defBody s_prime_cubes, defScope s_prime_cubes, [], []⟩
/-! ### law_same -/
abbrev s_law_same : Stmt := top 10
abbrev sc_law_same : Scope := defScope s_law_same
def N_law_same : List Str := ["told", "due"]
theorem f_law_same {g : G} {W : WX} {X : Cx} {k : Nat} (B : Bd g W X k N_law_same sc_law_same sc_law_same) (po : PassesOwn (model X.prog X.w) X.A X.env X.xe) (b_isinstance : X.mg "isinstance" = none) (b_tuple : X.mg "tuple" = none) (b_list : X.mg "list" = none) (b_str : X.mg "str" = none) (b_bool : X.mg "bool" = none) (b_repr : X.mg "repr" = none) : PSs X (defBody s_law_same) (Ts g W m_law_same) := by
  have v0 : visB sc_law_same "due" = true := by decide +kernel
  have v1 : glB sc_law_same "isinstance" = true := by decide +kernel
  have v2 : glB sc_law_same "tuple" = true := by decide +kernel
  have v3 : visB sc_law_same "told" = true := by decide +kernel
  have v4 : glB sc_law_same "list" = true := by decide +kernel
  have v5 : glB sc_law_same "str" = true := by decide +kernel
  have v6 : glB sc_law_same "bool" = true := by decide +kernel
  have v7 : glB sc_law_same "repr" = true := by decide +kernel
  exact (ss_cons (ss_if (PW.pt (sw_and (t_val B (te_wo (w_isi B b_isinstance v1 b_tuple v2 (o_v B 1 v0 rfl)))) (sw_and1 (st_not (t_val B (te_wo (w_isi B b_isinstance v1 b_tuple v2 (o_v B 0 v3 rfl))))))))
    (ss_one (ss_ret (te_ws se_bl)))
    ss_nil)
    (ss_cons (ss_if (PW.pt (sw_and (t_val B (te_wo (w_isi B b_isinstance v1 b_list v4 (o_v B 1 v0 rfl)))) (sw_and1 (st_not (t_val B (te_wo (w_isi B b_isinstance v1 b_list v4 (o_v B 0 v3 rfl))))))))
    (ss_one (ss_ret (te_ws se_bl)))
    ss_nil)
    (ss_cons (ss_if (PW.pt (sw_and (t_val B (te_wo (w_isi B b_isinstance v1 b_str v5 (o_v B 1 v0 rfl)))) (sw_and1 (st_not (t_val B (te_wo (w_isi B b_isinstance v1 b_str v5 (o_v B 0 v3 rfl))))))))
    (ss_one (ss_ret (te_ws se_bl)))
    ss_nil)
    (ss_cons (ss_if (PW.pt (sw_and (t_val B (te_wo (w_isi B b_isinstance v1 b_bool v6 (o_v B 1 v0 rfl)))) (sw_and1 (st_not (t_val B (te_wo (w_isi B b_isinstance v1 b_bool v6 (o_v B 0 v3 rfl))))))))
    (ss_one (ss_ret (te_ws se_bl)))
    ss_nil)
    (ss_one (ss_ret (se_and B.at_ (te_ws (w_cmp (op2_eq B.at_) (o_v B 0 v3 rfl) (o_v B 1 v0 rfl))) (se_one (te_ws (w_cmp (op2_eq B.at_) (te_wo (w_bi B b_repr v7 (cal_repr B.at_ B.gd) (o_cons (o_v B 0 v3 rfl) sao_nil))) (te_wo (w_bi B b_repr v7 (cal_repr B.at_ B.gd) (o_cons (o_v B 1 v0 rfl) sao_nil)))))))))))))
theorem fs_law_same : FnScope N_law_same ["told", "due"] sc_law_same := ⟨rfl, rfl, rfl, by decide +kernel, rfl, by decide +kernel, by decide +kernel⟩
def d_law_same : He.DefD := ⟨("_law_same", none), "_law_same", "_law_same", defArgs s_law_same, defBody s_law_same, defScope s_law_same, [], []⟩
/-! ### law -/
abbrev s_law : Stmt := top 21
abbrev sc_law : Scope := defScope s_law
def N_law : List Str := ["script", "form", "width", "ones", "texts", "due", "handed"]
theorem f_law {g : G} {W : WX} {X : Cx} {k : Nat} (B : Bd g W X k N_law sc_law sc_law) (po : PassesOwn (model X.prog X.w) X.A X.env X.xe) (b_abs : X.mg "abs" = none) (b_sorted : X.mg "sorted" = none) (b_tuple : X.mg "tuple" = none) (b_list : X.mg "list" = none) (c_law_spread : Cl g X.mg X.base k "_law_spread" 1 p_law_spread) (c_law_cell : Cl g X.mg X.base k "_law_cell" 2 p_law_cell) (c_law_numbers : Cl g X.mg X.base k "_law_numbers" 2 p_law_numbers) (c_law_case : Cl g X.mg X.base k "_law_case" 2 p_law_case) (c_prime_cubes : Cl g X.mg X.base k "prime_cubes" 2 p_prime_cubes) (c_law_same : Cl g X.mg X.base k "_law_same" 2 p_law_same) : PSs X (defBody s_law) (Ts g W m_law) := by
  have v0 : locB sc_law "script" = true := by decide +kernel
  have v1 : visB sc_law "script" = true := by decide +kernel
  have v2 : glB sc_law "_law_spread" = true := by decide +kernel
  have v3 : locB sc_law "form" = true := by decide +kernel
  have v4 : glB sc_law "_law_cell" = true := by decide +kernel
  have v5 : glB sc_law "abs" = true := by decide +kernel
  have v6 : visB sc_law "form" = true := by decide +kernel
  have v7 : glB sc_law "_law_numbers" = true := by decide +kernel
  have v8 : glB sc_law "_law_case" = true := by decide +kernel
  have v9 : locB sc_law "texts" = true := by decide +kernel
  have v10 : locB sc_law "ones" = true := by decide +kernel
  have v11 : locB sc_law "width" = true := by decide +kernel
  have v12 : locB sc_law "due" = true := by decide +kernel
  have v13 : visB sc_law "texts" = true := by decide +kernel
  have v14 : glB sc_law "sorted" = true := by decide +kernel
  have v15 : glB sc_law "tuple" = true := by decide +kernel
  have v16 : locB sc_law "handed" = true := by decide +kernel
  have v17 : visB sc_law "ones" = true := by decide +kernel
  have v18 : glB sc_law "list" = true := by decide +kernel
  have v19 : visB sc_law "due" = true := by decide +kernel
  have v20 : visB sc_law "handed" = true := by decide +kernel
  have v21 : visB sc_law "width" = true := by decide +kernel
  have v22 : glB sc_law "prime_cubes" = true := by decide +kernel
  have v23 : glB sc_law "_law_same" = true := by decide +kernel
  exact (ss_cons (y_setV B 0 v0 rfl (s_call B c_law_spread v2 (a_nm B 0 v1 rfl sar_nil)))
    (ss_cons (y_setO B 1 v3 rfl (se_bin op2_mod (te_wo (w_bi B b_abs v5 cal_abs (o_cons (te_so (s_call B c_law_cell v4 (a_nm B 0 v1 rfl (a_ex (te_ws se_int) sar_nil)))) sao_nil))) (te_wo se_int)))
    (ss_cons (ss_asg (g_tp B (sgs_cons (g_v B 2 v11 rfl) (sgs_cons (g_v B 3 v10 rfl) (sgs_cons (g_v B 4 v9 rfl) sgs_nil)))) (s_call B c_law_case v8 (a_ex (s_call B c_law_numbers v7 (a_ex (s_call B c_law_cell v4 (a_nm B 0 v1 rfl (a_ex (te_ws se_int) sar_nil))) (a_ex (te_ws se_int) sar_nil))) (a_nm B 1 v6 rfl sar_nil))))
    (ss_cons (y_setO B 5 v12 rfl (w_ty B b_tuple v15 (cal_tuple B.at_) (o_cons (te_wo (w_bi B b_sorted v14 (cal_sorted B.at_) (o_cons (o_v B 4 v13 rfl) sao_nil))) sao_nil)))
    (ss_cons (y_setO B 6 v16 rfl (w_ty B b_list v18 (cal_listA B.at_ B.calm) (o_cons (o_v B 3 v17 rfl) sao_nil)))
    (ss_cons (ss_if (PW.pt (sw_or (st_not (t_val B (te_so (s_call B c_law_same v23 (a_ex (s_call B c_prime_cubes v22 (a_nm B 2 v21 rfl (a_nm B 6 v20 rfl sar_nil))) (a_nm B 5 v19 rfl sar_nil)))))) (sw_or1 (t_cmp (op2_ne B.at_) (o_v B 6 v20 rfl) (o_v B 3 v17 rfl)))))
    (ss_one (ss_ret (te_ws se_bl)))
    ss_nil)
    (ss_one (ss_ret (s_call B c_law_same v23 (a_ex (s_call B c_prime_cubes v22 (a_nm B 2 v21 rfl (a_ex (te_ws (w_ty B b_tuple v15 (cal_tuple B.at_) (o_cons (o_v B 3 v17 rfl) sao_nil))) sar_nil))) (a_nm B 5 v19 rfl sar_nil)))))))))))
theorem fs_law : FnScope N_law ["script"] sc_law := ⟨rfl, rfl, rfl, by decide +kernel, rfl, by decide +kernel, by decide +kernel⟩
def d_law : He.DefD := ⟨("law", none), "law", "law", defArgs s_law, defBody s_law, defScope s_law, [], []⟩
/-! ### the table -/
def fnT : List He.DefD := [d_law_cell, d_law_spread, d_law_numbers, d_law_subset, d_law_covered, d_law_implicants, d_law_primes, d_law_weights, d_law_shuffles, d_law_counted, d_law_far_cubes, d_law_both, d_law_either, d_law_opposite, d_law_case, d_merged, d_cube_text, d_prime_cubes, d_law_same, d_law]
def faT : List He.Fa := [.glo "_law_cell", .glo "_law_spread", .glo "_law_numbers", .glo "_law_subset", .glo "_law_covered", .glo "_law_implicants", .glo "_law_primes", .glo "_law_weights", .glo "_law_shuffles", .glo "_law_counted", .glo "_law_far_cubes", .glo "_law_both", .glo "_law_either", .glo "_law_opposite", .glo "_law_case", .glo "merged", .glo "cube_text", .glo "prime_cubes", .glo "_law_same", .glo "law", .free "len", .free "range", .free "abs", .free "int", .free "sorted", .free "tuple", .free "str", .free "list", .free "isinstance", .free "bool", .free "repr"]
section
variable {g : G} {mg : Str → Option Value} {base : Heap} (c : He.SaysD faT fnT g.K) (KI : g.K.In base) (Gn : base.Ns mainGlobals mg)
include c KI Gn
theorem b_len : mg "len" = none := He.free_ok KI Gn (c.fact 20 (f := .free "len") rfl)
theorem b_range : mg "range" = none := He.free_ok KI Gn (c.fact 21 (f := .free "range") rfl)
theorem b_abs : mg "abs" = none := He.free_ok KI Gn (c.fact 22 (f := .free "abs") rfl)
theorem b_int : mg "int" = none := He.free_ok KI Gn (c.fact 23 (f := .free "int") rfl)
theorem b_sorted : mg "sorted" = none := He.free_ok KI Gn (c.fact 24 (f := .free "sorted") rfl)
theorem b_tuple : mg "tuple" = none := He.free_ok KI Gn (c.fact 25 (f := .free "tuple") rfl)
theorem b_str : mg "str" = none := He.free_ok KI Gn (c.fact 26 (f := .free "str") rfl)
theorem b_list : mg "list" = none := He.free_ok KI Gn (c.fact 27 (f := .free "list") rfl)
theorem b_isinstance : mg "isinstance" = none := He.free_ok KI Gn (c.fact 28 (f := .free "isinstance") rfl)
theorem b_bool : mg "bool" = none := He.free_ok KI Gn (c.fact 29 (f := .free "bool") rfl)
theorem b_repr : mg "repr" = none := He.free_ok KI Gn (c.fact 30 (f := .free "repr") rfl)
theorem cl_law_cell : Cl g mg base 1 "_law_cell" 2 p_law_cell := cl_of (m := m_law_cell) (N := N_law_cell) (ps := ["script", "k"]) c KI Gn 0 0 (d := d_law_cell) rfl rfl rfl rfl rfl fs_law_cell (by decide +kernel) (fun _ _ _ _ _ _ us hl => match us, hl with | [_, _], _ => rfl)
  (fun {W X} h1 h2 B po => f_law_cell B po (by rw [h1]; exact b_len c KI Gn))
theorem cl_law_spread : Cl g mg base 2 "_law_spread" 1 p_law_spread := cl_of (m := m_law_spread) (N := N_law_spread) (ps := ["script"]) c KI Gn 1 1 (d := d_law_spread) rfl rfl rfl rfl rfl fs_law_spread (by decide +kernel) (fun _ _ _ _ _ _ us hl => match us, hl with | [_], _ => rfl)
  (fun {W X} h1 h2 B po => f_law_spread B po (by rw [h1]; exact b_range c KI Gn) (by rw [h1, h2]; exact (cl_law_cell c KI Gn).mono (by decide)))
theorem cl_law_numbers : Cl g mg base 1 "_law_numbers" 2 p_law_numbers := cl_of (m := m_law_numbers) (N := N_law_numbers) (ps := ["cell", "count"]) c KI Gn 2 2 (d := d_law_numbers) rfl rfl rfl rfl rfl fs_law_numbers (by decide +kernel) (fun _ _ _ _ _ _ us hl => match us, hl with | [_, _], _ => rfl)
  (fun {W X} h1 h2 B po => f_law_numbers B po (by rw [h1]; exact b_abs c KI Gn) (by rw [h1]; exact b_range c KI Gn) (by rw [h1]; exact b_int c KI Gn))
theorem cl_law_subset : Cl g mg base 1 "_law_subset" 2 p_law_subset := cl_of (m := m_law_subset) (N := N_law_subset) (ps := ["numbers", "width"]) c KI Gn 3 3 (d := d_law_subset) rfl rfl rfl rfl rfl fs_law_subset (by decide +kernel) (fun _ _ _ _ _ _ us hl => match us, hl with | [_, _], _ => rfl)
  (fun {W X} h1 h2 B po => f_law_subset B po (by rw [h1]; exact b_int c KI Gn) (by rw [h1]; exact b_range c KI Gn))
theorem cl_law_covered : Cl g mg base 1 "_law_covered" 1 p_law_covered := cl_of (m := m_law_covered) (N := N_law_covered) (ps := ["text"]) c KI Gn 4 4 (d := d_law_covered) rfl rfl rfl rfl rfl fs_law_covered (by decide +kernel) (fun _ _ _ _ _ _ us hl => match us, hl with | [_], _ => rfl)
  (fun {W X} h1 h2 B po => f_law_covered B po)
theorem cl_law_implicants : Cl g mg base 2 "_law_implicants" 2 p_law_implicants := cl_of (m := m_law_implicants) (N := N_law_implicants) (ps := ["width", "ones"]) c KI Gn 5 5 (d := d_law_implicants) rfl rfl rfl rfl rfl fs_law_implicants (by decide +kernel) (fun _ _ _ _ _ _ us hl => match us, hl with | [_, _], _ => rfl)
  (fun {W X} h1 h2 B po => f_law_implicants B po (by rw [h1]; exact b_range c KI Gn) (by rw [h1, h2]; exact (cl_law_covered c KI Gn).mono (by decide)))
theorem cl_law_primes : Cl g mg base 3 "_law_primes" 2 p_law_primes := cl_of (m := m_law_primes) (N := N_law_primes) (ps := ["width", "ones"]) c KI Gn 6 6 (d := d_law_primes) rfl rfl rfl rfl rfl fs_law_primes (by decide +kernel) (fun _ _ _ _ _ _ us hl => match us, hl with | [_, _], _ => rfl)
  (fun {W X} h1 h2 B po => f_law_primes B po (by rw [h1]; exact b_range c KI Gn) (by rw [h1]; exact b_sorted c KI Gn) (by rw [h1]; exact b_tuple c KI Gn) (by rw [h1, h2]; exact (cl_law_implicants c KI Gn).mono (by decide)))
theorem cl_law_weights : Cl g mg base 1 "_law_weights" 1 p_law_weights := cl_of (m := m_law_weights) (N := N_law_weights) (ps := ["width"]) c KI Gn 7 7 (d := d_law_weights) rfl rfl rfl rfl rfl fs_law_weights (by decide +kernel) (fun _ _ _ _ _ _ us hl => match us, hl with | [_], _ => rfl)
  (fun {W X} h1 h2 B po => f_law_weights B po (by rw [h1]; exact b_range c KI Gn))
theorem cl_law_shuffles : Cl g mg base 1 "_law_shuffles" 3 p_law_shuffles := cl_of (m := m_law_shuffles) (N := N_law_shuffles) (ps := ["width", "ones", "zeros"]) c KI Gn 8 8 (d := d_law_shuffles) rfl rfl rfl rfl rfl fs_law_shuffles (by decide +kernel) (fun _ _ _ _ _ _ us hl => match us, hl with | [_, _, _], _ => rfl)
  (fun {W X} h1 h2 B po => f_law_shuffles B po (by rw [h1]; exact b_range c KI Gn))
theorem cl_law_counted : Cl g mg base 2 "_law_counted" 2 p_law_counted := cl_of (m := m_law_counted) (N := N_law_counted) (ps := ["numbers", "width"]) c KI Gn 9 9 (d := d_law_counted) rfl rfl rfl rfl rfl fs_law_counted (by decide +kernel) (fun _ _ _ _ _ _ us hl => match us, hl with | [_, _], _ => rfl)
  (fun {W X} h1 h2 B po => f_law_counted B po (by rw [h1]; exact b_int c KI Gn) (by rw [h1]; exact b_range c KI Gn) (by rw [h1]; exact b_len c KI Gn) (by rw [h1, h2]; exact (cl_law_weights c KI Gn).mono (by decide)) (by rw [h1, h2]; exact (cl_law_shuffles c KI Gn).mono (by decide)))
theorem cl_law_far_cubes : Cl g mg base 2 "_law_far_cubes" 2 p_law_far_cubes := cl_of (m := m_law_far_cubes) (N := N_law_far_cubes) (ps := ["numbers", "width"]) c KI Gn 10 10 (d := d_law_far_cubes) rfl rfl rfl rfl rfl fs_law_far_cubes (by decide +kernel) (fun _ _ _ _ _ _ us hl => match us, hl with | [_, _], _ => rfl)
  (fun {W X} h1 h2 B po => f_law_far_cubes B po (by rw [h1]; exact b_int c KI Gn) (by rw [h1]; exact b_range c KI Gn) (by rw [h1]; exact b_sorted c KI Gn) (by rw [h1, h2]; exact (cl_law_covered c KI Gn).mono (by decide)))
theorem cl_law_both : Cl g mg base 4 "_law_both" 3 p_law_both := cl_of (m := m_law_both) (N := N_law_both) (ps := ["numbers", "left", "right"]) c KI Gn 11 11 (d := d_law_both) rfl rfl rfl rfl rfl fs_law_both (by decide +kernel) (fun _ _ _ _ _ _ us hl => match us, hl with | [_, _, _], _ => rfl)
  (fun {W X} h1 h2 B po => f_law_both B po (by rw [h1, h2]; exact (cl_law_subset c KI Gn).mono (by decide)) (by rw [h1, h2]; exact (cl_law_primes c KI Gn).mono (by decide)))
theorem cl_law_either : Cl g mg base 4 "_law_either" 3 p_law_either := cl_of (m := m_law_either) (N := N_law_either) (ps := ["numbers", "left", "right"]) c KI Gn 12 12 (d := d_law_either) rfl rfl rfl rfl rfl fs_law_either (by decide +kernel) (fun _ _ _ _ _ _ us hl => match us, hl with | [_, _, _], _ => rfl)
  (fun {W X} h1 h2 B po => f_law_either B po (by rw [h1]; exact b_range c KI Gn) (by rw [h1]; exact b_len c KI Gn) (by rw [h1, h2]; exact (cl_law_subset c KI Gn).mono (by decide)) (by rw [h1, h2]; exact (cl_law_primes c KI Gn).mono (by decide)))
theorem cl_law_opposite : Cl g mg base 1 "_law_opposite" 1 p_law_opposite := cl_of (m := m_law_opposite) (N := N_law_opposite) (ps := ["text"]) c KI Gn 13 13 (d := d_law_opposite) rfl rfl rfl rfl rfl fs_law_opposite (by decide +kernel) (fun _ _ _ _ _ _ us hl => match us, hl with | [_], _ => rfl)
  (fun {W X} h1 h2 B po => f_law_opposite B po (by rw [h1]; exact b_len c KI Gn) (by rw [h1]; exact b_range c KI Gn))
theorem cl_law_case : Cl g mg base 5 "_law_case" 2 p_law_case := cl_of (m := m_law_case) (N := N_law_case) (ps := ["numbers", "form"]) c KI Gn 14 14 (d := d_law_case) rfl rfl rfl rfl rfl fs_law_case (by decide +kernel) (fun _ _ _ _ _ _ us hl => match us, hl with | [_, _], _ => rfl)
  (fun {W X} h1 h2 B po => f_law_case B po (by rw [h1]; exact b_int c KI Gn) (by rw [h1]; exact b_range c KI Gn) (by rw [h1]; exact b_len c KI Gn) (by rw [h1]; exact b_str c KI Gn) (by rw [h1, h2]; exact (cl_law_subset c KI Gn).mono (by decide)) (by rw [h1, h2]; exact (cl_law_primes c KI Gn).mono (by decide)) (by rw [h1, h2]; exact (cl_law_counted c KI Gn).mono (by decide)) (by rw [h1, h2]; exact (cl_law_far_cubes c KI Gn).mono (by decide)) (by rw [h1, h2]; exact (cl_law_both c KI Gn).mono (by decide)) (by rw [h1, h2]; exact (cl_law_either c KI Gn).mono (by decide)) (by rw [h1, h2]; exact (cl_law_covered c KI Gn).mono (by decide)) (by rw [h1, h2]; exact (cl_law_weights c KI Gn).mono (by decide)) (by rw [h1, h2]; exact (cl_law_opposite c KI Gn).mono (by decide)))
theorem cl_merged : Cl g mg base 1 "merged" 2 p_merged := cl_of (m := m_merged) (N := N_merged) (ps := ["width", "level"]) c KI Gn 15 15 (d := d_merged) rfl rfl rfl rfl rfl fs_merged (by decide +kernel) (fun _ _ _ _ _ _ us hl => match us, hl with | [_, _], _ => rfl)
  (fun {W X} h1 h2 B po => f_merged B po (by rw [h1]; exact b_range c KI Gn) (by rw [h1]; exact b_list c KI Gn))
theorem cl_cube_text : Cl g mg base 1 "cube_text" 3 p_cube_text := cl_of (m := m_cube_text) (N := N_cube_text) (ps := ["width", "value", "mask"]) c KI Gn 16 16 (d := d_cube_text) rfl rfl rfl rfl rfl fs_cube_text (by decide +kernel) (fun _ _ _ _ _ _ us hl => match us, hl with | [_, _, _], _ => rfl)
  (fun {W X} h1 h2 B po => f_cube_text B po (by rw [h1]; exact b_range c KI Gn))
theorem cl_prime_cubes : Cl g mg base 2 "prime_cubes" 2 p_prime_cubes := cl_of (m := m_prime_cubes) (N := N_prime_cubes) (ps := ["width", "ones"]) c KI Gn 17 17 (d := d_prime_cubes) rfl rfl rfl rfl rfl fs_prime_cubes (by decide +kernel) (fun _ _ _ _ _ _ us hl => match us, hl with | [_, _], _ => rfl)
  (fun {W X} h1 h2 B po => f_prime_cubes B po (by rw [h1]; exact b_len c KI Gn) (by rw [h1]; exact b_sorted c KI Gn) (by rw [h1]; exact b_tuple c KI Gn) (by rw [h1, h2]; exact (cl_merged c KI Gn).mono (by decide)) (by rw [h1, h2]; exact (cl_cube_text c KI Gn).mono (by decide)))
theorem cl_law_same : Cl g mg base 1 "_law_same" 2 p_law_same := cl_of (m := m_law_same) (N := N_law_same) (ps := ["told", "due"]) c KI Gn 18 18 (d := d_law_same) rfl rfl rfl rfl rfl fs_law_same (by decide +kernel) (fun _ _ _ _ _ _ us hl => match us, hl with | [_, _], _ => rfl)
  (fun {W X} h1 h2 B po => f_law_same B po (by rw [h1]; exact b_isinstance c KI Gn) (by rw [h1]; exact b_tuple c KI Gn) (by rw [h1]; exact b_list c KI Gn) (by rw [h1]; exact b_str c KI Gn) (by rw [h1]; exact b_bool c KI Gn) (by rw [h1]; exact b_repr c KI Gn))
theorem cl_law : Cl g mg base 6 "law" 1 p_law := cl_of (m := m_law) (N := N_law) (ps := ["script"]) c KI Gn 19 19 (d := d_law) rfl rfl rfl rfl rfl fs_law (by decide +kernel) (fun _ _ _ _ _ _ us hl => match us, hl with | [_], _ => rfl)
  (fun {W X} h1 h2 B po => f_law B po (by rw [h1]; exact b_abs c KI Gn) (by rw [h1]; exact b_sorted c KI Gn) (by rw [h1]; exact b_tuple c KI Gn) (by rw [h1]; exact b_list c KI Gn) (by rw [h1, h2]; exact (cl_law_spread c KI Gn).mono (by decide)) (by rw [h1, h2]; exact (cl_law_cell c KI Gn).mono (by decide)) (by rw [h1, h2]; exact (cl_law_numbers c KI Gn).mono (by decide)) (by rw [h1, h2]; exact (cl_law_case c KI Gn).mono (by decide)) (by rw [h1, h2]; exact (cl_prime_cubes c KI Gn).mono (by decide)) (by rw [h1, h2]; exact (cl_law_same c KI Gn).mono (by decide)))
end
end
/-! ### the head -/
abbrev RowT : PySem.W.OpenRow := PySem.W.OpenLaw.row PySem.Challenge.rw_neverdrivendark_k70_prime_cubes_by_value
abbrev hkT : PySem.W.Hook := He.hookD 4 faT fnT
def obT (s : PySem.W.SharedT) : He.AlD := He.obsDG 4 faT fnT (HandSHeadRun.getT s)
theorem obT_eq (s : PySem.W.SharedT) : obT s = hkT.obs s.abs := He.obsDG_eq (HandSHeadRun.getT_eq s)
def looseT : List PySem.Str := ["cube_text", "merged", "prime_cubes", "_law_cell", "_law_numbers", "_law_covered", "_law_implicants", "_law_primes", "_law_same", "_law_subset", "_law_opposite", "_law_shuffles", "_law_weights", "_law_counted", "_law_far_cubes", "_law_both", "_law_either", "_law_case", "_law_spread"]
theorem runT (w : World) : HandSHeadRun.RunEq RowT (PySem.W.view RowT.prog [21]) hkT obT 1280 looseT w := by
  intro os
  kernel_rfl
theorem bindT {K : PySem.W.Frag} {f : Addr} {fd : FuncData} (F : FunD K "law" "law" (defArgs s_law) (defBody s_law) (defScope s_law) [] [] f fd) (s : Shared) (v : Value) : BindsTo s fd ⟨[v], []⟩ [("script", v)] :=
  FunD.bindsA (ps := ["script"]) F (fun _ _ _ _ _ _ us hl => match us, hl with | [_], _ => rfl) s [v] rfl
theorem factsT {w : World} {K : PySem.W.Frag} {h : Heap} {mg : Str → Option Value} {fa : Addr} (KI : K.In h) (Gn : h.Ns mainGlobals mg) (hfa : mg ("law" : Str) = some (.ref fa)) (c : He.SaysD faT fnT K)
    (law : ∀ ns : List Int, ns.length ≤ 63 → p_law [.lst (ns.map D.int)] = .ok (.bl true)) :
    ∃ (g : G) (fd : FuncData) (Φ : Fn), g.P = RowT.prog ∧ g.w = w ∧ g.K.In h ∧ (∀ (s : Shared) (u : Value), BindsTo s fd ⟨[u], []⟩ [("script", u)]) ∧ (∀ ns : List Int, ns.length ≤ 63 → Φ [.lst (ns.map D.int)] = .ok (.bl true)) ∧
      ∀ base : Heap, g.K.In base → base.Ns mainGlobals mg → FnG g mg base 6 fa fd ["script"] Φ := by
  obtain ⟨fd, F⟩ := c.def_ 19 (d := d_law) rfl
  have e := hfa.symm.trans (He.glo_ok KI Gn (c.fact 19 (f := .glo "law") rfl))
  cases e
  refine ⟨⟨RowT.prog, w, K, fun _ => 0⟩, fd, p_law, rfl, rfl, KI, bindT F, law, fun base KB GB => ?_⟩
  have F : FunD K "law" "law" (defArgs s_law) (defBody s_law) (defScope s_law) [] [] (He.ga K "law") fd := F
  exact fnG_of (g := ⟨RowT.prog, w, K, fun _ => 0⟩) F fs_law fun cdv A outer s H E hr hgd => f_law (body_bd hr hgd (by decide +kernel) (by decide +kernel) rfl) body_passes (b_abs c KB GB) (b_sorted c KB GB) (b_tuple c KB GB) (b_list c KB GB) ((cl_law_spread (g := ⟨RowT.prog, w, K, fun _ => 0⟩) c KB GB).mono (by decide)) ((cl_law_cell (g := ⟨RowT.prog, w, K, fun _ => 0⟩) c KB GB).mono (by decide)) ((cl_law_numbers (g := ⟨RowT.prog, w, K, fun _ => 0⟩) c KB GB).mono (by decide)) ((cl_law_case (g := ⟨RowT.prog, w, K, fun _ => 0⟩) c KB GB).mono (by decide)) ((cl_prime_cubes (g := ⟨RowT.prog, w, K, fun _ => 0⟩) c KB GB).mono (by decide)) ((cl_law_same (g := ⟨RowT.prog, w, K, fun _ => 0⟩) c KB GB).mono (by decide))
theorem headT {n : Nat} (hn : n = 63) (law : ∀ ns : List Int, ns.length ≤ 63 → p_law [.lst (ns.map D.int)] = .ok (.bl true)) : PySem.W.WalkO (PySem.W.view RowT.prog [21]) looseT (PySem.W.XL (PySem.W.view RowT.prog [21]) []) hkT.says RowT.toRowW (HandSHeadRun.topDef RowT.prog 21) [] (fun f vs => PySem.call f vs) := by
  subst hn
  refine walk_law (l := PySem.Challenge.rw_neverdrivendark_k70_prime_cubes_by_value) (n := 63) (k := 6) (x := "script") rfl (by decide) (by kernel_rfl) ⟨rfl, by decide, by decide⟩ ?_
  intro w mg fa h Y Gn hmg0
  obtain ⟨K, KI, c⟩ := Y
  have hmg : mg ("law" : PySem.Str) = some (.ref fa) := by
    have e : (HandSHeadRun.topDef RowT.prog 21).name = ("law" : PySem.Str) := by kernel_rfl
    rw [← e]
    exact hmg0
  exact factsT (w := w) KI Gn hmg c law
end MP
open PySem PySem.W PySem.Calls PyProof.Rows
theorem holdsT (law : ∀ ns : List Int, ns.length ≤ 63 → MP.p_law [.lst (ns.map MP.D.int)] = .ok (.bl true)) : PySem.Challenge.rw_neverdrivendark_k70_prime_cubes_by_value.Holds := by
  w_on; o_law
  refine HandSHeadRun.head_any (r := MP.RowT) (q := view MP.RowT.prog [21]) (H := MP.hkT) (ob := MP.obT) (M := 1280) (loose := MP.looseT) (d := HandSHeadRun.topDef MP.RowT.prog 21) (kwd := []) MP.obT_eq
    (by kernel_rfl) (fun s => by kernel_rfl) MP.runT (by kernel_rfl) (by kernel_rfl) (by kernel_rfl) (by rfl) (by first | assumption | decide +kernel) (by decide +kernel) ⟨rfl, rfl, rfl, rfl, rfl, by decide +kernel⟩ ?hw ?hc
  case hw => w_witness2
  case hc => exact MP.headT rfl law

theorem PySem.Challenge.cw_neverdrivendark_k70_prime_cubes_by_value_holds : PySem.Challenge.rw_neverdrivendark_k70_prime_cubes_by_value.Holds := by
  exact holdsT fun ns _ => MP.law70 ns
