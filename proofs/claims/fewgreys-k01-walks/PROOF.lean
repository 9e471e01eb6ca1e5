import PyProof.Rows.All
import Wide.All
import OpenK.AllK
import Wide.FinOn
import HandS.Base
import HandS.Call
import HandS.List
import HandS.Comp
import HandS.Dict
import HandS.Iter
import HandS.Exc
import HandS.Words
import HandS.WordsExc
import HandS.Lambda
import HandS.Wide
import HandS.TupLe
import HandS.Text
import HandS.Deep
import HandS.Style
import HandS.Flow
import HandS.SortInts
import HandS.Conv
import HandS.More
import HandS.TupAny
import HandS.ExcInit
import KE.GoesEnum
import KE.GoesZip
import KE.GoesMore
import HandS.Defaults
import HandS.IsInst
import PyProof.ReprRoads
import HandS.TryMany
import HandS.ExcField
import HandS.HeadHook4
import HandS.EndBits
import HandS.EndTab
import HandS.CallLocal
import HandS.HeadEnd
import KE.DataMinKey
import HandS.SetFor
import HandS.TupSets
import KE.KTupSum
import HandS.Small
import HandS.Set
import PyProof.Rows.ChunkLeaf
import KE.KStateDown
import HandS.Head0
import HandS.Head1
import HandS.Head2
import HandS.HeadHook1
import HandS.HeadHook2
import HandS.HeadHook3
import HandS.HeadWalk
import PySem.Challenge.RW_fewgreys_k01_walks
set_option Elab.async false
set_option linter.all false
set_option maxRecDepth 100000
/-! R1: deep values, how machine values stand for them, states. -/
namespace L2
namespace RP
open PySem PySem.Spec PyProof.Rows

/-- a value as a tree -/
inductive D where
  | non | bl (b : Bool) | int (i : Int) | str (s : Str)
  | tup (xs : List D) | lst (xs : List D)
  | dk (kvs : List (Key × D)) | dt (kvs : List (List Key × D))
  | ins (c : Str) (fs : List (Str × D))
  | fn (x : Str)
  | row

/-- the draws' state: row[1], row[2], row[3] -/
structure G where
  a : Int
  b : Int
  c : Int
  /-- the object that is being made, if one is: its class, its dict, its fields -/
  me : Option (Addr × Addr × List (Str × V)) := none
  /-- the script -/
  ns : List Int := []

abbrev notTbl (o : HO) : Prop := ∀ ps, o ≠ .tbl ps
theorem nt_lst {xs} : notTbl (.lst xs) := fun _ z => by cases z
theorem nt_tup {xs} : notTbl (.tup xs) := fun _ z => by cases z
theorem nt_dK {xs} : notTbl (.dK xs) := fun _ z => by cases z
theorem nt_dT {xs} : notTbl (.dT xs) := fun _ z => by cases z
theorem nt_ins {a b c} : notTbl (.ins a b c) := fun _ z => by cases z
theorem nt_frz {a b} : notTbl (.frz a b) := fun _ z => by cases z
theorem nt_xd {a} : notTbl (.xd a) := fun _ z => by cases z

/-- what is kept of a dict: it is locked -/
def Fz (H : Hp) (a : Addr) (o : HO) : Prop := ∃ ob, H a = some (.frz ob o)
theorem Fz.rd {H : Hp} {a : Addr} {o : HO} (h : Fz H a o) : Rd H a o := .inr h
section
variable (mg : Str → Option Value)
mutual
/-- v stands for d in H, by addresses outside S -/
def Rep (H : Hp) (S : Addr → Prop) (r : Addr) : D → V → Prop
  | .non, v => v = .non
  | .bl b, v => v = .bl b
  | .int i, v => v = .int i
  | .str s, v => v = .str s
  | .tup xs, v => ∃ a vs, v = .ref a ∧ ¬ S a ∧ H a = some (.tup vs) ∧ vs.length ≤ sizeLine ∧ Reps H S r xs vs
  | .lst xs, v => ∃ a vs, v = .ref a ∧ ¬ S a ∧ H a = some (.lst vs) ∧ vs.length ≤ sizeLine ∧ Reps H S r xs vs
  | .dk kvs, v => ∃ a ws, v = .ref a ∧ ¬ S a ∧ Fz H a (.dK ws) ∧ ws.length ≤ sizeLine ∧ RepK H S r kvs ws
  | .dt kvs, v => ∃ a ws, v = .ref a ∧ ¬ S a ∧ Fz H a (.dT ws) ∧ ws.length ≤ sizeLine ∧ RepT H S r kvs ws
  | .ins c fs, v => ∃ a C dx ws, v = .ref a ∧ ¬ S a ∧ mg c = some (.ref C) ∧ H a = some (.ins C dx ws) ∧ RepF H S r fs ws
  | .fn x, v => ∃ a, v = .ref a ∧ mg x = some (.ref a)
  | .row, v => v = .ref r
def Reps (H : Hp) (S : Addr → Prop) (r : Addr) : List D → List V → Prop
  | [], vs => vs = []
  | d :: ds, vs => ∃ v ws, vs = v :: ws ∧ Rep H S r d v ∧ Reps H S r ds ws
def RepK (H : Hp) (S : Addr → Prop) (r : Addr) : List (Key × D) → List (Key × V) → Prop
  | [], vs => vs = []
  | (k, d) :: ds, vs => ∃ v ws, vs = (k, v) :: ws ∧ Rep H S r d v ∧ RepK H S r ds ws
def RepT (H : Hp) (S : Addr → Prop) (r : Addr) : List (List Key × D) → List (List Key × V) → Prop
  | [], vs => vs = []
  | (k, d) :: ds, vs => ∃ v ws, vs = (k, v) :: ws ∧ Rep H S r d v ∧ RepT H S r ds ws
def RepF (H : Hp) (S : Addr → Prop) (r : Addr) : List (Str × D) → List (Str × V) → Prop
  | [], vs => vs = []
  | (k, d) :: ds, vs => ∃ v ws, vs = (k, v) :: ws ∧ Rep H S r d v ∧ RepF H S r ds ws
end
end

/-- what a rep leans on stays -/
structure Agr (S : Addr → Prop) (H H' : Hp) : Prop where
  lst : ∀ a xs, ¬ S a → H a = some (.lst xs) → H' a = some (.lst xs)
  tup : ∀ a xs, ¬ S a → H a = some (.tup xs) → H' a = some (.tup xs)
  ins : ∀ a C dx fs, ¬ S a → H a = some (.ins C dx fs) → H' a = some (.ins C dx fs)
  dk : ∀ a xs, ¬ S a → Fz H a (.dK xs) → Fz H' a (.dK xs)
  dt : ∀ a xs, ¬ S a → Fz H a (.dT xs) → Fz H' a (.dT xs)

section
variable {mg : Str → Option Value} {H H' : Hp} {S S' : Addr → Prop} {r : Addr}
mutual
theorem Rep.agr (h : Agr S H H') : ∀ {d : D} {v : V}, Rep mg H S r d v → Rep mg H' S r d v
  | .non, _, e => e
  | .bl _, _, e => e
  | .int _, _, e => e
  | .str _, _, e => e
  | .tup _, _, ⟨a, vs, e, n, q, z, k⟩ => ⟨a, vs, e, n, h.tup a vs n q, z, Reps.agr h k⟩
  | .lst _, _, ⟨a, vs, e, n, q, z, k⟩ => ⟨a, vs, e, n, h.lst a vs n q, z, Reps.agr h k⟩
  | .dk _, _, ⟨a, vs, e, n, q, z, k⟩ => ⟨a, vs, e, n, h.dk a vs n q, z, RepK.agr h k⟩
  | .dt _, _, ⟨a, vs, e, n, q, z, k⟩ => ⟨a, vs, e, n, h.dt a vs n q, z, RepT.agr h k⟩
  | .ins _ _, _, ⟨a, C, dx, ws, e, n, m, q, k⟩ => ⟨a, C, dx, ws, e, n, m, h.ins a C dx ws n q, RepF.agr h k⟩
  | .fn _, _, e => e
  | .row, _, e => e
theorem Reps.agr (h : Agr S H H') : ∀ {ds : List D} {vs : List V}, Reps mg H S r ds vs → Reps mg H' S r ds vs
  | [], _, e => e
  | _ :: _, _, ⟨v, ws, e, a, b⟩ => ⟨v, ws, e, Rep.agr h a, Reps.agr h b⟩
theorem RepK.agr (h : Agr S H H') : ∀ {ds : List (Key × D)} {vs : List (Key × V)}, RepK mg H S r ds vs → RepK mg H' S r ds vs
  | [], _, e => e
  | (_, _) :: _, _, ⟨v, ws, e, a, b⟩ => ⟨v, ws, e, Rep.agr h a, RepK.agr h b⟩
theorem RepT.agr (h : Agr S H H') : ∀ {ds : List (List Key × D)} {vs : List (List Key × V)}, RepT mg H S r ds vs → RepT mg H' S r ds vs
  | [], _, e => e
  | (_, _) :: _, _, ⟨v, ws, e, a, b⟩ => ⟨v, ws, e, Rep.agr h a, RepT.agr h b⟩
theorem RepF.agr (h : Agr S H H') : ∀ {ds : List (Str × D)} {vs : List (Str × V)}, RepF mg H S r ds vs → RepF mg H' S r ds vs
  | [], _, e => e
  | (_, _) :: _, _, ⟨v, ws, e, a, b⟩ => ⟨v, ws, e, Rep.agr h a, RepF.agr h b⟩
end
mutual
theorem Rep.sub (h : ∀ a, S' a → S a) : ∀ {d : D} {v : V}, Rep mg H S r d v → Rep mg H S' r d v
  | .non, _, e => e
  | .bl _, _, e => e
  | .int _, _, e => e
  | .str _, _, e => e
  | .tup _, _, ⟨a, vs, e, n, q, z, k⟩ => ⟨a, vs, e, fun x => n (h a x), q, z, Reps.sub h k⟩
  | .lst _, _, ⟨a, vs, e, n, q, z, k⟩ => ⟨a, vs, e, fun x => n (h a x), q, z, Reps.sub h k⟩
  | .dk _, _, ⟨a, vs, e, n, q, z, k⟩ => ⟨a, vs, e, fun x => n (h a x), q, z, RepK.sub h k⟩
  | .dt _, _, ⟨a, vs, e, n, q, z, k⟩ => ⟨a, vs, e, fun x => n (h a x), q, z, RepT.sub h k⟩
  | .ins _ _, _, ⟨a, C, dx, ws, e, n, m, q, k⟩ => ⟨a, C, dx, ws, e, fun x => n (h a x), m, q, RepF.sub h k⟩
  | .fn _, _, e => e
  | .row, _, e => e
theorem Reps.sub (h : ∀ a, S' a → S a) : ∀ {ds : List D} {vs : List V}, Reps mg H S r ds vs → Reps mg H S' r ds vs
  | [], _, e => e
  | _ :: _, _, ⟨v, ws, e, a, b⟩ => ⟨v, ws, e, Rep.sub h a, Reps.sub h b⟩
theorem RepK.sub (h : ∀ a, S' a → S a) : ∀ {ds : List (Key × D)} {vs : List (Key × V)}, RepK mg H S r ds vs → RepK mg H S' r ds vs
  | [], _, e => e
  | (_, _) :: _, _, ⟨v, ws, e, a, b⟩ => ⟨v, ws, e, Rep.sub h a, RepK.sub h b⟩
theorem RepT.sub (h : ∀ a, S' a → S a) : ∀ {ds : List (List Key × D)} {vs : List (List Key × V)}, RepT mg H S r ds vs → RepT mg H S' r ds vs
  | [], _, e => e
  | (_, _) :: _, _, ⟨v, ws, e, a, b⟩ => ⟨v, ws, e, Rep.sub h a, RepT.sub h b⟩
theorem RepF.sub (h : ∀ a, S' a → S a) : ∀ {ds : List (Str × D)} {vs : List (Str × V)}, RepF mg H S r ds vs → RepF mg H S' r ds vs
  | [], _, e => e
  | (_, _) :: _, _, ⟨v, ws, e, a, b⟩ => ⟨v, ws, e, Rep.sub h a, RepF.sub h b⟩
end
theorem rd_some {H : Hp} {a : Addr} {o : HO} (h : Fz H a o) : H a ≠ none := by
  obtain ⟨_, h⟩ := h
  rw [h]; simp
mutual
/-- addresses of which nothing is tracked may be forbidden, too -/
theorem Rep.sup (h : ∀ a, S' a → S a ∨ H a = none) : ∀ {d : D} {v : V}, Rep mg H S r d v → Rep mg H S' r d v
  | .non, _, e => e
  | .bl _, _, e => e
  | .int _, _, e => e
  | .str _, _, e => e
  | .tup _, _, ⟨a, vs, e, n, q, z, k⟩ => ⟨a, vs, e, fun x => (h a x).elim n fun y => (by rw [q] at y; cases y), q, z, Reps.sup h k⟩
  | .lst _, _, ⟨a, vs, e, n, q, z, k⟩ => ⟨a, vs, e, fun x => (h a x).elim n fun y => (by rw [q] at y; cases y), q, z, Reps.sup h k⟩
  | .dk _, _, ⟨a, vs, e, n, q, z, k⟩ => ⟨a, vs, e, fun x => (h a x).elim n (rd_some q), q, z, RepK.sup h k⟩
  | .dt _, _, ⟨a, vs, e, n, q, z, k⟩ => ⟨a, vs, e, fun x => (h a x).elim n (rd_some q), q, z, RepT.sup h k⟩
  | .ins _ _, _, ⟨a, C, dx, ws, e, n, m, q, k⟩ => ⟨a, C, dx, ws, e, fun x => (h a x).elim n fun y => (by rw [q] at y; cases y), m, q, RepF.sup h k⟩
  | .fn _, _, e => e
  | .row, _, e => e
theorem Reps.sup (h : ∀ a, S' a → S a ∨ H a = none) : ∀ {ds : List D} {vs : List V}, Reps mg H S r ds vs → Reps mg H S' r ds vs
  | [], _, e => e
  | _ :: _, _, ⟨v, ws, e, a, b⟩ => ⟨v, ws, e, Rep.sup h a, Reps.sup h b⟩
theorem RepK.sup (h : ∀ a, S' a → S a ∨ H a = none) : ∀ {ds : List (Key × D)} {vs : List (Key × V)}, RepK mg H S r ds vs → RepK mg H S' r ds vs
  | [], _, e => e
  | (_, _) :: _, _, ⟨v, ws, e, a, b⟩ => ⟨v, ws, e, Rep.sup h a, RepK.sup h b⟩
theorem RepT.sup (h : ∀ a, S' a → S a ∨ H a = none) : ∀ {ds : List (List Key × D)} {vs : List (List Key × V)}, RepT mg H S r ds vs → RepT mg H S' r ds vs
  | [], _, e => e
  | (_, _) :: _, _, ⟨v, ws, e, a, b⟩ => ⟨v, ws, e, Rep.sup h a, RepT.sup h b⟩
theorem RepF.sup (h : ∀ a, S' a → S a ∨ H a = none) : ∀ {ds : List (Str × D)} {vs : List (Str × V)}, RepF mg H S r ds vs → RepF mg H S' r ds vs
  | [], _, e => e
  | (_, _) :: _, _, ⟨v, ws, e, a, b⟩ => ⟨v, ws, e, Rep.sup h a, RepF.sup h b⟩
end
theorem Reps.more {p : Addr} {o : HO} (hp : H p = none) {ds : List D} {vs : List V} (h : Reps mg H S r ds vs) : Reps mg (upd H p o) (fun a => S a ∨ a = p) r ds vs := by
  have h1 : Reps mg H (fun a => S a ∨ a = p) r ds vs := Reps.sup (fun a z => z.elim .inl fun e => .inr (e ▸ hp)) h
  have A : Agr (fun a => S a ∨ a = p) H (upd H p o) := by
    have k : ∀ a u, ¬ (S a ∨ a = p) → H a = some u → upd H p o a = some u := fun a u n e => by rw [upd_ne (fun z => n (.inr z))]; exact e
    exact ⟨fun a xs n e => k a _ n e, fun a xs n e => k a _ n e, fun a _ _ _ n e => k a _ n e, fun a xs n ⟨o, q⟩ => ⟨o, k a _ n q⟩,
      fun a xs n ⟨o, q⟩ => ⟨o, k a _ n q⟩⟩
  exact Reps.agr A h1
theorem Reps.length : ∀ {ds : List D} {vs : List V}, Reps mg H S r ds vs → ds.length = vs.length
  | [], _, e => by cases (show _ = [] from e); rfl
  | _ :: _, _, ⟨v, ws, e, _, b⟩ => by rw [e]; simp [Reps.length b]
theorem Reps.get : ∀ {ds : List D} {vs : List V} (i : Nat) {v : V}, Reps mg H S r ds vs → vs[i]? = some v → ∃ d, ds[i]? = some d ∧ Rep mg H S r d v
  | [], _, _, _, e, q => by rw [show _ = [] from e] at q; simp at q
  | d :: _, _, 0, _, ⟨v, ws, e, a, b⟩, q => by subst e; simp at q; subst q; exact ⟨d, rfl, a⟩
  | _ :: _, _, i + 1, _, ⟨v, ws, e, a, b⟩, q => by subst e; simpa using Reps.get i b (by simpa using q)
theorem Reps.at : ∀ {ds : List D} {vs : List V} (i : Nat) {d : D}, Reps mg H S r ds vs → ds[i]? = some d → ∃ v, vs[i]? = some v ∧ Rep mg H S r d v
  | [], _, _, _, e, q => by simp at q
  | d :: _, _, 0, _, ⟨v, ws, e, a, b⟩, q => by subst e; simp at q; subst q; exact ⟨v, rfl, a⟩
  | _ :: _, _, i + 1, _, ⟨v, ws, e, a, b⟩, q => by subst e; simpa using Reps.at i b (by simpa using q)
theorem Reps.app : ∀ {ds es : List D} {vs us : List V}, Reps mg H S r ds vs → Reps mg H S r es us → Reps mg H S r (ds ++ es) (vs ++ us)
  | [], _, _, _, e, q => by rw [show _ = [] from e]; exact q
  | d :: _, _, _, _, ⟨v, ws, e, a, b⟩, q => by subst e; exact ⟨v, _, rfl, a, Reps.app b q⟩
theorem Reps.one {d : D} {v : V} (h : Rep mg H S r d v) : Reps mg H S r [d] [v] := ⟨v, [], rfl, h, rfl⟩
theorem Reps.nil : Reps mg H S r [] [] := rfl
theorem Reps.cons {d : D} {v : V} {ds vs} (h : Rep mg H S r d v) (k : Reps mg H S r ds vs) : Reps mg H S r (d :: ds) (v :: vs) := ⟨v, vs, rfl, h, k⟩
theorem Reps.drop : ∀ {ds : List D} {vs : List V} (n : Nat), Reps mg H S r ds vs → Reps mg H S r (ds.drop n) (vs.drop n)
  | _, _, 0, h => h
  | [], _, _ + 1, e => by rw [show _ = [] from e]; rfl
  | _ :: _, _, n + 1, ⟨v, ws, e, a, b⟩ => by subst e; exact Reps.drop n b
theorem Reps.take : ∀ {ds : List D} {vs : List V} (n : Nat), Reps mg H S r ds vs → Reps mg H S r (ds.take n) (vs.take n)
  | _, _, 0, h => rfl
  | [], _, _ + 1, e => by rw [show _ = [] from e]; rfl
  | _ :: _, _, n + 1, ⟨v, ws, e, a, b⟩ => by subst e; exact ⟨v, _, rfl, a, Reps.take n b⟩
theorem Reps.reverse : ∀ {ds : List D} {vs : List V}, Reps mg H S r ds vs → Reps mg H S r ds.reverse vs.reverse
  | [], _, e => by rw [show _ = [] from e]; rfl
  | _ :: _, _, ⟨v, ws, e, a, b⟩ => by
    subst e
    rw [List.reverse_cons, List.reverse_cons]
    exact Reps.app (Reps.reverse b) (Reps.one a)
theorem Reps.set : ∀ {ds : List D} {vs : List V} (i : Nat) {d : D} {v : V}, Reps mg H S r ds vs → Rep mg H S r d v → Reps mg H S r (ds.set i d) (vs.set i v)
  | [], _, _, _, _, e, _ => by rw [show _ = [] from e]; rfl
  | _ :: _, _, 0, _, _, ⟨v, ws, e, a, b⟩, h => by subst e; exact ⟨_, _, rfl, h, b⟩
  | _ :: _, _, i + 1, _, _, ⟨v, ws, e, a, b⟩, h => by subst e; exact ⟨_, _, rfl, a, Reps.set i b h⟩
theorem Reps.dropLast {ds : List D} {vs : List V} (h : Reps mg H S r ds vs) : Reps mg H S r ds.dropLast vs.dropLast := by
  rw [List.dropLast_eq_take, List.dropLast_eq_take, h.length]
  exact Reps.take _ h
theorem Reps.ints : ∀ {ns : List Int} {vs : List V}, Reps mg H S r (ns.map D.int) vs → vs = ns.map V.int
  | [], _, e => e
  | n :: ns, _, ⟨v, ws, e, a, b⟩ => by rw [e, show v = .int n from a, Reps.ints b]; rfl
theorem Reps.ofInts : ∀ {ns : List Int}, Reps mg H S r (ns.map D.int) (ns.map V.int)
  | [] => rfl
  | n :: ns => ⟨.int n, _, rfl, rfl, Reps.ofInts⟩
/-- the same with other addresses: each way to say that what is used stays -/
theorem Agr.of (h : ∀ a o, ¬ S a → H a = some o → notTbl o → H' a = some o) : Agr S H H' :=
  ⟨fun a xs n e => h a _ n e nt_lst, fun a xs n e => h a _ n e nt_tup, fun a _ _ _ n e => h a _ n e nt_ins,
   fun a xs n ⟨o, q⟩ => ⟨o, h a _ n q nt_frz⟩, fun a xs n ⟨o, q⟩ => ⟨o, h a _ n q nt_frz⟩⟩
end

/-- all but the row at r and the tables stays -/
structure Ext (r : Addr) (H H' : Hp) : Prop where
  keep : ∀ b o, H b = some o → b ≠ r → notTbl o → H' b = some o
  dom : ∀ b, H b ≠ none → H' b ≠ none
theorem Ext.refl {r : Addr} {H : Hp} : Ext r H H := ⟨fun _ _ h _ _ => h, fun _ h => h⟩
theorem Ext.trans {r : Addr} {H H1 H2 : Hp} (a : Ext r H H1) (b : Ext r H1 H2) : Ext r H H2 := ⟨fun c o h n t => b.keep c o (a.keep c o h n t) n t, fun c h => b.dom c (a.dom c h)⟩
theorem Ext.agr {r : Addr} {S : Addr → Prop} {H H' : Hp} (e : Ext r H H') (hr : S r) : Agr S H H' := .of fun a o n h t => e.keep a o h (fun z => n (z ▸ hr)) t
theorem Ext.new {r p : Addr} {H : Hp} {o : HO} (h : H p = none) : Ext r H (upd H p o) :=
  ⟨fun b u e _ _ => by rw [upd_ne (ne_of_none e h)]; exact e, fun b e => by
    unfold upd
    split
    · simp
    · exact e⟩
theorem Ext.free {r : Addr} {H H' : Hp} (e : Ext r H H') {a : Addr} (h : H' a = none) : H a = none := by
  cases q : H a with
  | none => rfl
  | some o => exact absurd h (e.dom a (by rw [q]; simp))
theorem agr_upd {S : Addr → Prop} {H : Hp} {p : Addr} {o : HO} (h : S p) : Agr S H (upd H p o) := .of fun a u n e _ => by
  rw [upd_ne (fun z : a = p => n (by rw [z]; exact h))]; exact e
theorem agr_new {S : Addr → Prop} {H : Hp} {p : Addr} {o : HO} (h : H p = none) : Agr S H (upd H p o) := .of fun a u n e _ => by
  rw [upd_ne (ne_of_none e h)]; exact e
end RP
end L2
set_option Elab.async false
set_option linter.all false
set_option maxRecDepth 100000
/-! R2: results, states, what an expression computes. -/
namespace L2
namespace RP
open PySem PySem.Spec PyProof.Rows

/-- how a computation ends: a value, an own error of a class with its value, or nothing is known -/
inductive Res (α : Type) where
  | ok (a : α)
  | exc (c : Str) (d : D) (g : G)
  | bad
def Res.bind {α β : Type} : Res α → (α → Res β) → Res β
  | .ok a, f => f a
  | .exc c d g, _ => .exc c d g
  | .bad, _ => .bad
@[simp] theorem Res.bind_ok {α β : Type} (a : α) (f : α → Res β) : (Res.ok a).bind f = f a := rfl
@[simp] theorem Res.bind_exc {α β : Type} (c d g) (f : α → Res β) : (Res.exc c d g : Res α).bind f = .exc c d g := rfl
@[simp] theorem Res.bind_bad {α β : Type} (f : α → Res β) : (Res.bad : Res α).bind f = .bad := rfl
/-- an option as a result -/
def Res.of {α : Type} : Option α → Res α
  | some a => .ok a
  | none => .bad
@[simp] theorem Res.of_some {α : Type} (a : α) : Res.of (some a) = .ok a := rfl
@[simp] theorem Res.of_none {α : Type} : Res.of (none : Option α) = .bad := rfl

inductive Slot where
  | none | frz (d : D) | own (d : D)
abbrev En := List Slot
abbrev SE := En → G → Res (D × G)
abbrev SEs := En → G → Res (List D × G)
inductive Fl where
  | nx | brk | cont | ret (d : D)
abbrev SS := En → G → Res (Fl × En × G)
/-- what a def computes -/
abbrev FS := List D → G → Res (D × G)

/-- what stands through the law's run; E: what is wanted of an error that leaves the code -/
structure Fx where
  K : PySem.W.Frag
  mg : Str → Option Value
  T : List (Addr × Str)
  r : Addr
  sc : Addr
  ns : List Int
  E : XK
abbrev Fx.rp (F : Fx) (H : Hp) (S : Addr → Prop) : D → V → Prop := Rep F.mg H S F.r
abbrev Fx.rps (F : Fx) (H : Hp) (S : Addr → Prop) : List D → List V → Prop := Reps F.mg H S F.r
def G.obj (g : G) (sc : Addr) : HO := match g.me with
  | none => .lst [.ref sc, .int g.a, .int g.b, .int g.c]
  | some (A, dx, ws) => .ins A dx ws
theorem G.obj_nt {g : G} {sc : Addr} : notTbl (g.obj sc) := fun ps z => by
  unfold G.obj at z
  split at z <;> cases z
/-- the draw state in the heap -/
structure GAt (F : Fx) (g : G) (H : Hp) : Prop where
  row : H F.r = some (g.obj F.sc)
  tab : LamX.Tabs F.T H
  ns : g.ns = F.ns
/-- one entry: the addresses of others, the heap -/
structure Ctx where
  S : Addr → Prop
  H0 : Hp
def OwnA (ρ : En) (σ : St) (a : Addr) : Prop := ∃ (i : Nat) (d : D), ρ[i]? = some (.own d) ∧ σ[i]? = some (some (.ref a))
def SO (C : Ctx) (ρ : En) (σ : St) (a : Addr) : Prop := C.S a ∨ OwnA ρ σ a
/-- the object at a, its parts outside S -/
def RepO (F : Fx) (H : Hp) (S : Addr → Prop) : D → Addr → Prop
  | .lst xs, a => ∃ vs, H a = some (.lst vs) ∧ vs.length ≤ sizeLine ∧ F.rps H S xs vs
  | .dk kvs, a => ∃ ws, H a = some (.dK ws) ∧ ws.length ≤ sizeLine ∧ RepK F.mg H S F.r kvs ws
  | .dt kvs, a => ∃ ws, H a = some (.dT ws) ∧ ws.length ≤ sizeLine ∧ RepT F.mg H S F.r kvs ws
  | .ins c fs, a => ∃ C dx ws, F.mg c = some (.ref C) ∧ H a = some (.ins C dx ws) ∧ RepF F.mg H S F.r fs ws
  | _, _ => False
/-- the script is not the thing that changes (or it is an object of the module) -/
def Fx.scOk (F : Fx) : Prop := F.sc ≠ F.r ∨ ∀ H, SqL F.K H F.sc (F.ns.map V.int)
structure R (F : Fx) (C : Ctx) (ρ : En) (g : G) (σ : St) (H : Hp) : Prop where
  sr : C.S F.r
  sd : ∀ a, C.S a → C.H0 a ≠ none
  sq : SqL F.K C.H0 F.sc (F.ns.map V.int)
  ne : F.scOk
  base : Ext F.r C.H0 H
  gl : GAt F g H
  len : ρ.length = σ.length
  frz : ∀ (i : Nat) d, ρ[i]? = some (.frz d) → ∃ v, σ[i]? = some (some v) ∧ F.rp H (SO C ρ σ) d v
  own : ∀ (i : Nat) d, ρ[i]? = some (.own d) → ∃ a, σ[i]? = some (some (.ref a)) ∧ C.H0 a = none ∧ RepO F H (SO C ρ σ) d a
  inj : ∀ (i j : Nat) d e a, ρ[i]? = some (.own d) → ρ[j]? = some (.own e) → σ[i]? = some (some (.ref a)) → σ[j]? = some (some (.ref a)) → i = j

section
variable {F : Fx} {C : Ctx} {ρ ρ' : En} {g g' : G} {σ σ' : St} {H H' H1 : Hp} {S S' : Addr → Prop} {d : D} {v : V} {a p : Addr} {o : HO}
theorem RepO.agr (h : Agr S H H') (hk : ∀ u, H a = some u → notTbl u → H' a = some u) (q : RepO F H S d a) : RepO F H' S d a := by
  cases d with
  | lst xs => obtain ⟨vs, e, z, k⟩ := q; exact ⟨vs, hk _ e nt_lst, z, k.agr h⟩
  | dk xs => obtain ⟨vs, e, z, k⟩ := q; exact ⟨vs, hk _ e nt_dK, z, k.agr h⟩
  | dt xs => obtain ⟨vs, e, z, k⟩ := q; exact ⟨vs, hk _ e nt_dT, z, k.agr h⟩
  | ins c fs => obtain ⟨C, dx, ws, m, e, k⟩ := q; exact ⟨C, dx, ws, m, hk _ e nt_ins, k.agr h⟩
  | _ => exact q
theorem RepO.sub (h : ∀ a, S' a → S a) (q : RepO F H S d a) : RepO F H S' d a := by
  cases d with
  | lst xs => obtain ⟨vs, e, z, k⟩ := q; exact ⟨vs, e, z, k.sub h⟩
  | dk xs => obtain ⟨vs, e, z, k⟩ := q; exact ⟨vs, e, z, k.sub h⟩
  | dt xs => obtain ⟨vs, e, z, k⟩ := q; exact ⟨vs, e, z, k.sub h⟩
  | ins c fs => obtain ⟨C, dx, ws, m, e, k⟩ := q; exact ⟨C, dx, ws, m, e, k.sub h⟩
  | _ => exact q
def _root_.L2.RP.D.noDict : D → Bool
  | .dk _ => false
  | .dt _ => false
  | _ => true
theorem RepO.rep (q : RepO F H S d a) (n : ¬ S a) (nd : d.noDict = true) : F.rp H S d (.ref a) := by
  cases d with
  | lst xs => obtain ⟨vs, e, z, k⟩ := q; exact ⟨a, vs, rfl, n, e, z, k⟩
  | dk xs => cases nd
  | dt xs => cases nd
  | ins c fs => obtain ⟨C, dx, ws, m, e, k⟩ := q; exact ⟨a, C, dx, ws, rfl, n, m, e, k⟩
  | _ => exact q.elim
theorem RepO.there (q : RepO F H S d a) : ∃ o, H a = some o ∧ notTbl o ∧ (∀ φ, o ≠ .ext φ) := by
  cases d with
  | lst xs => obtain ⟨vs, e, z, k⟩ := q; exact ⟨_, e, nt_lst, fun _ z => by cases z⟩
  | dk xs => obtain ⟨vs, e, z, k⟩ := q; exact ⟨_, e, nt_dK, fun _ z => by cases z⟩
  | dt xs => obtain ⟨vs, e, z, k⟩ := q; exact ⟨_, e, nt_dT, fun _ z => by cases z⟩
  | ins c fs => obtain ⟨C, dx, ws, m, e, k⟩ := q; exact ⟨_, e, nt_ins, fun _ z => by cases z⟩
  | _ => exact q.elim
/-- the tables stand when a thing that is none of them is written -/
theorem tabs_upd {T : List (Addr × Str)} (t : LamX.Tabs T H) (h : H p = none ∨ ∃ u, H p = some u ∧ notTbl u ∧ ∀ φ, u ≠ .ext φ) : LamX.Tabs T (upd H p o) := fun q hq => by
  obtain ⟨ps, e, k, l⟩ := t q hq
  have ne : ∀ b u, H b = some u → ((∃ ps, u = .tbl ps) ∨ ∃ φ, u = .ext φ) → b ≠ p := fun b u hb hu z => by
    subst z
    rcases h with h | ⟨u', h, n1, n2⟩
    · rw [h] at hb; cases hb
    · rw [h] at hb; cases hb
      rcases hu with ⟨ps, rfl⟩ | ⟨φ, rfl⟩
      · exact n1 _ rfl
      · exact n2 _ rfl
  refine ⟨ps, by rw [upd_ne (ne _ _ e (.inl ⟨_, rfl⟩))]; exact e, k, fun pos cv hc => ?_⟩
  obtain ⟨c, e1, e2⟩ := l pos cv hc
  exact ⟨c, e1, by rw [upd_ne (ne _ _ e2 (.inr ⟨_, rfl⟩))]; exact e2⟩
theorem GAt.new (x : GAt F g H) (h : H p = none) : GAt F g (upd H p o) := ⟨by rw [upd_ne (ne_of_none x.row h)]; exact x.row, tabs_upd x.tab (.inl h), x.ns⟩
theorem R.there (x : R F C ρ g σ H) (h : SO C ρ σ a) : H a ≠ none := by
  rcases h with h | ⟨i, d, h1, h2⟩
  · exact x.base.dom a (x.sd a h)
  · obtain ⟨a', e, _, q⟩ := x.own i d h1
    rw [h2] at e; cases e
    obtain ⟨o, e, _⟩ := q.there
    rw [e]; simp
theorem R.nso (x : R F C ρ g σ H) (h : H p = none) : ¬ SO C ρ σ p := fun z => x.there z h
theorem R.fresh0 (x : R F C ρ g σ H) (h : H p = none) : C.H0 p = none := x.base.free h
/-- an own object is neither the row nor another's -/
theorem R.own_ne (x : R F C ρ g σ H) (h : OwnA ρ σ a) : ¬ C.S a := fun z => by
  obtain ⟨i, d, h1, h2⟩ := h
  obtain ⟨a', e, n, _⟩ := x.own i d h1
  rw [h2] at e; cases e
  exact x.sd a z n
theorem R.sqH (x : R F C ρ g σ H) : SqL F.K H F.sc (F.ns.map V.int) := by
  rcases x.ne with ne | ne
  · rcases x.sq with (h | ⟨ob, h⟩) | h
    · exact .inl (.inl (x.base.keep _ _ h ne nt_lst))
    · exact .inl (.inr ⟨ob, x.base.keep _ _ h ne nt_frz⟩)
    · exact .inr h
  · exact ne _
/-- on to a later heap in which all stays -/
theorem R.ext (x : R F C ρ g σ H) (e : Ext F.r H H') (gl : GAt F g' H') : R F C ρ g' σ H' :=
  ⟨x.sr, x.sd, x.sq, x.ne, x.base.trans e, gl, x.len, fun i d h => let ⟨v, h1, h2⟩ := x.frz i d h; ⟨v, h1, h2.agr (e.agr (.inl x.sr))⟩,
    fun i d h => by
      obtain ⟨a, h1, h2, h3⟩ := x.own i d h
      refine ⟨a, h1, h2, h3.agr (e.agr (.inl x.sr)) fun u hu nt => e.keep a u hu (fun z => ?_) nt⟩
      exact x.own_ne ⟨i, d, h, h1⟩ (z.symm ▸ x.sr), x.inj⟩
theorem R.new (x : R F C ρ g σ H) (h : H p = none) : R F C ρ g σ (upd H p o) := x.ext (.new h) (x.gl.new h)
end
end RP
end L2
set_option Elab.async false
set_option linter.all false
set_option maxRecDepth 100000
/-! R3: what an expression computes, as a reading; names, constants, operators. -/
namespace L2
namespace RP
open PySem PySem.Spec PyProof.Rows

/-- v shows d: at its own address only (it may be one of the frame's own things) -/
def RB (F : Fx) (H : Hp) (S : Addr → Prop) : D → V → Prop
  | .lst xs, v => ∃ a vs, v = .ref a ∧ a ≠ F.r ∧ H a = some (.lst vs) ∧ vs.length ≤ sizeLine ∧ F.rps H S xs vs
  | .dk kvs, v => ∃ a ws, v = .ref a ∧ a ≠ F.r ∧ Rd H a (.dK ws) ∧ ws.length ≤ sizeLine ∧ RepK F.mg H S F.r kvs ws
  | .dt kvs, v => ∃ a ws, v = .ref a ∧ a ≠ F.r ∧ Rd H a (.dT ws) ∧ ws.length ≤ sizeLine ∧ RepT F.mg H S F.r kvs ws
  | .ins c fs, v => ∃ a C dx ws, v = .ref a ∧ a ≠ F.r ∧ F.mg c = some (.ref C) ∧ H a = some (.ins C dx ws) ∧ RepF F.mg H S F.r fs ws
  | d, v => F.rp H S d v
def ExcEnd (F : Fx) (C : Ctx) (c : Str) (d : D) (g : G) : Prop :=
  ∀ A x v H', F.mg c = some (.ref A) → Ext F.r C.H0 H' → GAt F g H' → C.H0 x = none → H' x = some (.xd [(("value" : Str), v)]) → F.rp H' C.S d v → F.E (.ref A) (some x) H'
/-- what a computation's end brings; W: how its value stands -/
def StepE (F : Fx) (W : Hp → D → V → Prop) (C : Ctx) (ρ : En) (σ : St) (H : Hp) (r : Res (D × G)) (Q : VK) : Prop :=
  match r with
  | .ok (d, g1) => ∀ v H1, Ext F.r H H1 → R F C ρ g1 σ H1 → W H1 d v → Q v H1
  | .exc c d g1 => ExcEnd F C c d g1
  | .bad => False
/-- e computes f: the value may be kept -/
def T (F : Fx) (f : SE) : TE := fun σ H Q => ∃ C ρ g, R F C ρ g σ H ∧ StepE F (fun H1 d v => F.rp H1 (SO C ρ σ) d v) C ρ σ H (f ρ g) Q
/-- .. it may be looked at -/
def TB (F : Fx) (f : SE) : TE := fun σ H Q => ∃ C ρ g, R F C ρ g σ H ∧ StepE F (fun H1 d v => RB F H1 (SO C ρ σ) d v) C ρ σ H (f ρ g) Q
/-- .. it is a new thing of its own -/
def TO (F : Fx) (f : SE) : TE := fun σ H Q => ∃ C ρ g, R F C ρ g σ H ∧ StepE F (fun H1 d v => ∃ p, v = .ref p ∧ H p = none ∧ RepO F H1 (fun a => SO C ρ σ a ∨ a = p) d p) C ρ σ H (f ρ g) Q

theorem _root_.L2.PE.imp {X : Cx} {e : Expr} {t t' : TE} (h : PE X e t) (k : ∀ σ H Q, t' σ H Q → t σ H Q) : PE X e t' := ⟨fun pins s σ H Q I q => h.run pins s σ H Q I (k σ H Q q)⟩
theorem _root_.L2.PT.imp {X : Cx} {e : Expr} {t t' : TT} (h : PT X e t) (k : ∀ σ H Q, t' σ H Q → t σ H Q) : PT X e t' := ⟨fun pins s σ H Q I q => h.run pins s σ H Q I (k σ H Q q)⟩
theorem _root_.L2.PA.imp {X : Cx} {e : List Expr} {t t' : TA} (h : PA X e t) (k : ∀ σ H Q, t' σ H Q → t σ H Q) : PA X e t' := ⟨fun pos pins s σ H Q I q => h.run pos pins s σ H Q I (k σ H Q q)⟩
theorem _root_.L2.PS.imp {X : Cx} {e : Stmt} {t t' : TS} (h : PS X e t) (k : ∀ D σ H, t' D σ H → t D σ H) : PS X e t' := ⟨fun pins s σ H D I q => h.run pins s σ H D I (k D σ H q)⟩
theorem _root_.L2.PSs.imp {X : Cx} {e : List Stmt} {t t' : TS} (h : PSs X e t) (k : ∀ D σ H, t' D σ H → t D σ H) : PSs X e t' := ⟨fun pins s σ H D I q => h.run pins s σ H D I (k D σ H q)⟩
theorem _root_.L2.PI.imp {X : Cx} {tg e : Expr} {t t' : TI} (h : PI X tg e t) (k : ∀ σ H Q, t' σ H Q → t σ H Q) : PI X tg e t' := ⟨fun pins s σ H Q I q => h.run pins s σ H Q I (k σ H Q q)⟩
theorem _root_.L2.PG.imp {X : Cx} {tg : Expr} {t t' : TG} (h : PG X tg t) (k : ∀ v σ H Q, t' v σ H Q → t v σ H Q) : PG X tg t' := ⟨fun pins s σ H v u Q I r q => h.run pins s σ H v u Q I r (k v σ H Q q)⟩

section
variable {F : Fx} {C : Ctx} {ρ ρ' : En} {g g' : G} {σ σ' : St} {H H' H1 H2 : Hp} {S S' : Addr → Prop} {d : D} {v u : V} {a p : Addr} {o : HO} {W W' : Hp → D → V → Prop} {r : Res (D × G)} {Q Q' : VK}
theorem RB.of (hr : S F.r) (h : F.rp H S d v) : RB F H S d v := by
  cases d with
  | lst xs => obtain ⟨a, vs, e, n, q⟩ := h; exact ⟨a, vs, e, fun z => n (z ▸ hr), q⟩
  | dk xs => obtain ⟨a, vs, e, n, q, r⟩ := h; exact ⟨a, vs, e, fun z => n (z ▸ hr), q.rd, r⟩
  | dt xs => obtain ⟨a, vs, e, n, q, r⟩ := h; exact ⟨a, vs, e, fun z => n (z ▸ hr), q.rd, r⟩
  | ins c fs => obtain ⟨a, C, dx, ws, e, n, q⟩ := h; exact ⟨a, C, dx, ws, e, fun z => n (z ▸ hr), q⟩
  | _ => exact h
theorem RB.own (h : RepO F H S d a) (n : a ≠ F.r) : RB F H S d (.ref a) := by
  cases d with
  | lst xs => obtain ⟨vs, e, z, k⟩ := h; exact ⟨a, vs, rfl, n, e, z, k⟩
  | dk xs => obtain ⟨vs, e, z, k⟩ := h; exact ⟨a, vs, rfl, n, .inl e, z, k⟩
  | dt xs => obtain ⟨vs, e, z, k⟩ := h; exact ⟨a, vs, rfl, n, .inl e, z, k⟩
  | ins c fs => obtain ⟨C, dx, ws, m, e, k⟩ := h; exact ⟨a, C, dx, ws, rfl, n, m, e, k⟩
  | _ => exact h.elim
theorem RB.ext (hr : S F.r) (x : Ext F.r H H') (h : RB F H S d v) : RB F H' S d v := by
  have A : Agr S H H' := x.agr hr
  cases d with
  | lst xs => obtain ⟨a, vs, e, n, q, z, k⟩ := h; exact ⟨a, vs, e, n, x.keep _ _ q n nt_lst, z, k.agr A⟩
  | dk xs => obtain ⟨a, vs, e, n, q, z, k⟩ := h; exact ⟨a, vs, e, n, q.elim (fun q => .inl (x.keep _ _ q n nt_dK)) (fun ⟨o, q⟩ => .inr ⟨o, x.keep _ _ q n nt_frz⟩), z, k.agr A⟩
  | dt xs => obtain ⟨a, vs, e, n, q, z, k⟩ := h; exact ⟨a, vs, e, n, q.elim (fun q => .inl (x.keep _ _ q n nt_dT)) (fun ⟨o, q⟩ => .inr ⟨o, x.keep _ _ q n nt_frz⟩), z, k.agr A⟩
  | ins c fs => obtain ⟨a, C, dx, ws, e, n, m, q, k⟩ := h; exact ⟨a, C, dx, ws, e, n, m, x.keep _ _ q n nt_ins, k.agr A⟩
  | tup xs => exact Rep.agr A (d := .tup xs) h
  | _ => exact h
theorem R.so (x : R F C ρ g σ H) : SO C ρ σ F.r := .inl x.sr
theorem StepE.ext (h : StepE F W C ρ σ H r Q) (e : Ext F.r H H1) : StepE F W C ρ σ H1 r Q := by
  cases r with
  | ok p => exact fun v H2 e2 x w => h v H2 (e.trans e2) x w
  | exc c d g => exact h
  | bad => exact h
theorem StepE.imp (h : StepE F W C ρ σ H r Q) (k : ∀ H1 d v, W' H1 d v → W H1 d v) : StepE F W' C ρ σ H r Q := by
  cases r with
  | ok p => exact fun v H2 e2 x w => h v H2 e2 x (k _ _ _ w)
  | exc c d g => exact h
  | bad => exact h
/-- the end is at hand: the heap as it is -/
theorem StepE.here (h : StepE F W C ρ σ H (.ok (d, g)) Q) (x : R F C ρ g σ H) (w : W H d v) : Q v H := h v H .refl x w
theorem StepE.new (h : StepE F W C ρ σ H (.ok (d, g)) Q) (x : R F C ρ g σ H) (hp : H p = none) (w : W (upd H p o) d v) : Q v (upd H p o) := h v _ (.new hp) (x.new hp) w
theorem tb_t {f : SE} (h : TB F f σ H Q) : T F f σ H Q := by
  obtain ⟨C, ρ, g, x, h⟩ := h
  refine ⟨C, ρ, g, x, h.imp fun H1 d v w => RB.of x.so w⟩
theorem t_toL {f : SE} (hl : ∀ ρ g d g1, f ρ g = .ok (d, g1) → d.noDict = true) (h : T F f σ H Q) : TO F f σ H Q := by
  obtain ⟨C, ρ, g, x, h⟩ := h
  refine ⟨C, ρ, g, x, ?_⟩
  cases q : f ρ g with
  | bad => rw [q] at h; exact h
  | exc c d g => rw [q] at h; exact h
  | ok r =>
    rw [q] at h
    intro v H1 e2 x2 ⟨p, e, n, w⟩
    subst e
    exact h _ H1 e2 x2 ((w.sub fun a z => .inl z).rep (x.nso n) (hl _ _ _ _ q))
end

variable {X : Cx} {F : Fx} {e a b : Expr} {fa fb f : SE} {pos : Pos}
theorem _root_.L2.PE.look (h : PE X e (T F f)) : PE X e (TB F f) := h.imp fun _ _ _ => tb_t
theorem lock_ext {F : Fx} {C : Ctx} {ρ : En} {g g1 : G} {σ : St} {H H1 : Hp} {p : Addr} {u o : HO} (x : R F C ρ g σ H) (e1 : Ext F.r H H1) (x1 : R F C ρ g1 σ H1) (hp : H p = none) (h1 : H1 p = some u) (nt : notTbl u) (ne : ∀ φ, u ≠ .ext φ) : Ext F.r H (upd H1 p o) ∧ R F C ρ g1 σ (upd H1 p o) := by
  have np : ∀ b v, H b = some v → b ≠ p := fun b v q z => by rw [z, hp] at q; cases q
  have e2 : Ext F.r H (upd H1 p o) := ⟨fun b v q n t => by rw [upd_ne (np b v q)]; exact e1.keep b v q n t, fun b q => by
    unfold upd
    split
    · simp
    · exact e1.dom b q⟩
  have hr : F.r ≠ p := np _ _ x.gl.row
  exact ⟨e2, x.ext e2 ⟨by rw [upd_ne hr]; exact x1.gl.row, tabs_upd x1.gl.tab (.inr ⟨u, h1, nt, ne⟩), x1.gl.ns⟩⟩
theorem _root_.L2.PE.keep (h : PE X e (TO F f)) : PE X e (T F f) := ⟨fun pins s σ H Q I ⟨C, ρ, g, x, hh⟩ => by
  refine thn (h.run pins s σ H (fun v H1 => ∀ s', Inv X pins σ H1 s' → ∃ H2, Inv X pins σ H2 s' ∧ Q v H2) I ⟨C, ρ, g, x, ?_⟩) fun u s1 ⟨v, H1, I1, r1, q1⟩ => ?_
  · cases q : f ρ g with
    | bad => rw [q] at hh; exact hh
    | exc c d g' => rw [q] at hh; exact hh
    | ok r =>
      rw [q] at hh
      intro v H1 e1 x1 ⟨p, ev, hp, w⟩ s' I'
      subst ev
      obtain ⟨d, g1⟩ := r
      cases d with
      | dk kvs =>
        obtain ⟨ws, w1, w2, w3⟩ := w
        obtain ⟨od, I2⟩ := I'.lock w1 True.intro
        obtain ⟨e2, x2⟩ := lock_ext (o := .frz od (.dK ws)) x e1 x1 hp w1 nt_dK (fun _ z => by cases z)
        exact ⟨_, I2, hh _ _ e2 x2 ⟨p, ws, rfl, x.nso hp, ⟨od, upd_same⟩, w2, (w3.agr (agr_upd (.inr rfl))).sub fun a z => .inl z⟩⟩
      | dt kvs =>
        obtain ⟨ws, w1, w2, w3⟩ := w
        obtain ⟨od, I2⟩ := I'.lock w1 True.intro
        obtain ⟨e2, x2⟩ := lock_ext (o := .frz od (.dT ws)) x e1 x1 hp w1 nt_dT (fun _ z => by cases z)
        exact ⟨_, I2, hh _ _ e2 x2 ⟨p, ws, rfl, x.nso hp, ⟨od, upd_same⟩, w2, (w3.agr (agr_upd (.inr rfl))).sub fun a z => .inl z⟩⟩
      | lst xs => exact ⟨H1, I', hh _ H1 e1 x1 ((w.sub fun a z => .inl z).rep (x.nso hp) rfl)⟩
      | ins c fs => exact ⟨H1, I', hh _ H1 e1 x1 ((w.sub fun a z => .inl z).rep (x.nso hp) rfl)⟩
      | _ => exact w.elim
  · obtain ⟨H2, I2, q2⟩ := q1 s1 I1
    exact ⟨v, H2, I2, r1, q2⟩⟩
/-! ### names, constants -/
def vVar (i : Nat) : SE := fun ρ g => match ρ[i]? with
  | some (.frz d) => .ok (d, g)
  | _ => .bad
def bVar (i : Nat) : SE := fun ρ g => match ρ[i]? with
  | some (.frz d) => .ok (d, g)
  | some (.own d) => .ok (d, g)
  | _ => .bad
def vC (d : D) : SE := fun _ g => .ok (d, g)
theorem ve_var {i : Nat} {x : Str} (hN : X.N[i]? = some x := by rfl) (hv : Vis X.env.scope x := by first | exact Or.inl rfl | exact Or.inr (Or.inl rfl) | exact Or.inr (Or.inr rfl)) (hd : (x == ("__debug__" : Str)) = false := by decide)
    (hcd : (x == ("__classdict__" : Str)) = false := by decide) : PE X (.Name x pos) (T F (vVar i)) := (pe_var hN hv hd hcd).imp fun σ H Q ⟨C, ρ, g, x, h⟩ => by
  unfold vVar at h
  cases q : ρ[i]? with
  | none => rw [q] at h; exact h.elim
  | some z =>
    rw [q] at h
    cases z with
    | frz d =>
      obtain ⟨v, h1, h2⟩ := x.frz i d q
      exact ⟨v, h1, h.here x h2⟩
    | _ => exact h.elim
theorem be_var {i : Nat} {x : Str} (hN : X.N[i]? = some x := by rfl) (hv : Vis X.env.scope x := by first | exact Or.inl rfl | exact Or.inr (Or.inl rfl) | exact Or.inr (Or.inr rfl)) (hd : (x == ("__debug__" : Str)) = false := by decide)
    (hcd : (x == ("__classdict__" : Str)) = false := by decide) : PE X (.Name x pos) (TB F (bVar i)) := (pe_var hN hv hd hcd).imp fun σ H Q ⟨C, ρ, g, x, h⟩ => by
  unfold bVar at h
  cases q : ρ[i]? with
  | none => rw [q] at h; exact h.elim
  | some z =>
    rw [q] at h
    cases z with
    | frz d =>
      obtain ⟨v, h1, h2⟩ := x.frz i d q
      exact ⟨v, h1, h.here x (RB.of x.so h2)⟩
    | own d =>
      obtain ⟨a, h1, h2, h3⟩ := x.own i d q
      exact ⟨.ref a, h1, h.here x (RB.own h3 fun z => x.own_ne ⟨i, d, q, h1⟩ (z ▸ x.sr))⟩
    | _ => exact h.elim
theorem ve_c {d : D} {v : V} (h : PE X e (tC v)) (k : ∀ H S, F.rp H S d v) : PE X e (T F (vC d)) := h.imp fun σ H Q ⟨C, ρ, g, x, h⟩ => h.here x (k _ _)
theorem ve_int {i j} : PE X (.Constant (.int i) j pos) (T F (vC (.int i))) := ve_c pe_int fun _ _ => rfl
theorem ve_bl {i j} : PE X (.Constant (.bool i) j pos) (T F (vC (.bl i))) := ve_c pe_bl fun _ _ => rfl
theorem ve_non {j} : PE X (.Constant .none j pos) (T F (vC .non)) := ve_c pe_non fun _ _ => rfl
theorem ve_str {i j} : PE X (.Constant (.str i) j pos) (T F (vC (.str i))) := ve_c pe_str fun _ _ => rfl
/-- a def or class of the module as a value -/
theorem ve_fn {x : Str} {A : Addr} (hF : X.mg = F.mg) (hm : F.mg x = some (.ref A)) (hg : Gl X x := by rfl) (hd : (x == ("__debug__" : Str)) = false := by decide) : PE X (.Name x pos) (T F (vC (.fn x))) :=
  ve_c (pe_glob (v := .ref A) hg (by rw [hF]; exact hm) rfl hd) fun _ _ => ⟨A, rfl, hm⟩
/-- a module's number -/
theorem ve_num {x : Str} {i : Int} {t : Tok} (hF : X.mg = F.mg) (hm : F.mg x = some (.int i t)) (hg : Gl X x := by rfl) (hd : (x == ("__debug__" : Str)) = false := by decide) : PE X (.Name x pos) (T F (vC (.int i))) :=
  ve_c (pe_glob (v := .int i) hg (by rw [hF]; exact hm) ⟨t, rfl⟩ hd) fun _ _ => rfl

/-! ### two operands -/
def v2 (k : D → D → G → Res (D × G)) (fa fb : SE) : SE := fun ρ g => (fa ρ g).bind fun p => (fb ρ p.2).bind fun q => k p.1 q.1 q.2
def v1 (k : D → G → Res (D × G)) (fa : SE) : SE := fun ρ g => (fa ρ g).bind fun p => k p.1 p.2
def pureK2 (op : D → D → Option D) : D → D → G → Res (D × G) := fun x y g => match op x y with
  | some d => .ok (d, g)
  | none => .bad
def pureK1 (op : D → Option D) : D → G → Res (D × G) := fun x g => match op x with
  | some d => .ok (d, g)
  | none => .bad
/-- how two looked-at values stand -/
theorem two_tb {C : Ctx} {ρ : En} {g : G} {σ : St} {H : Hp} {Q : VK} {W : Hp → D → V → Prop} {k : D → D → G → Res (D × G)} {r : V → V → Hp → Prop} (x : R F C ρ g σ H) (h : StepE F W C ρ σ H (v2 k fa fb ρ g) Q)
    (hr : ∀ x y g v u H1, Ext F.r H H1 → R F C ρ g σ H1 → RB F H1 (SO C ρ σ) x v → RB F H1 (SO C ρ σ) y u → StepE F W C ρ σ H1 (k x y g) Q → r v u H1) : TB F fa σ H fun v H1 => TB F fb σ H1 fun u H2 => r v u H2 := by
  refine ⟨C, ρ, g, x, ?_⟩
  unfold v2 at h
  cases q : fa ρ g with
  | bad => rw [q] at h; exact h
  | exc c d g => rw [q] at h; exact h
  | ok p =>
    rw [q] at h
    intro v H1 e1 x1 w1
    refine ⟨C, ρ, p.2, x1, ?_⟩
    have h : StepE F W C ρ σ H ((fb ρ p.2).bind fun q => k p.1 q.1 q.2) Q := h
    cases q2 : fb ρ p.2 with
    | bad => rw [q2] at h; exact h
    | exc c d g => rw [q2] at h; exact h
    | ok p2 =>
      rw [q2] at h
      intro u H2 e2 x2 w2
      exact hr p.1 p2.1 p2.2 v u H2 (e1.trans e2) x2 (w1.ext x.so e2) w2 (StepE.ext h (e1.trans e2))
theorem one_tb {C : Ctx} {ρ : En} {g : G} {σ : St} {H : Hp} {Q : VK} {W : Hp → D → V → Prop} {k : D → G → Res (D × G)} {r : V → Hp → Prop} (x : R F C ρ g σ H) (h : StepE F W C ρ σ H (v1 k fa ρ g) Q)
    (hr : ∀ x g v H1, Ext F.r H H1 → R F C ρ g σ H1 → RB F H1 (SO C ρ σ) x v → StepE F W C ρ σ H1 (k x g) Q → r v H1) : TB F fa σ H fun v H1 => r v H1 := by
  refine ⟨C, ρ, g, x, ?_⟩
  unfold v1 at h
  cases q : fa ρ g with
  | bad => rw [q] at h; exact h
  | exc c d g => rw [q] at h; exact h
  | ok p =>
    rw [q] at h
    intro v H1 e1 x1 w1
    exact hr p.1 p.2 v H1 e1 x1 w1 (StepE.ext h e1)
theorem one_t {C : Ctx} {ρ : En} {g : G} {σ : St} {H : Hp} {Q : VK} {W : Hp → D → V → Prop} {k : D → G → Res (D × G)} {r : V → Hp → Prop} (x : R F C ρ g σ H) (h : StepE F W C ρ σ H (v1 k fa ρ g) Q)
    (hr : ∀ x g v H1, Ext F.r H H1 → R F C ρ g σ H1 → F.rp H1 (SO C ρ σ) x v → StepE F W C ρ σ H1 (k x g) Q → r v H1) : T F fa σ H fun v H1 => r v H1 := by
  refine ⟨C, ρ, g, x, ?_⟩
  unfold v1 at h
  cases q : fa ρ g with
  | bad => rw [q] at h; exact h
  | exc c d g => rw [q] at h; exact h
  | ok p =>
    rw [q] at h
    intro v H1 e1 x1 w1
    exact hr p.1 p.2 v H1 e1 x1 w1 (StepE.ext h e1)
/-- an operator by its rule on values -/
theorem ve_op2 {r : R2} {op : D → D → Option D} (mk : PE X e (tOp r (TB F fa) (TB F fb)))
    (hr : ∀ C ρ g σ H x y v u d Q, R F C ρ g σ H → RB F H (SO C ρ σ) x v → RB F H (SO C ρ σ) y u → op x y = some d → StepE F (fun H1 d v => F.rp H1 (SO C ρ σ) d v) C ρ σ H (.ok (d, g)) Q → r v u H Q) :
    PE X e (T F (v2 (pureK2 op) fa fb)) := mk.imp fun σ H Q ⟨C, ρ, g, x, h⟩ => by
  refine two_tb x h fun x y g v u H1 e1 x1 w1 w2 st => ?_
  unfold pureK2 at st
  cases q : op x y with
  | none => rw [q] at st; exact st.elim
  | some d => rw [q] at st; exact hr C ρ g σ H1 x y v u d Q x1 w1 w2 q st
end RP
end L2
set_option Elab.async false
set_option linter.all false
set_option maxRecDepth 100000
/-! R4: operators and comparisons on deep values. -/
namespace L2
namespace RP
open PySem PySem.Spec PyProof.Rows

/-! ### data as the library's -/
mutual
def D.py : D → PyData
  | .bl b => .bool b
  | .int i => .int i
  | .str s => .str s
  | .tup xs => .tuple (D.pys xs)
  | .lst xs => .list (D.pys xs)
  | _ => .none
def D.pys : List D → List PyData
  | [] => []
  | d :: ds => d.py :: D.pys ds
end
mutual
/-- data (no dict, no object), at most n deep -/
def D.dat : D → Nat → Bool
  | .non, _ => true
  | .bl _, _ => true
  | .int _, _ => true
  | .str s, _ => PyData.strOk s
  | .tup xs, n + 1 => D.dats xs n
  | .lst xs, n + 1 => D.dats xs n
  | _, _ => false
def D.dats : List D → Nat → Bool
  | [], _ => true
  | d :: ds, n => d.dat n && D.dats ds n
end
mutual
/-- == of data -/
def D.eqv : D → D → Bool
  | .non, .non => true
  | .bl a, .bl b => a == b
  | .bl a, .int j => (if a then 1 else 0) == j
  | .int i, .bl b => i == (if b then 1 else 0)
  | .int i, .int j => i == j
  | .str x, .str y => x == y
  | .lst xs, .lst ys => D.eqvs xs ys
  | .tup xs, .tup ys => D.eqvs xs ys
  | _, _ => false
def D.eqvs : List D → List D → Bool
  | [], [] => true
  | x :: xs, y :: ys => D.eqv x y && D.eqvs xs ys
  | _, _ => false
end
mutual
theorem eqv_py : ∀ (x y : D), (∃ n, x.dat n = true) → (∃ n, y.dat n = true) → PyData.eqv x.py y.py = D.eqv x y
  | .non, y, _, hy => by cases y <;> first | rfl | (obtain ⟨n, h⟩ := hy; cases n <;> simp [D.dat] at h)
  | .bl b, y, _, hy => by cases y <;> first | rfl | (obtain ⟨n, h⟩ := hy; cases n <;> simp [D.dat] at h)
  | .int i, y, _, hy => by cases y <;> first | rfl | (obtain ⟨n, h⟩ := hy; cases n <;> simp [D.dat] at h)
  | .str s, y, _, hy => by cases y <;> first | rfl | (obtain ⟨n, h⟩ := hy; cases n <;> simp [D.dat] at h)
  | .tup xs, y, hx, hy => by
    cases y with
    | tup ys =>
      show PyData.eqvAll (D.pys xs) (D.pys ys) = D.eqvs xs ys
      obtain ⟨n, h⟩ := hx
      obtain ⟨m, k⟩ := hy
      cases n with
      | zero => simp [D.dat] at h
      | succ n => cases m with
        | zero => simp [D.dat] at k
        | succ m => exact eqvs_py xs ys ⟨n, by simpa [D.dat] using h⟩ ⟨m, by simpa [D.dat] using k⟩
    | dk _ => obtain ⟨n, h⟩ := hy; cases n <;> simp [D.dat] at h
    | dt _ => obtain ⟨n, h⟩ := hy; cases n <;> simp [D.dat] at h
    | ins _ _ => obtain ⟨n, h⟩ := hy; cases n <;> simp [D.dat] at h
    | fn _ => obtain ⟨n, h⟩ := hy; cases n <;> simp [D.dat] at h
    | row => obtain ⟨n, h⟩ := hy; cases n <;> simp [D.dat] at h
    | _ => simp [D.py, PyData.eqv, D.eqv]
  | .lst xs, y, hx, hy => by
    cases y with
    | lst ys =>
      show PyData.eqvAll (D.pys xs) (D.pys ys) = D.eqvs xs ys
      obtain ⟨n, h⟩ := hx
      obtain ⟨m, k⟩ := hy
      cases n with
      | zero => simp [D.dat] at h
      | succ n => cases m with
        | zero => simp [D.dat] at k
        | succ m => exact eqvs_py xs ys ⟨n, by simpa [D.dat] using h⟩ ⟨m, by simpa [D.dat] using k⟩
    | dk _ => obtain ⟨n, h⟩ := hy; cases n <;> simp [D.dat] at h
    | dt _ => obtain ⟨n, h⟩ := hy; cases n <;> simp [D.dat] at h
    | ins _ _ => obtain ⟨n, h⟩ := hy; cases n <;> simp [D.dat] at h
    | fn _ => obtain ⟨n, h⟩ := hy; cases n <;> simp [D.dat] at h
    | row => obtain ⟨n, h⟩ := hy; cases n <;> simp [D.dat] at h
    | _ => simp [D.py, PyData.eqv, D.eqv]
  | .dk _, _, hx, _ => by obtain ⟨n, h⟩ := hx; cases n <;> simp [D.dat] at h
  | .dt _, _, hx, _ => by obtain ⟨n, h⟩ := hx; cases n <;> simp [D.dat] at h
  | .ins _ _, _, hx, _ => by obtain ⟨n, h⟩ := hx; cases n <;> simp [D.dat] at h
  | .fn _, _, hx, _ => by obtain ⟨n, h⟩ := hx; cases n <;> simp [D.dat] at h
  | .row, _, hx, _ => by obtain ⟨n, h⟩ := hx; cases n <;> simp [D.dat] at h
theorem eqvs_py : ∀ (xs ys : List D), (∃ n, D.dats xs n = true) → (∃ n, D.dats ys n = true) → PyData.eqvAll (D.pys xs) (D.pys ys) = D.eqvs xs ys
  | [], [], _, _ => rfl
  | [], _ :: _, _, _ => rfl
  | _ :: _, [], _, _ => rfl
  | x :: xs, y :: ys, ⟨n, h⟩, ⟨m, k⟩ => by
    simp only [D.dats, Bool.and_eq_true] at h k
    show (PyData.eqv x.py y.py && PyData.eqvAll (D.pys xs) (D.pys ys)) = (D.eqv x y && D.eqvs xs ys)
    rw [eqv_py x y ⟨n, h.1⟩ ⟨m, k.1⟩, eqvs_py xs ys ⟨n, h.2⟩ ⟨m, k.2⟩]
end
mutual
theorem dat_shape : ∀ (d : D) (n : Nat), d.dat n = true → d.py.canLay0 = true ∧ d.py.depth ≤ n
  | .non, _, _ => ⟨rfl, Nat.zero_le _⟩
  | .bl _, _, _ => ⟨rfl, Nat.zero_le _⟩
  | .int _, _, _ => ⟨rfl, Nat.zero_le _⟩
  | .str s, _, h => ⟨by simpa [D.py, PyData.canLay0, D.dat] using h, Nat.zero_le _⟩
  | .tup xs, 0, h => by simp [D.dat] at h
  | .tup xs, n + 1, h => by
    obtain ⟨a, b⟩ := dats_shape xs n (by simpa [D.dat] using h)
    exact ⟨by simpa [D.py, PyData.canLay0] using a, by simp only [D.py, PyData.depth]; omega⟩
  | .lst xs, 0, h => by simp [D.dat] at h
  | .lst xs, n + 1, h => by
    obtain ⟨a, b⟩ := dats_shape xs n (by simpa [D.dat] using h)
    exact ⟨by simpa [D.py, PyData.canLay0] using a, by simp only [D.py, PyData.depth]; omega⟩
  | .dk _, n, h => by cases n <;> simp [D.dat] at h
  | .dt _, n, h => by cases n <;> simp [D.dat] at h
  | .ins _ _, n, h => by cases n <;> simp [D.dat] at h
  | .fn _, n, h => by cases n <;> simp [D.dat] at h
  | .row, n, h => by cases n <;> simp [D.dat] at h
theorem dats_shape : ∀ (ds : List D) (n : Nat), D.dats ds n = true → PyData.canLayAll0 (D.pys ds) = true ∧ PyData.depthAll (D.pys ds) ≤ n
  | [], _, _ => ⟨rfl, Nat.zero_le _⟩
  | d :: ds, n, h => by
    simp only [D.dats, Bool.and_eq_true] at h
    obtain ⟨a, b⟩ := dat_shape d n h.1
    obtain ⟨a', b'⟩ := dats_shape ds n h.2
    exact ⟨by simp [D.pys, PyData.canLayAll0, a, a'], by simp only [D.pys, PyData.depthAll]; omega⟩
end
theorem dat_shaped {d : D} {n : Nat} (h : d.dat n = true) (hn : n ≤ 64 := by decide) : SeqAt.shaped d.py = true := by
  obtain ⟨a, b⟩ := dat_shape d n h
  unfold SeqAt.shaped
  rw [a, decide_eq_true (Nat.le_trans b hn)] <;> rfl
section
variable {F : Fx} {H : Hp} {S : Addr → Prop}
mutual
theorem rep_dp : ∀ (d : D) (n : Nat) (v : V), d.dat n = true → F.rp H S d v → Dp F.K H v d.py
  | .non, _, _, _, e => by rw [show _ = V.non from e]; exact .non
  | .bl _, _, _, _, e => by rw [show _ = V.bl _ from e]; exact .bl _
  | .int _, _, _, _, e => by rw [show _ = V.int _ from e]; exact .int _
  | .str _, _, _, _, e => by rw [show _ = V.str _ from e]; exact .str _
  | .tup xs, 0, _, h, _ => by simp [D.dat] at h
  | .tup xs, n + 1, _, h, ⟨a, vs, e, _, q, _, k⟩ => by rw [e]; exact .tup (SqT.of q) (reps_dp xs n vs (by simpa [D.dat] using h) k)
  | .lst xs, 0, _, h, _ => by simp [D.dat] at h
  | .lst xs, n + 1, _, h, ⟨a, vs, e, _, q, _, k⟩ => by rw [e]; exact .lst (SqL.of q) (reps_dp xs n vs (by simpa [D.dat] using h) k)
  | .dk _, n, _, h, _ => by cases n <;> simp [D.dat] at h
  | .dt _, n, _, h, _ => by cases n <;> simp [D.dat] at h
  | .ins _ _, n, _, h, _ => by cases n <;> simp [D.dat] at h
  | .fn _, n, _, h, _ => by cases n <;> simp [D.dat] at h
  | .row, n, _, h, _ => by cases n <;> simp [D.dat] at h
theorem reps_dp : ∀ (ds : List D) (n : Nat) (vs : List V), D.dats ds n = true → F.rps H S ds vs → DpAll F.K H vs (D.pys ds)
  | [], _, _, _, e => by rw [show _ = [] from e]; exact .nil
  | d :: ds, n, _, h, ⟨v, ws, e, a, b⟩ => by
    simp only [D.dats, Bool.and_eq_true] at h
    rw [e]
    exact .cons (rep_dp d n v h.1 a) (reps_dp ds n ws h.2 b)
end
theorem rb_dp {d : D} {n : Nat} {v : V} (h : d.dat n = true) (q : RB F H S d v) : Dp F.K H v d.py := by
  cases d with
  | lst xs =>
    cases n with
    | zero => simp [D.dat] at h
    | succ n =>
      obtain ⟨a, vs, e, _, q, _, k⟩ := q
      rw [e]
      exact .lst (SqL.of q) (reps_dp xs n vs (by simpa [D.dat] using h) k)
  | dk _ => cases n <;> simp [D.dat] at h
  | dt _ => cases n <;> simp [D.dat] at h
  | ins _ _ => cases n <;> simp [D.dat] at h
  | _ => exact rep_dp (S := S) _ n v h q
end

/-! ### the operators -/
def D.flat : D → Bool
  | .non => true | .bl _ => true | .int _ => true | .str _ => true | _ => false
def D.eqS : D → D → Option Bool
  | .non, .non => some true
  | .int i, .int j => some (i == j)
  | .str i, .str j => some (i == j)
  | .bl i, .bl j => some (i == j)
  | .non, .int _ => some false | .int _, .non => some false | .non, .str _ => some false | .str _, .non => some false
  | .non, .bl _ => some false | .bl _, .non => some false | .int _, .str _ => some false | .str _, .int _ => some false
  | .bl _, .str _ => some false | .str _, .bl _ => some false
  | _, _ => none
def D.eq (x y : D) : Option Bool :=
  match D.eqS x y with
  | some b => some b
  | none => if x.dat 60 && y.dat 60 then some (D.eqv x y) else none
def D.isNon : D → Bool
  | .non => true
  | _ => false
def D.isB (x y : D) : Option Bool :=
  match y with
  | .non => some x.isNon
  | .bl b => (match x with
    | .bl a => some (decide (a = b))
    | _ => none)
  | _ => none
def D.add : D → D → Option D
  | .int i, .int j => some (.int (i + j))
  | .str i, .str j => if i.length + j.length ≤ sizeLine then some (.str (i ++ j)) else none
  | .lst xs, .lst ys => if xs.length + ys.length ≤ sizeLine then some (.lst (xs ++ ys)) else none
  | .tup xs, .tup ys => if xs.length + ys.length ≤ sizeLine then some (.tup (xs ++ ys)) else none
  | _, _ => none
def D.sub : D → D → Option D
  | .int i, .int j => some (.int (i - j))
  | _, _ => none
/-- one factor below 2 ^ 64 -/
def mulOk (i j : Int) : Bool := decide (i.natAbs < 2 ^ 62) || decide (j.natAbs < 2 ^ 62)
def D.mul : D → D → Option D
  | .int i, .int j => if mulOk i j then some (.int (i * j)) else none
  | .lst xs, .int k => if k < 2 ^ 62 ∧ -(2 ^ 62) < k ∧ xs.length * k.toNat ≤ sizeLine then some (.lst (List.replicate k.toNat xs).flatten) else none
  | _, _ => none
def D.div : D → D → Option D
  | .int i, .int j => if 0 < j ∧ j < 1073741824 then some (.int (i / j)) else none
  | _, _ => none
def D.mod : D → D → Option D
  | .int i, .int j => if 0 < j then some (.int (i % j)) else none
  | _, _ => none
def D.pow : D → D → Option D
  | .int i, .int j => if 0 ≤ j ∧ j ≤ 1000000 ∧ i.natAbs < 2 ^ 62 then some (.int (i ^ j.toNat)) else none
  | _, _ => none
section
variable {X : Cx} {F : Fx} {e a b : Expr} {fa fb f : SE} {pos : Pos}
theorem rb_int {H S i v} (h : RB F H S (.int i) v) : v = .int i := h
theorem rb_str {H S i v} (h : RB F H S (.str i) v) : v = .str i := h
theorem rb_bl {H S i v} (h : RB F H S (.bl i) v) : v = .bl i := h
theorem rb_non {H S v} (h : RB F H S .non v) : v = .non := h
theorem rps_rep {H S} {xs : List D} {vs : List V} (h : F.rps H S xs vs) : ∀ k : Nat, F.rps H S (List.replicate k xs).flatten (List.replicate k vs).flatten
  | 0 => rfl
  | k + 1 => by
    rw [List.replicate_succ, List.replicate_succ, List.flatten_cons, List.flatten_cons]
    exact h.app (rps_rep h k)
theorem tuple_addW0 (l b : Addr) (items items2 : Array Value) (n n2 : Nat) (dd dd2 : Option Addr) (sl sl2 : Array (Option Value)) (hc0 : items.isEmpty = true) :
    Meets (Builtin.«tuple.__add__» ⟨[.ref l, .ref b], []⟩) (fun _ R s => s.heap.get? l = some { cls := .type "tuple", dict := dd, data := .seq items n, slots := sl } ∧ s.heap.get? b = some { cls := .type "tuple", dict := dd2, data := .seq items2 n2, slots := sl2 } ∧ R (.ok (.ret (Value.ref b))) { s with heap := s.heap, toks := s.toks }) :=
  .of_wp fun prog w A R s h => by obtain ⟨hp, g, d, tk, os⟩ := s; obtain ⟨hl, hb, h⟩ := h; have f1 := AutoSeq1.idx_int; have f2 := AutoSeq1.sub_tuple_tuple; have f3 := AutoSeq1.sub_list_list; have f4 := AutoSeq1.sub_tuple_list; have f5 := AutoSeq1.sub_list_tuple; wp_walk using wpAny_loadPart' hl, wpAny_loadPart' hb; exact ⟨_, rfl, h⟩
/-- () + t -/
theorem op_catT0 : OpR X (binaryOp .Add) (fun x y H Q => ∃ a b ys, x = .ref a ∧ y = .ref b ∧ SqT X.K H a [] ∧ SqT X.K H b ys ∧ Q (.ref b) H) := by
  intro pins s σ H x y v u Q I rx ry h
  obtain ⟨a, b, ys, rfl, rfl, ha, hb, q⟩ := h
  cases rx
  cases ry
  obtain ⟨its, r1, t1, _⟩ := I.tuple ha
  obtain ⟨its2, r2, t2, _⟩ := I.tuple hb
  cases r1
  obtain ⟨⟨cls, dd, data, sl⟩, ho, hc, n, hd⟩ := id t1
  obtain ⟨⟨cls2, dd2, data2, sl2⟩, ho2, hc2, n2, hd2⟩ := id t2
  simp only at hc hd hc2 hd2
  subst hc hd hc2 hd2
  exact concat_meets ⟨_, ho, rfl⟩ ⟨_, ho2, rfl⟩ noFill_tuple_add seq_tuple_add PySem.F.slot_tuple_add PySem.F.entry_tuple_add (PySem.F.args_tuple_add_2 _ _)
      (tuple_addW0 a b _ _ n n2 dd dd2 sl sl2 (by simp)) ⟨ho, ho2, .ref b, H, I, rfl, q⟩
def rAddA (K : PySem.W.Frag) : R2 := fun x y H Q => rI0 (fun i j => .int (i + j)) x y H Q ∨ (∃ i j, x = .str i ∧ y = .str j ∧ i.length + j.length ≤ sizeLine ∧ Q (.str (i ++ j)) H) ∨ rCat x y H Q ∨ rCatT K x y H Q ∨
  ∃ a b ys, x = .ref a ∧ y = .ref b ∧ SqT K H a [] ∧ SqT K H b ys ∧ Q (.ref b) H
theorem op_addA : OpR X (binaryOp .Add) (rAddA X.K) := op_add.or (op_add_str.or (op_cat.or (op_catT.or op_catT0)))
theorem ve_add (hK : X.K = F.K) (ha : PE X a (TB F fa)) (hb : PE X b (TB F fb)) : PE X (.BinOp a .Add b pos) (T F (v2 (pureK2 D.add) fa fb)) :=
  ve_op2 (pe_op op_addA ha hb) fun C ρ g σ H x y v u d Q x1 hx hy op st => by
    unfold D.add at op
    split at op
    · cases op
      exact .inl ⟨_, _, hx, hy, st.here x1 rfl⟩
    · split at op
      · rename_i hl
        cases op
        exact .inr (.inl ⟨_, _, hx, hy, hl, st.here x1 rfl⟩)
      · cases op
    · rename_i xs ys
      split at op
      · rename_i hl
        cases op
        obtain ⟨a1, n1, q1, _, e1, _, z1⟩ := hx
        obtain ⟨a2, n2, q2, _, e2, _, z2⟩ := hy
        subst q1 q2
        rw [z1.length, z2.length] at hl
        refine .inr (.inr (.inl ⟨a1, a2, n1, n2, rfl, rfl, e1, e2, hl, fun p hp => st.new x1 hp ⟨p, _, rfl, x1.nso hp, upd_same, by simpa using hl, (z1.app z2).agr (agr_new hp)⟩⟩))
      · cases op
    · rename_i xs ys
      split at op
      · rename_i hl
        cases op
        obtain ⟨a1, n1, q1, s1, e1, _, z1⟩ := hx
        obtain ⟨a2, n2, q2, s2, e2, l2, z2⟩ := hy
        subst q1 q2
        rw [z1.length, z2.length] at hl
        by_cases hn : n1 = []
        · subst hn
          have hz : xs = [] := List.eq_nil_of_length_eq_zero (by rw [z1.length]; rfl)
          subst hz
          exact .inr (.inr (.inr (.inr ⟨a1, a2, n2, rfl, rfl, SqT.of e1, SqT.of e2, st.here x1 ⟨a2, n2, rfl, s2, e2, l2, z2⟩⟩)))
        · refine .inr (.inr (.inr (.inl ⟨a1, a2, n1, n2, rfl, rfl, SqT.of e1, SqT.of e2, hn, hl, fun hw => ?_, fun _ p hp => st.new x1 hp ⟨p, _, rfl, x1.nso hp, upd_same, by simpa using hl, (z1.app z2).agr (agr_new hp)⟩⟩)))
          subst hw
          have hz : ys = [] := List.eq_nil_of_length_eq_zero (by rw [z2.length]; rfl)
          subst hz
          exact st.here x1 ⟨a1, n1, rfl, s1, e1, by simpa using hl, by rw [List.append_nil]; exact z1⟩
      · cases op
    · cases op
/-- an operator on two ints -/
theorem ve_opI {op : Operator} {C0 : Int → Int → Prop} {h : Int → Int → V} {D2 : D → D → Option D} (ho : OpR X (binaryOp op) (rI C0 h)) (ha : PE X a (TB F fa)) (hb : PE X b (TB F fb))
    (hD : ∀ x y d, D2 x y = some d → ∃ i j k, x = .int i ∧ y = .int j ∧ C0 i j ∧ h i j = .int k ∧ d = .int k) : PE X (.BinOp a op b pos) (T F (v2 (pureK2 D2) fa fb)) :=
  ve_op2 (pe_op ho ha hb) fun C ρ g σ H x y v u d Q x1 hx hy op st => by
    obtain ⟨i, j, k, rfl, rfl, c, e, rfl⟩ := hD _ _ _ op
    refine ⟨i, j, hx, hy, c, ?_⟩
    rw [e]
    exact st.here x1 rfl
theorem ve_sub (ha : PE X a (TB F fa)) (hb : PE X b (TB F fb)) : PE X (.BinOp a .Sub b pos) (T F (v2 (pureK2 D.sub) fa fb)) :=
  ve_op2 (pe_op op_sub ha hb) fun C ρ g σ H x y v u d Q x1 hx hy op st => by
    unfold D.sub at op
    split at op
    · cases op
      exact ⟨_, _, hx, hy, st.here x1 rfl⟩
    · cases op
theorem ve_div (ha : PE X a (TB F fa)) (hb : PE X b (TB F fb)) : PE X (.BinOp a .FloorDiv b pos) (T F (v2 (pureK2 D.div) fa fb)) :=
  ve_opI op_fdiv ha hb fun x y d h => by
    unfold D.div at h
    split at h
    · split at h
      · rename_i hc
        cases h
        exact ⟨_, _, _, rfl, rfl, hc, rfl, rfl⟩
      · cases h
    · cases h
theorem ve_mod (ha : PE X a (TB F fa)) (hb : PE X b (TB F fb)) : PE X (.BinOp a .Mod b pos) (T F (v2 (pureK2 D.mod) fa fb)) :=
  ve_opI op_mod ha hb fun x y d h => by
    unfold D.mod at h
    split at h
    · split at h
      · rename_i hc
        cases h
        exact ⟨_, _, _, rfl, rfl, hc, rfl, rfl⟩
      · cases h
    · cases h
theorem ve_pow (ha : PE X a (TB F fa)) (hb : PE X b (TB F fb)) : PE X (.BinOp a .Pow b pos) (T F (v2 (pureK2 D.pow) fa fb)) :=
  ve_opI op_pow ha hb fun x y d h => by
    unfold D.pow at h
    split at h
    · split at h
      · rename_i hc
        cases h
        exact ⟨_, _, _, rfl, rfl, ⟨hc.1, hc.2.1, by have := hc.2.2; omega⟩, rfl, rfl⟩
      · cases h
    · cases h
theorem mulOk_C {i j : Int} (h : mulOk i j = true) : CMul i j := by
  unfold mulOk at h
  rw [Bool.or_eq_true, decide_eq_true_eq, decide_eq_true_eq] at h
  rcases h with h | h
  · exact .inl ⟨by omega, by omega⟩
  · exact .inr ⟨by omega, by omega⟩
theorem ve_mul (ha : PE X a (TB F fa)) (hb : PE X b (TB F fb)) : PE X (.BinOp a .Mult b pos) (T F (v2 (pureK2 D.mul) fa fb)) :=
  ve_op2 (pe_op (op_mul.or op_rep) ha hb) fun C ρ g σ H x y v u d Q x1 hx hy op st => by
    unfold D.mul at op
    split at op
    · split at op
      · rename_i hc
        cases op
        exact .inl ⟨_, _, hx, hy, mulOk_C hc, st.here x1 rfl⟩
      · cases op
    · rename_i xs k
      split at op
      · rename_i hc
        cases op
        obtain ⟨a1, n1, q1, _, e1, _, z1⟩ := hx
        subst q1
        rw [z1.length] at hc
        refine .inr ⟨a1, k, n1, rfl, hy, e1, by have := hc.2.1; omega, by have := hc.1; omega, hc.2.2, fun p hp => st.new x1 hp ⟨p, _, rfl, x1.nso hp, upd_same, ?_, (rps_rep z1 _).agr (agr_new hp)⟩⟩
        rw [List.length_flatten, List.map_replicate, List.sum_replicate_nat, Nat.mul_comm]
        exact hc.2.2
      · cases op
    · cases op
/-- -a -/
def D.neg : D → Option D
  | .int i => some (.int (-i))
  | _ => none
theorem ve_op1 {r : V → Hp → VK → Prop} {op : D → Option D} (mk : PE X e (tUn r (TB F fa)))
    (hr : ∀ C ρ g σ H x v d Q, R F C ρ g σ H → RB F H (SO C ρ σ) x v → op x = some d → StepE F (fun H1 d v => F.rp H1 (SO C ρ σ) d v) C ρ σ H (.ok (d, g)) Q → r v H Q) :
    PE X e (T F (v1 (pureK1 op) fa)) := mk.imp fun σ H Q ⟨C, ρ, g, x, h⟩ => by
  refine one_tb x h fun x g v H1 e1 x1 w1 st => ?_
  unfold pureK1 at st
  cases q : op x with
  | none => rw [q] at st; exact st.elim
  | some d => rw [q] at st; exact hr C ρ g σ H1 x v d Q x1 w1 q st
theorem ve_neg (ha : PE X a (TB F fa)) : PE X (.UnaryOp .USub a pos) (T F (v1 (pureK1 D.neg) fa)) :=
  ve_op1 (pe_un un_neg ha) fun C ρ g σ H x v d Q x1 hx op st => by
    unfold D.neg at op
    split at op
    · cases op
      exact ⟨_, hx, st.here x1 rfl⟩
    · cases op
/-! ### comparisons -/
/-- a comparison, as a value and as a test -/
structure PV (X : Cx) (e : Expr) (t : TE) : Prop where
  pe : PE X e t
  pt : PT X e (tTest t)
theorem PV.imp {t t' : TE} (h : PV X e t) (k : ∀ σ H Q, t' σ H Q → t σ H Q) : PV X e t' := ⟨h.pe.imp k, h.pt.imp fun σ H Q => k σ H _⟩
theorem pv_cmpR {op : CmpOp} {r : R2} {ta tb : TE} (ho : OpR X (compareOp op) r) (ha : PE X a ta) (hb : PE X b tb) (hm : behindInMarks op b = false) : PV X (.Compare a [op] [b] pos) (tOp r ta tb) := ⟨pe_cmpR ho ha hb hm, pt_cmpR ho ha hb hm⟩
theorem cv_op2 {r : R2} {op : D → D → Option D} (mk : PV X e (tOp r (TB F fa) (TB F fb)))
    (hr : ∀ C ρ g σ H x y v u d Q, R F C ρ g σ H → RB F H (SO C ρ σ) x v → RB F H (SO C ρ σ) y u → op x y = some d → StepE F (fun H1 d v => F.rp H1 (SO C ρ σ) d v) C ρ σ H (.ok (d, g)) Q → r v u H Q) :
    PV X e (T F (v2 (pureK2 op) fa fb)) := mk.imp fun σ H Q ⟨C, ρ, g, x, h⟩ => by
  refine two_tb x h fun x y g v u H1 e1 x1 w1 w2 st => ?_
  unfold pureK2 at st
  cases q : op x y with
  | none => rw [q] at st; exact st.elim
  | some d => rw [q] at st; exact hr C ρ g σ H1 x y v u d Q x1 w1 w2 q st
def D.cmpI (f : Int → Int → Bool) : D → D → Option D
  | .int i, .int j => some (.bl (f i j))
  | _, _ => none
def D.bOf : Option Bool → Option D
  | some b => some (.bl b)
  | none => none
def D.eqD (x y : D) : Option D := D.bOf (D.eq x y)
def D.neD (x y : D) : Option D := D.bOf ((D.eq x y).map (!·))
def D.isD (x y : D) : Option D := D.bOf (D.isB x y)
def D.isNotD (x y : D) : Option D := D.bOf ((D.isB x y).map (!·))
theorem cv_cmpI {op : CmpOp} {f : Int → Int → Bool} (ho : OpR X (compareOp op) (rI0 fun i j => .bl (f i j))) (hm : behindInMarks op b = false) (ha : PE X a (TB F fa)) (hb : PE X b (TB F fb)) : PV X (.Compare a [op] [b] pos) (T F (v2 (pureK2 (D.cmpI f)) fa fb)) :=
  cv_op2 (pv_cmpR ho ha hb hm) fun C ρ g σ H x y v u d Q x1 hx hy op st => by
    unfold D.cmpI at op
    split at op
    · cases op
      exact ⟨_, _, hx, hy, st.here x1 rfl⟩
    · cases op
abbrev D.ltD := D.cmpI fun i j => decide (i < j)
abbrev D.leD := D.cmpI fun i j => decide (i ≤ j)
abbrev D.gtD := D.cmpI fun i j => decide (j < i)
abbrev D.geD := D.cmpI fun i j => decide (j ≤ i)
theorem eqS_ok {x y : D} {k : Bool} {H : Hp} {S : Addr → Prop} {v u : V} (h : D.eqS x y = some k) (hx : RB F H S x v) (hy : RB F H S y u) : scal v u = true ∧ k = decide (v = u) := by
  unfold D.eqS at h
  split at h
  all_goals
    cases h
  all_goals
    first | (have e1 := rb_int hx; subst e1) | (have e1 := rb_str hx; subst e1) | (have e1 := rb_bl hx; subst e1) | (have e1 := rb_non hx; subst e1)
    first | (have e2 := rb_int hy; subst e2) | (have e2 := rb_str hy; subst e2) | (have e2 := rb_bl hy; subst e2) | (have e2 := rb_non hy; subst e2)
    first | exact ⟨rfl, dec_int.symm⟩ | exact ⟨rfl, dec_str.symm⟩ | exact ⟨rfl, dec_bl.symm⟩ | exact ⟨rfl, by simp⟩
theorem eq_scal {x y : D} {k : Bool} {H : Hp} {S : Addr → Prop} {v u : V} (h : D.eq x y = some k) (hx : RB F H S x v) (hy : RB F H S y u) :
    (scal v u = true ∧ k = decide (v = u)) ∨ (Dp F.K H v x.py ∧ Dp F.K H u y.py ∧ SeqAt.shaped x.py = true ∧ SeqAt.shaped y.py = true ∧ k = PyData.eqv x.py y.py) := by
  unfold D.eq at h
  cases q : D.eqS x y with
  | some b =>
    rw [q] at h
    cases h
    exact .inl (eqS_ok q hx hy)
  | none =>
    rw [q] at h
    cases hc : (x.dat 60 && y.dat 60) with
    | false => rw [hc] at h; cases h
    | true =>
      rw [hc] at h
      rw [Bool.and_eq_true] at hc
      cases h
      exact .inr ⟨rb_dp hc.1 hx, rb_dp hc.2 hy, dat_shaped hc.1, dat_shaped hc.2, (eqv_py _ _ ⟨_, hc.1⟩ ⟨_, hc.2⟩).symm⟩
theorem rb_isNon {x : D} {H : Hp} {S : Addr → Prop} {v : V} (hx : RB F H S x v) : x.isNon = decide (v = .non) := by
  cases x with
  | non => rw [show v = .non from hx]; rfl
  | bl b => rw [show v = .bl b from hx]; rfl
  | int b => rw [show v = .int b from hx]; rfl
  | str b => rw [show v = .str b from hx]; rfl
  | tup b => obtain ⟨a, _, e, _⟩ := hx; rw [e]; rfl
  | lst b => obtain ⟨a, _, e, _⟩ := hx; rw [e]; rfl
  | dk b => obtain ⟨a, _, e, _⟩ := hx; rw [e]; rfl
  | dt b => obtain ⟨a, _, e, _⟩ := hx; rw [e]; rfl
  | ins b c => obtain ⟨a, _, _, _, e, _⟩ := hx; rw [e]; rfl
  | fn b => obtain ⟨a, e, _⟩ := hx; rw [e]; rfl
  | row => rw [show v = .ref _ from hx]; rfl
theorem cv_eq (hK : X.K = F.K) (hu : X.A.units + 64 < cLine) (ha : PE X a (TB F fa)) (hb : PE X b (TB F fb)) : PV X (.Compare a [.Eq] [b] pos) (T F (v2 (pureK2 D.eqD) fa fb)) :=
  cv_op2 (pv_cmpR (op_eq.or (op_eqD hu)) ha hb (nomark _)) fun C ρ g σ H x y v u d Q x1 hx hy op st => by
    unfold D.eqD at op
    cases q : D.eq x y with
    | none => rw [q] at op; cases op
    | some k =>
      rw [q] at op
      cases op
      rw [hK]
      rcases eq_scal q hx hy with ⟨h1, h2⟩ | ⟨h1, h2, h3, h4, h5⟩
      · exact .inl ⟨h1, by rw [← h2]; exact st.here x1 rfl⟩
      · exact .inr ⟨_, _, h1, h2, h3, h4, by rw [← h5]; exact st.here x1 rfl⟩
theorem cv_ne (hK : X.K = F.K) (hu : X.A.units + 64 < cLine) (ha : PE X a (TB F fa)) (hb : PE X b (TB F fb)) : PV X (.Compare a [.NotEq] [b] pos) (T F (v2 (pureK2 D.neD) fa fb)) :=
  cv_op2 (pv_cmpR (op_ne.or (op_neD hu)) ha hb (nomark _)) fun C ρ g σ H x y v u d Q x1 hx hy op st => by
    unfold D.neD at op
    cases q : D.eq x y with
    | none => rw [q] at op; cases op
    | some k =>
      rw [q] at op
      cases op
      rw [hK]
      rcases eq_scal q hx hy with ⟨h1, h2⟩ | ⟨h1, h2, h3, h4, h5⟩
      · exact .inl ⟨h1, by rw [← h2]; exact st.here x1 rfl⟩
      · exact .inr ⟨_, _, h1, h2, h3, h4, by rw [← h5]; exact st.here x1 rfl⟩
theorem isB_iff {x y : D} {k : Bool} {H : Hp} {S : Addr → Prop} {v u : V} (h : D.isB x y = some k) (hx : RB F H S x v) (hy : RB F H S y u) :
    (u = .non ∧ k = decide (v = .non)) ∨ ∃ a b, v = .bl a ∧ u = .bl b ∧ k = decide (a = b) := by
  unfold D.isB at h
  split at h
  · cases h
    exact .inl ⟨hy, rb_isNon hx⟩
  · split at h
    · cases h
      exact .inr ⟨_, _, hx, hy, rfl⟩
    · cases h
  · cases h
theorem cv_is (ha : PE X a (TB F fa)) (hb : PE X b (TB F fb)) : PV X (.Compare a [.Is] [b] pos) (T F (v2 (pureK2 D.isD) fa fb)) :=
  cv_op2 (pv_cmpR (op_isN.or op_isBl) ha hb (nomark _)) fun C ρ g σ H x y v u d Q x1 hx hy op st => by
    unfold D.isD at op
    cases q : D.isB x y with
    | none => rw [q] at op; cases op
    | some k =>
      rw [q] at op
      cases op
      rcases isB_iff q hx hy with ⟨h1, h2⟩ | ⟨a, b, h1, h2, h3⟩
      · exact .inl ⟨h1, by rw [← h2]; exact st.here x1 rfl⟩
      · exact .inr ⟨a, b, h1, h2, by rw [← h3]; exact st.here x1 rfl⟩
theorem cv_isnot (ha : PE X a (TB F fa)) (hb : PE X b (TB F fb)) : PV X (.Compare a [.IsNot] [b] pos) (T F (v2 (pureK2 D.isNotD) fa fb)) :=
  cv_op2 (pv_cmpR (op_notN.or op_notBl) ha hb (nomark _)) fun C ρ g σ H x y v u d Q x1 hx hy op st => by
    unfold D.isNotD at op
    cases q : D.isB x y with
    | none => rw [q] at op; cases op
    | some k =>
      rw [q] at op
      cases op
      rcases isB_iff q hx hy with ⟨h1, h2⟩ | ⟨a, b, h1, h2, h3⟩
      · exact .inl ⟨h1, by rw [← h2]; exact st.here x1 rfl⟩
      · exact .inr ⟨a, b, h1, h2, by rw [← h3]; exact st.here x1 rfl⟩
end
end RP
end L2
set_option Elab.async false
set_option linter.all false
set_option maxRecDepth 100000
/-! R5: truth, tests, and, or, not, chains, conditional expressions. -/
namespace L2
namespace RP
open PySem PySem.Spec PyProof.Rows

def D.truth : D → Option Bool
  | .non => some false
  | .bl b => some b
  | .int i => some (i != 0)
  | .str s => if s.length ≤ sizeLine then some ((s.length : Int) != 0) else none
  | .tup xs => some (!xs.isEmpty)
  | .lst xs => some (!xs.isEmpty)
  | _ => none
def D.notD (x : D) : Option D := x.truth.map fun b => .bl (!b)
/-- e as a test computes f, its answer the value's truth -/
def TQ (F : Fx) (f : SE) : TT := fun σ H Q => ∃ C ρ g, R F C ρ g σ H ∧ match f ρ g with
  | .ok (d, g1) => ∃ b, d.truth = some b ∧ ∀ H1, Ext F.r H H1 → R F C ρ g1 σ H1 → Q b H1
  | .exc c d g1 => ExcEnd F C c d g1
  | .bad => False
def BlOnly (f : SE) : Prop := ∀ ρ g d g1, f ρ g = .ok (d, g1) → ∃ b, d = .bl b
section
variable {X : Cx} {F : Fx} {e a b : Expr} {fa fb f fc : SE} {pos : Pos} {rest : List Expr}
theorem truth_rb {C : Ctx} {ρ : En} {σ : St} {H : Hp} {d : D} {v : V} {k : Bool} (h : d.truth = some k) (w : RB F H (SO C ρ σ) d v) : TruV F.K v H k := by
  cases d with
  | non => cases h; rw [show v = .non from w]; rfl
  | bl b => cases h; rw [show v = .bl _ from w]; rfl
  | int i => cases h; rw [show v = .int _ from w]; rfl
  | str s =>
    unfold D.truth at h
    simp only at h
    split at h
    · cases h; rw [show v = .str _ from w]; exact ⟨‹_›, rfl⟩
    · cases h
  | tup xs =>
    cases h
    obtain ⟨a, vs, e, _, q, z, k⟩ := w
    rw [e]
    refine .inr (.inl ⟨vs, SqT.of q, ?_⟩)
    have := k.length
    cases xs <;> cases vs <;> simp_all
  | lst xs =>
    cases h
    obtain ⟨a, vs, e, _, q, z, k⟩ := w
    rw [e]
    refine .inl ⟨vs, SqL.of q, ?_⟩
    have := k.length
    cases xs <;> cases vs <;> simp_all
  | _ => cases h
theorem rp_rb {C : Ctx} {ρ : En} {σ : St} {g : G} {H : Hp} {d : D} {v : V} (x : R F C ρ g σ H) (w : F.rp H (SO C ρ σ) d v) : RB F H (SO C ρ σ) d v := RB.of x.so w
/-- a comparison as a test -/
theorem PV.tq (h : PV X e (T F f)) (hb : BlOnly f) : PT X e (TQ F f) := h.pt.imp fun σ H Q ⟨C, ρ, g, x, h⟩ => by
  refine ⟨C, ρ, g, x, ?_⟩
  cases q : f ρ g with
  | bad => rw [q] at h; exact h
  | exc c d g => rw [q] at h; exact h
  | ok p =>
    rw [q] at h
    obtain ⟨d, g1⟩ := p
    obtain ⟨b, rfl⟩ := hb _ _ _ _ q
    obtain ⟨b', e, h⟩ := h
    cases e
    intro v H1 e1 x1 w
    exact ⟨b, w, h H1 e1 x1⟩
/-- any other expression as a test -/
theorem _root_.L2.PE.tq (hK : X.K = F.K) (h : PE X e (TB F f)) (he : ∀ whole, isTrue e X.env whole = (do let v ← whole; standAt e.pos; holding [v] (truthy v)) := by intro _; rfl) : PT X e (TQ F f) := (pt_truth h he).imp fun σ H Q ⟨C, ρ, g, x, h⟩ => by
  refine ⟨C, ρ, g, x, ?_⟩
  cases q : f ρ g with
  | bad => rw [q] at h; exact h
  | exc c d g => rw [q] at h; exact h
  | ok p =>
    rw [q] at h
    obtain ⟨b, e, h⟩ := h
    intro v H1 e1 x1 w
    exact ⟨b, by rw [hK]; exact truth_rb e w, h H1 e1 x1⟩
/-! ### not -/
def vNot (fa : SE) : SE := v1 (pureK1 D.notD) fa
theorem tq_not (ha : PT X a (TQ F fa)) : PT X (.UnaryOp .Not a pos) (TQ F (vNot fa)) := (pt_not ha).imp fun σ H Q ⟨C, ρ, g, x, h⟩ => by
  refine ⟨C, ρ, g, x, ?_⟩
  unfold vNot v1 at h
  cases q : fa ρ g with
  | bad => rw [q] at h; exact h
  | exc c d g => rw [q] at h; exact h
  | ok p =>
    rw [q] at h
    simp only [Res.bind_ok] at h
    unfold pureK1 D.notD at h
    cases q2 : p.1.truth with
    | none => rw [q2] at h; exact h.elim
    | some b =>
      rw [q2] at h
      obtain ⟨b', e, h⟩ := h
      cases e
      exact ⟨b, q2, h⟩
theorem ve_not (hK : X.K = F.K) (ha : PE X a (TB F fa)) : PE X (.UnaryOp .Not a pos) (T F (vNot fa)) := (pe_notT ha).imp fun σ H Q ⟨C, ρ, g, x, h⟩ => by
  refine one_tb x h fun d g v H1 e1 x1 w1 st => ?_
  unfold pureK1 D.notD at st
  cases q2 : d.truth with
  | none => rw [q2] at st; exact st.elim
  | some b =>
    rw [q2] at st
    exact ⟨b, by rw [hK]; exact truth_rb q2 w1, st.here x1 rfl⟩
/-! ### and, or -/
def vAnd (fa fb : SE) : SE := fun ρ g => (fa ρ g).bind fun p => match p.1.truth with
  | some true => fb ρ p.2
  | some false => .ok p
  | none => .bad
def vOr (fa fb : SE) : SE := fun ρ g => (fa ρ g).bind fun p => match p.1.truth with
  | some false => fb ρ p.2
  | some true => .ok p
  | none => .bad
/-- a test whatever its whole is -/
structure PWQ (X : Cx) (F : Fx) (e : Expr) (f : SE) : Prop where
  pw : PW X e (TQ F f)
theorem _root_.L2.PW.imp {t t' : TT} (h : PW X e t) (k : ∀ σ H Q, t' σ H Q → t σ H Q) : PW X e t' := ⟨fun wh pins s σ H Q I q => h.run wh pins s σ H Q I (k σ H Q q)⟩
theorem TQ.mono {f : SE} {σ : St} {H : Hp} {Q Q' : Bool → Hp → Prop} (h : TQ F f σ H Q) (k : ∀ b H1, Q b H1 → Q' b H1) : TQ F f σ H Q' := by
  obtain ⟨C, ρ, g, x, h⟩ := h
  refine ⟨C, ρ, g, x, ?_⟩
  cases q : f ρ g with
  | bad => rw [q] at h; exact h
  | exc c d g => rw [q] at h; exact h
  | ok p =>
    rw [q] at h
    obtain ⟨b, e, h⟩ := h
    exact ⟨b, e, fun H1 e1 x1 => k _ _ (h H1 e1 x1)⟩
theorem wq_and1 (ha : PT X a (TQ F fa)) : PWQ X F (.BoolOp .And [a] pos) fa := ⟨pw_and1 ha⟩
theorem wq_or1 (ha : PT X a (TQ F fa)) : PWQ X F (.BoolOp .Or [a] pos) fa := ⟨pw_or1 ha⟩
theorem wq_and (ha : PT X a (TQ F fa)) (hb : PWQ X F (.BoolOp .And (b :: rest) pos) fb) : PWQ X F (.BoolOp .And (a :: b :: rest) pos) (vAnd fa fb) := ⟨(pw_and ha hb.pw).imp fun σ H Q ⟨C, ρ, g, x, h⟩ => by
  refine ⟨C, ρ, g, x, ?_⟩
  unfold vAnd at h
  cases q : fa ρ g with
  | bad => rw [q] at h; exact h
  | exc c d g => rw [q] at h; exact h
  | ok p =>
    rw [q] at h
    simp only [Res.bind_ok] at h
    cases q2 : p.1.truth with
    | none => rw [q2] at h; exact h.elim
    | some k =>
      rw [q2] at h
      refine ⟨k, q2, fun H1 e1 x1 => ?_⟩
      cases k with
      | false =>
        obtain ⟨b', e, h⟩ := h
        rw [q2] at e
        cases e
        exact h H1 e1 x1
      | true =>
        refine ⟨C, ρ, p.2, x1, ?_⟩
        cases q3 : fb ρ p.2 with
        | bad => rw [q3] at h; exact h
        | exc c d g => rw [q3] at h; exact h
        | ok p3 =>
          rw [q3] at h
          obtain ⟨b', e, h⟩ := h
          exact ⟨b', e, fun H2 e2 x2 => h H2 (e1.trans e2) x2⟩⟩
theorem wq_or (ha : PT X a (TQ F fa)) (hb : PWQ X F (.BoolOp .Or (b :: rest) pos) fb) : PWQ X F (.BoolOp .Or (a :: b :: rest) pos) (vOr fa fb) := ⟨(pw_or ha hb.pw).imp fun σ H Q ⟨C, ρ, g, x, h⟩ => by
  refine ⟨C, ρ, g, x, ?_⟩
  unfold vOr at h
  cases q : fa ρ g with
  | bad => rw [q] at h; exact h
  | exc c d g => rw [q] at h; exact h
  | ok p =>
    rw [q] at h
    simp only [Res.bind_ok] at h
    cases q2 : p.1.truth with
    | none => rw [q2] at h; exact h.elim
    | some k =>
      rw [q2] at h
      refine ⟨k, q2, fun H1 e1 x1 => ?_⟩
      cases k with
      | true =>
        obtain ⟨b', e, h⟩ := h
        rw [q2] at e
        cases e
        exact h H1 e1 x1
      | false =>
        refine ⟨C, ρ, p.2, x1, ?_⟩
        cases q3 : fb ρ p.2 with
        | bad => rw [q3] at h; exact h
        | exc c d g => rw [q3] at h; exact h
        | ok p3 =>
          rw [q3] at h
          obtain ⟨b', e, h⟩ := h
          exact ⟨b', e, fun H2 e2 x2 => h H2 (e1.trans e2) x2⟩⟩
theorem PWQ.tq (h : PWQ X F e f) : PT X e (TQ F f) := h.pw.pt
theorem ve_one {op} (h : PE X a (T F fa)) : PE X (.BoolOp op [a] pos) (T F fa) := pe_one h
theorem ve_and (hK : X.K = F.K) (ha : PE X a (T F fa)) (hb : PE X (.BoolOp .And (b :: rest) pos) (T F fb)) : PE X (.BoolOp .And (a :: b :: rest) pos) (T F (vAnd fa fb)) := (pe_andT ha hb).imp fun σ H Q ⟨C, ρ, g, x, h⟩ => by
  refine ⟨C, ρ, g, x, ?_⟩
  unfold vAnd at h
  cases q : fa ρ g with
  | bad => rw [q] at h; exact h
  | exc c d g => rw [q] at h; exact h
  | ok p =>
    rw [q] at h
    simp only [Res.bind_ok] at h
    intro v H1 e1 x1 w1
    cases q2 : p.1.truth with
    | none => rw [q2] at h; exact h.elim
    | some k =>
      rw [q2] at h
      refine ⟨k, by rw [hK]; exact truth_rb q2 (rp_rb x1 w1), ?_⟩
      cases k with
      | false => exact h v H1 e1 x1 w1
      | true => exact ⟨C, ρ, p.2, x1, StepE.ext h e1⟩
theorem ve_or (hK : X.K = F.K) (ha : PE X a (T F fa)) (hb : PE X (.BoolOp .Or (b :: rest) pos) (T F fb)) : PE X (.BoolOp .Or (a :: b :: rest) pos) (T F (vOr fa fb)) := (pe_orT ha hb).imp fun σ H Q ⟨C, ρ, g, x, h⟩ => by
  refine ⟨C, ρ, g, x, ?_⟩
  unfold vOr at h
  cases q : fa ρ g with
  | bad => rw [q] at h; exact h
  | exc c d g => rw [q] at h; exact h
  | ok p =>
    rw [q] at h
    simp only [Res.bind_ok] at h
    intro v H1 e1 x1 w1
    cases q2 : p.1.truth with
    | none => rw [q2] at h; exact h.elim
    | some k =>
      rw [q2] at h
      refine ⟨k, by rw [hK]; exact truth_rb q2 (rp_rb x1 w1), ?_⟩
      cases k with
      | true => exact h v H1 e1 x1 w1
      | false => exact ⟨C, ρ, p.2, x1, StepE.ext h e1⟩
/-- a if c else b -/
def vIf (fc fa fb : SE) : SE := fun ρ g => (fc ρ g).bind fun p => match p.1.truth with
  | some true => fa ρ p.2
  | some false => fb ρ p.2
  | none => .bad
theorem ve_if {c : Expr} (hc : PT X c (TQ F fc)) (ha : PE X a (T F fa)) (hb : PE X b (T F fb)) : PE X (.IfExp c a b pos) (T F (vIf fc fa fb)) := (pe_ifExp hc ha hb).imp fun σ H Q ⟨C, ρ, g, x, h⟩ => by
  refine ⟨C, ρ, g, x, ?_⟩
  unfold vIf at h
  cases q : fc ρ g with
  | bad => rw [q] at h; exact h
  | exc c d g => rw [q] at h; exact h
  | ok p =>
    rw [q] at h
    simp only [Res.bind_ok] at h
    cases q2 : p.1.truth with
    | none => rw [q2] at h; exact h.elim
    | some k =>
      rw [q2] at h
      refine ⟨k, q2, fun H1 e1 x1 => ?_⟩
      cases k with
      | true => exact ⟨C, ρ, p.2, x1, StepE.ext h e1⟩
      | false => exact ⟨C, ρ, p.2, x1, StepE.ext h e1⟩
/-! ### a op b op' c of ints -/
def vChain (f1 f2 : Int → Int → Bool) (fa fb fc : SE) : SE := fun ρ g => (fa ρ g).bind fun p => (fb ρ p.2).bind fun q => match p.1, q.1 with
  | .int i, .int j => if f1 i j = true then (fc ρ q.2).bind fun r => (match r.1 with
      | .int k => .ok (.bl (f2 j k), r.2)
      | _ => .bad) else .ok (.bl false, q.2)
  | _, _ => .bad
theorem chain_core {f1 f2 : Int → Int → Bool} (σ : St) (H : Hp) (Q : VK) (h : T F (vChain f1 f2 fa fb fc) σ H Q) : tChain (rI0 fun i j => .bl (f1 i j)) (rI0 fun i j => .bl (f2 i j)) (TB F fa) (TB F fb) (TB F fc) σ H Q := by
  obtain ⟨C, ρ, g, x, h⟩ := h
  have h2 : StepE F (fun H1 d v => F.rp H1 (SO C ρ σ) d v) C ρ σ H (v2 (fun x y g => match x, y with
    | .int i, .int j => if f1 i j = true then (fc ρ g).bind fun r => (match r.1 with
      | .int k => .ok (.bl (f2 j k), r.2)
      | _ => .bad) else .ok (.bl false, g)
    | _, _ => .bad) fa fb ρ g) Q := h
  refine two_tb x h2 fun d e g v u H1 e1 x1 w1 w2 st => ?_
  split at st
  · rename_i i j
    refine ⟨i, j, w1, w2, f1 i j, rfl, ?_⟩
    cases q : f1 i j with
    | false =>
      rw [q] at st
      exact (show Q (.bl false) H1 from StepE.here (show StepE F _ C ρ σ H1 (.ok (.bl false, g)) Q from st) x1 rfl)
    | true =>
      rw [q] at st
      refine ⟨C, ρ, g, x1, ?_⟩
      simp only [if_true] at st
      cases q3 : fc ρ g with
      | bad => rw [q3] at st; exact st
      | exc c d g => rw [q3] at st; exact st
      | ok r =>
        rw [q3] at st
        simp only [Res.bind_ok] at st
        intro w H2 e2 x2 w3
        split at st
        · rename_i hk
          rw [hk] at w3
          exact ⟨j, _, w2, w3, st (.bl _) H2 e2 x2 rfl⟩
        · exact st.elim
  · exact st.elim
theorem cv_chain {op op' : CmpOp} {c : Expr} {f1 f2 : Int → Int → Bool} (ho : OpR X (compareOp op) (rI0 fun i j => .bl (f1 i j))) (ho' : OpR X (compareOp op') (rI0 fun i j => .bl (f2 i j))) (ha : PE X a (TB F fa)) (hb : PE X b (TB F fb)) (hc : PE X c (TB F fc))
    (hm : lastMarks [op, op'] [b, c] = false := by with_unfolding_all rfl) : PV X (.Compare a [op, op'] [b, c] pos) (T F (vChain f1 f2 fa fb fc)) :=
  ⟨(pe_chain ho ho' ha hb hc hm).imp chain_core, (pt_chain ho ho' ha hb hc hm).imp fun σ H Q h => chain_core σ H _ h⟩
theorem bl_cmp {k : D → D → Option D} (hk : ∀ x y d, k x y = some d → ∃ b, d = .bl b) : BlOnly (v2 (pureK2 k) fa fb) := fun ρ g d g1 h => by
  unfold v2 at h
  cases q : fa ρ g with
  | bad => rw [q] at h; cases h
  | exc c d g => rw [q] at h; cases h
  | ok p =>
    rw [q] at h
    simp only [Res.bind_ok] at h
    cases q2 : fb ρ p.2 with
    | bad => rw [q2] at h; cases h
    | exc c d g => rw [q2] at h; cases h
    | ok p2 =>
      rw [q2] at h
      simp only [Res.bind_ok] at h
      unfold pureK2 at h
      cases q3 : k p.1 p2.1 with
      | none => rw [q3] at h; cases h
      | some d' => rw [q3] at h; cases h; exact hk _ _ _ q3
theorem bOf_bl {o : Option Bool} {d : D} (h : D.bOf o = some d) : ∃ b, d = .bl b := by
  cases o with
  | none => cases h
  | some b => cases h; exact ⟨b, rfl⟩
theorem bl_cmpI {f : Int → Int → Bool} : BlOnly (v2 (pureK2 (D.cmpI f)) fa fb) := bl_cmp fun x y d h => by
  unfold D.cmpI at h
  split at h
  · cases h; exact ⟨_, rfl⟩
  · cases h
theorem bl_eq : BlOnly (v2 (pureK2 D.eqD) fa fb) := bl_cmp fun _ _ _ h => bOf_bl h
theorem bl_ne : BlOnly (v2 (pureK2 D.neD) fa fb) := bl_cmp fun _ _ _ h => bOf_bl h
theorem bl_is : BlOnly (v2 (pureK2 D.isD) fa fb) := bl_cmp fun _ _ _ h => bOf_bl h
theorem bl_isnot : BlOnly (v2 (pureK2 D.isNotD) fa fb) := bl_cmp fun _ _ _ h => bOf_bl h
theorem bl_chain {f1 f2 : Int → Int → Bool} : BlOnly (vChain f1 f2 fa fb fc) := fun ρ g d g1 h => by
  unfold vChain at h
  cases q : fa ρ g with
  | bad => rw [q] at h; cases h
  | exc c d g => rw [q] at h; cases h
  | ok p =>
    rw [q] at h
    simp only [Res.bind_ok] at h
    cases q2 : fb ρ p.2 with
    | bad => rw [q2] at h; cases h
    | exc c d g => rw [q2] at h; cases h
    | ok p2 =>
      rw [q2] at h
      simp only [Res.bind_ok] at h
      split at h
      · split at h
        · cases q3 : fc ρ p2.2 with
          | bad => rw [q3] at h; cases h
          | exc c d g => rw [q3] at h; cases h
          | ok r =>
            rw [q3] at h
            simp only [Res.bind_ok] at h
            split at h
            · cases h; exact ⟨_, rfl⟩
            · cases h
        · cases h; exact ⟨_, rfl⟩
      · cases h
end
end RP
end L2
set_option Elab.async false
set_option linter.all false
set_option maxRecDepth 100000
/-! R6: arguments, displays, built-in functions, fields, subscripts. -/
namespace L2
namespace RP
open PySem PySem.Spec PyProof.Rows

/-- what a context gives -/
structure XF (X : Cx) (F : Fx) : Prop where
  K : X.K = F.K
  mg : X.mg = F.mg
  calm : X.calm = true
  u : X.A.units + 100 < cLine
  tk : Takes X (fun cls d _ H => F.E cls d H)
  po : PassesOwn (model X.prog X.w) X.A X.env X.xe
  N : X.N.Nodup
  len : F.mg "len" = none
  abs : F.mg "abs" = none
  all : F.mg "all" = none
  any : F.mg "any" = none
  bool : F.mg "bool" = none
  dict : F.mg "dict" = none
  enumerate : F.mg "enumerate" = none
  int : F.mg "int" = none
  isinstance : F.mg "isinstance" = none
  list : F.mg "list" = none
  max : F.mg "max" = none
  min : F.mg "min" = none
  range : F.mg "range" = none
  repr : F.mg "repr" = none
  set : F.mg "set" = none
  sorted : F.mg "sorted" = none
  str : F.mg "str" = none
  sum : F.mg "sum" = none
  tuple : F.mg "tuple" = none
  zip : F.mg "zip" = none

/-! ### arguments -/
def TAs (F : Fx) (f : SEs) : TA := fun σ H Q => ∃ C ρ g, R F C ρ g σ H ∧ match f ρ g with
  | .ok (ds, g1) => ∀ vs H1, Ext F.r H H1 → R F C ρ g1 σ H1 → F.rps H1 (SO C ρ σ) ds vs → Q vs H1
  | .exc c d g1 => ExcEnd F C c d g1
  | .bad => False
def aNil : SEs := fun _ g => .ok ([], g)
def aCons (fa : SE) (fr : SEs) : SEs := fun ρ g => (fa ρ g).bind fun p => (fr ρ p.2).bind fun q => .ok (p.1 :: q.1, q.2)
section
variable {X : Cx} {F : Fx} {e a b : Expr} {es : List Expr} {fa fb f fc : SE} {fr : SEs} {pos p : Pos}
theorem aa_nil : PA X [] (TAs F aNil) := pa_nil.imp fun σ H Q ⟨C, ρ, g, x, h⟩ => h [] H .refl x rfl
theorem aa_cons (ha : PE X e (T F fa)) (hr : PA X es (TAs F fr)) (hs : starEach (e :: es) X.env = (false, eval e X.env) :: starEach es X.env := by rfl) : PA X (e :: es) (TAs F (aCons fa fr)) := (pa_cons ha hr hs).imp fun σ H Q ⟨C, ρ, g, x, h⟩ => by
  refine ⟨C, ρ, g, x, ?_⟩
  unfold aCons at h
  cases q : fa ρ g with
  | bad => rw [q] at h; exact h
  | exc c d g => rw [q] at h; exact h
  | ok p =>
    rw [q] at h
    simp only [Res.bind_ok] at h
    intro v H1 e1 x1 w1
    refine ⟨C, ρ, p.2, x1, ?_⟩
    cases q2 : fr ρ p.2 with
    | bad => rw [q2] at h; exact h
    | exc c d g => rw [q2] at h; exact h
    | ok p2 =>
      rw [q2] at h
      intro vs H2 e2 x2 w2
      exact h (v :: vs) H2 (e1.trans e2) x2 ⟨v, vs, rfl, w1.agr (e2.agr x.so), w2⟩
/-! ### displays -/
def vTup (fs : SEs) : SE := fun ρ g => (fs ρ g).bind fun p => if p.1.length ≤ sizeLine then .ok (.tup p.1, p.2) else .bad
def vLst (fs : SEs) : SE := fun ρ g => (fs ρ g).bind fun p => if p.1.length ≤ sizeLine then .ok (.lst p.1, p.2) else .bad
theorem ve_tup {k} (h : PA X es (TAs F fr)) : PE X (.Tuple es k pos) (T F (vTup fr)) := (pe_tup h).imp fun σ H Q ⟨C, ρ, g, x, h⟩ => by
  refine ⟨C, ρ, g, x, ?_⟩
  unfold vTup at h
  cases q : fr ρ g with
  | bad => rw [q] at h; exact h
  | exc c d g => rw [q] at h; exact h
  | ok p =>
    rw [q] at h
    simp only [Res.bind_ok] at h
    intro vs H1 e1 x1 w1
    split at h
    · rename_i hl
      rw [w1.length] at hl
      exact ⟨hl, fun p hp => StepE.new (StepE.ext h e1) x1 hp ⟨p, vs, rfl, x1.nso hp, upd_same, hl, w1.agr (agr_new hp)⟩⟩
    · exact h.elim
theorem vo_lst (h : PA X es (TAs F fr)) : PE X (.List es pos) (TO F (vLst fr)) := (pe_lst h).imp fun σ H Q ⟨C, ρ, g, x, h⟩ => by
  refine ⟨C, ρ, g, x, ?_⟩
  unfold vLst at h
  cases q : fr ρ g with
  | bad => rw [q] at h; exact h
  | exc c d g => rw [q] at h; exact h
  | ok p =>
    rw [q] at h
    simp only [Res.bind_ok] at h
    intro vs H1 e1 x1 w1
    split at h
    · rename_i hl
      rw [w1.length] at hl
      refine ⟨hl, fun p hp => StepE.new (StepE.ext h e1) x1 hp ⟨p, rfl, e1.free hp, vs, upd_same, hl, w1.more hp⟩⟩
    · exact h.elim
/-! ### built-in functions of one thing -/
/-- the core: a rule on the value that is looked at -/
theorem core_b1 {r : List V → Hp → VK → Prop} {op : D → Option D}
    (hr : ∀ C ρ g σ H x v d Q, R F C ρ g σ H → RB F H (SO C ρ σ) x v → op x = some d → StepE F (fun H1 d v => F.rp H1 (SO C ρ σ) d v) C ρ σ H (.ok (d, g)) Q → r [v] H Q) (σ : St) (H : Hp) (Q : VK)
    (h : T F (v1 (pureK1 op) fa) σ H Q) : tCB r (tCons (TB F fa) tNil) σ H Q := by
  obtain ⟨C, ρ, g, x, h⟩ := h
  refine one_tb x h fun d g v H1 e1 x1 w1 st => ?_
  unfold pureK1 at st
  cases q : op d with
  | none => rw [q] at st; exact st.elim
  | some d' => rw [q] at st; exact hr C ρ g σ H1 d v d' Q x1 w1 q st
/-- .. whose answer is a new thing -/
theorem core_o1 {r : List V → Hp → VK → Prop} {op : D → Option D}
    (hr : ∀ C ρ g σ H x v d Q, R F C ρ g σ H → RB F H (SO C ρ σ) x v → op x = some d → (∀ p o, H p = none → RepO F (upd H p o) (fun a => SO C ρ σ a ∨ a = p) d p → Q (.ref p) (upd H p o)) → r [v] H Q) (σ : St) (H : Hp) (Q : VK)
    (h : TO F (v1 (pureK1 op) fa) σ H Q) : tCB r (tCons (TB F fa) tNil) σ H Q := by
  obtain ⟨C, ρ, g, x, h⟩ := h
  refine one_tb x h fun d g v H1 e1 x1 w1 st => ?_
  unfold pureK1 at st
  cases q : op d with
  | none => rw [q] at st; exact st.elim
  | some d' =>
    rw [q] at st
    exact hr C ρ g σ H1 d v d' Q x1 w1 q fun p o hp w => StepE.new st x1 hp ⟨p, rfl, e1.free hp, w⟩
def D.len : D → Option D
  | .str s => if s.length ≤ sizeLine then some (.int s.length) else none
  | .tup xs => some (.int xs.length)
  | .lst xs => some (.int xs.length)
  | .dk kvs => some (.int kvs.length)
  | _ => none
theorem repK_count {F : Fx} {H : Hp} {S : Addr → Prop} : ∀ {kvs : List (Key × D)} {ws : List (Key × V)}, RepK F.mg H S F.r kvs ws → kvs.length = ws.length
  | [], _, e => by cases (show _ = [] from e); rfl
  | (_, _) :: _, _, ⟨v, ws, e, _, b⟩ => by rw [e]; simp [repK_count b]
theorem call_lenRd {X : Cx} : CallR X (.builtin "len") (fun xs H Q => ∃ (a : Addr) (kvs : List (Key × V)), xs = [V.ref a] ∧ Rd H a (.dK kvs) ∧ Q (.int kvs.length) H) := by
  intro pins s σ H xs us Q I r q
  obtain ⟨a, kvs, rfl, hd, q⟩ := q
  obtain ⟨u, rfl, rx⟩ := vals1 r
  cases rx
  exact d_len I hd fun t s' I' => ⟨.int _, H, I', ⟨_, rfl⟩, q⟩
def D.absD : D → Option D
  | .int i => some (.int (if i < 0 then -i else i))
  | _ => none
def intsOf : List D → Option (List Int)
  | [] => some []
  | .int i :: r => (intsOf r).map (i :: ·)
  | _ :: _ => none
def blsOf : List D → Option (List Bool)
  | [] => some []
  | .bl i :: r => (blsOf r).map (i :: ·)
  | _ :: _ => none
theorem ints_eq : ∀ {xs : List D} {ns : List Int}, intsOf xs = some ns → xs = ns.map D.int
  | [], ns, h => by cases h; rfl
  | .int i :: r, ns, h => by
    unfold intsOf at h
    cases q : intsOf r with
    | none => rw [q] at h; cases h
    | some ms => rw [q] at h; cases h; rw [ints_eq q]; rfl
  | .non :: _, _, h => by cases h
  | .bl _ :: _, _, h => by cases h
  | .str _ :: _, _, h => by cases h
  | .tup _ :: _, _, h => by cases h
  | .lst _ :: _, _, h => by cases h
  | .dk _ :: _, _, h => by cases h
  | .dt _ :: _, _, h => by cases h
  | .ins _ _ :: _, _, h => by cases h
  | .fn _ :: _, _, h => by cases h
  | .row :: _, _, h => by cases h
@[simp] theorem intsOf_map : ∀ (ns : List Int), intsOf (ns.map D.int) = some ns
  | [] => rfl
  | n :: ns => by rw [List.map_cons, intsOf, intsOf_map ns]; rfl
theorem bls_eq : ∀ {xs : List D} {ns : List Bool}, blsOf xs = some ns → xs = ns.map D.bl
  | [], ns, h => by cases h; rfl
  | .bl i :: r, ns, h => by
    unfold blsOf at h
    cases q : blsOf r with
    | none => rw [q] at h; cases h
    | some ms => rw [q] at h; cases h; rw [bls_eq q]; rfl
  | .non :: _, _, h => by cases h
  | .int _ :: _, _, h => by cases h
  | .str _ :: _, _, h => by cases h
  | .tup _ :: _, _, h => by cases h
  | .lst _ :: _, _, h => by cases h
  | .dk _ :: _, _, h => by cases h
  | .dt _ :: _, _, h => by cases h
  | .ins _ _ :: _, _, h => by cases h
  | .fn _ :: _, _, h => by cases h
  | .row :: _, _, h => by cases h
@[simp] theorem blsOf_map : ∀ (ns : List Bool), blsOf (ns.map D.bl) = some ns
  | [] => rfl
  | n :: ns => by rw [List.map_cons, blsOf, blsOf_map ns]; rfl
theorem reps_bls {H : Hp} {S : Addr → Prop} : ∀ {ns : List Bool} {vs : List V}, F.rps H S (ns.map D.bl) vs → vs = ns.map V.bl
  | [], _, e => e
  | n :: ns, _, ⟨v, ws, e, a, b⟩ => by rw [e, show v = .bl n from a, reps_bls b]; rfl
/-- a list of intsOf, of bools that is looked at -/
theorem rb_ints {H : Hp} {S : Addr → Prop} {xs : List D} {v : V} {ns : List Int} (h : RB F H S (.lst xs) v) (q : intsOf xs = some ns) : ∃ a, v = .ref a ∧ SqL F.K H a (ns.map V.int) ∧ H a = some (.lst (ns.map V.int)) ∧ ns.length ≤ sizeLine := by
  obtain ⟨a, vs, e, _, z, l, k⟩ := h
  rw [ints_eq q] at k
  rw [Reps.ints k] at z l
  exact ⟨a, e, SqL.of z, z, by simpa using l⟩
theorem rb_bls {H : Hp} {S : Addr → Prop} {xs : List D} {v : V} {ns : List Bool} (h : RB F H S (.lst xs) v) (q : blsOf xs = some ns) : ∃ a, v = .ref a ∧ SqL F.K H a (ns.map V.bl) := by
  obtain ⟨a, vs, e, _, z, _, k⟩ := h
  rw [bls_eq q] at k
  rw [reps_bls k] at z
  exact ⟨a, e, SqL.of z⟩
def D.onInts (f : List Int → Option D) : D → Option D
  | .lst xs => (intsOf xs).bind f
  | _ => none
def D.onBls (f : List Bool → D) : D → Option D
  | .lst xs => (blsOf xs).map f
  | _ => none
abbrev D.sumD := D.onInts fun ns => some (.int ns.sum)
abbrev D.maxD := D.onInts fun ns => ns.max?.map .int
abbrev D.minD := D.onInts fun ns => ns.min?.map .int
abbrev D.allD := D.onBls fun bs => .bl (bs.all id)
abbrev D.anyD := D.onBls fun bs => .bl (bs.any id)
def insI (n : Int) : List Int → List Int
  | [] => [n]
  | m :: r => if n ≤ m then n :: m :: r else m :: insI n r
/-- intsOf in order -/
def sortI : List Int → List Int
  | [] => []
  | n :: r => insI n (sortI r)
theorem insI_perm (n : Int) : ∀ l : List Int, (insI n l).Perm (n :: l)
  | [] => .refl _
  | m :: r => by
    unfold insI
    split
    · exact .refl _
    · exact ((insI_perm n r).cons m).trans (.swap ..)
theorem sortI_perm : ∀ l : List Int, (sortI l).Perm l
  | [] => .refl _
  | n :: r => (insI_perm n _).trans ((sortI_perm r).cons n)
theorem insI_sorted (n : Int) : ∀ {l : List Int}, l.Pairwise (· ≤ ·) → (insI n l).Pairwise (· ≤ ·)
  | [], _ => by simp [insI]
  | m :: r, h => by
    unfold insI
    rw [List.pairwise_cons] at h
    split
    · rename_i hm
      refine List.pairwise_cons.mpr ⟨fun x hx => ?_, List.pairwise_cons.mpr h⟩
      rcases List.mem_cons.mp hx with rfl | hx
      · exact hm
      · exact Int.le_trans hm (h.1 x hx)
    · rename_i hm
      refine List.pairwise_cons.mpr ⟨fun x hx => ?_, insI_sorted n h.2⟩
      rcases List.mem_cons.mp ((insI_perm n r).mem_iff.mp hx) with rfl | hx
      · omega
      · exact h.1 x hx
theorem sortI_sorted : ∀ l : List Int, (sortI l).Pairwise (· ≤ ·)
  | [] => .nil
  | n :: r => insI_sorted n (sortI_sorted r)
theorem sorted_unique {l m : List Int} (h : l.Perm m) (a : l.Pairwise (· ≤ ·)) (b : m.Pairwise (· ≤ ·)) : l = m :=
  h.eq_of_pairwise (fun x y _ _ h1 h2 => Int.le_antisymm h1 h2) a b
theorem sortI_eq {l m : List Int} (h : m.Perm l) (b : m.Pairwise (· ≤ ·)) : m = sortI l := sorted_unique (h.trans (sortI_perm l).symm) b (sortI_sorted l)

theorem ve_len (xf : XF X F) (ha : PE X a (TB F fa)) (hg : Gl X "len" := by rfl) (he : starEach [a] X.env = (false, eval a X.env) :: starEach [] X.env := by rfl) : PE X (.Call (.Name "len" p) [a] [] pos) (T F (v1 (pureK1 D.len) fa)) :=
  (pe_callB ((call_len_seq.or call_len_str).or call_lenRd) hg (by rw [xf.mg]; exact xf.len) PySem.boot_len (pa_cons ha pa_nil he) (he := he)).imp fun σ H Q h => core_b1 (fun C ρ g σ H x v d Q x1 hx op st => by
    unfold D.len at op
    split at op
    · split at op
      · cases op
        rw [rb_str hx]
        exact .inl (.inr ⟨_, rfl, ‹_›, st.here x1 rfl⟩)
      · cases op
    · cases op
      obtain ⟨a, vs, e, _, z, _, k⟩ := hx
      rw [e]
      exact .inl (.inl ⟨a, vs, rfl, .inr (SqT.of z), by rw [← k.length]; exact st.here x1 rfl⟩)
    · cases op
      obtain ⟨a, vs, e, _, z, _, k⟩ := hx
      rw [e]
      exact .inl (.inl ⟨a, vs, rfl, .inl (SqL.of z), by rw [← k.length]; exact st.here x1 rfl⟩)
    · cases op
      obtain ⟨a, ws, e, _, z, _, k⟩ := hx
      rw [e]
      exact .inr ⟨a, ws, rfl, z, by rw [← repK_count k]; exact st.here x1 rfl⟩
    · cases op) σ H Q h
theorem ve_abs (xf : XF X F) (ha : PE X a (TB F fa)) (hg : Gl X "abs" := by rfl) (he : starEach [a] X.env = (false, eval a X.env) :: starEach [] X.env := by rfl) : PE X (.Call (.Name "abs" p) [a] [] pos) (T F (v1 (pureK1 D.absD) fa)) :=
  (pe_callB call_abs hg (by rw [xf.mg]; exact xf.abs) (by decide +kernel) (pa_cons ha pa_nil he) (he := he)).imp fun σ H Q h => core_b1 (fun C ρ g σ H x v d Q x1 hx op st => by
    unfold D.absD at op
    split at op
    · cases op
      rw [rb_int hx]
      exact ⟨_, rfl, st.here x1 rfl⟩
    · cases op) σ H Q h
theorem onI {f : List Int → Option D} {x d : D} (h : D.onInts f x = some d) : ∃ xs ns, x = .lst xs ∧ intsOf xs = some ns ∧ f ns = some d := by
  unfold D.onInts at h
  split at h
  · rename_i xs
    cases q : intsOf xs with
    | none => rw [q] at h; cases h
    | some ns => rw [q] at h; exact ⟨xs, ns, rfl, q, h⟩
  · cases h
theorem onB {f : List Bool → D} {x d : D} (h : D.onBls f x = some d) : ∃ xs ns, x = .lst xs ∧ blsOf xs = some ns ∧ f ns = d := by
  unfold D.onBls at h
  split at h
  · rename_i xs
    cases q : blsOf xs with
    | none => rw [q] at h; cases h
    | some ns => rw [q] at h; cases h; exact ⟨xs, ns, rfl, q, rfl⟩
  · cases h
theorem ve_sum (xf : XF X F) (ha : PE X a (TB F fa)) (hg : Gl X "sum" := by rfl) (he : starEach [a] X.env = (false, eval a X.env) :: starEach [] X.env := by rfl) : PE X (.Call (.Name "sum" p) [a] [] pos) (T F (v1 (pureK1 D.sumD) fa)) :=
  (pe_callB (cr_sum xf.calm) hg (by rw [xf.mg]; exact xf.sum) (by decide +kernel) (pa_cons ha pa_nil he) (he := he)).imp fun σ H Q h => core_b1 (fun C ρ g σ H x v d Q x1 hx op st => by
    obtain ⟨xs, ns, rfl, q, e⟩ := onI op
    cases e
    obtain ⟨a, rfl, h1, _⟩ := rb_ints hx q
    exact ⟨a, ns, rfl, by rw [xf.K]; exact h1, st.here x1 rfl⟩) σ H Q h
theorem ve_max (xf : XF X F) (ha : PE X a (TB F fa)) (hg : Gl X "max" := by rfl) (he : starEach [a] X.env = (false, eval a X.env) :: starEach [] X.env := by rfl) : PE X (.Call (.Name "max" p) [a] [] pos) (T F (v1 (pureK1 D.maxD) fa)) :=
  (pe_callB (cr_max xf.calm) hg (by rw [xf.mg]; exact xf.max) (by decide +kernel) (pa_cons ha pa_nil he) (he := he)).imp fun σ H Q h => core_b1 (fun C ρ g σ H x v d Q x1 hx op st => by
    obtain ⟨xs, ns, rfl, q, e⟩ := onI op
    obtain ⟨a, rfl, h1, _⟩ := rb_ints hx q
    cases hm : ns.max? with
    | none => rw [hm] at e; cases e
    | some m =>
      rw [hm] at e
      cases e
      have hmm := List.max?_eq_some_iff.mp hm
      refine ⟨a, ns, rfl, by rw [xf.K]; exact h1, ?_, fun m' h3 h4 => ?_⟩
      · exact List.length_pos_of_mem hmm.1
      · have e : m' = m := Int.le_antisymm (hmm.2 m' h3) (h4 m hmm.1)
        rw [e]
        exact st.here x1 rfl) σ H Q h
theorem ve_min (xf : XF X F) (ha : PE X a (TB F fa)) (hg : Gl X "min" := by rfl) (he : starEach [a] X.env = (false, eval a X.env) :: starEach [] X.env := by rfl) : PE X (.Call (.Name "min" p) [a] [] pos) (T F (v1 (pureK1 D.minD) fa)) :=
  (pe_callB (cr_min xf.calm) hg (by rw [xf.mg]; exact xf.min) (by decide +kernel) (pa_cons ha pa_nil he) (he := he)).imp fun σ H Q h => core_b1 (fun C ρ g σ H x v d Q x1 hx op st => by
    obtain ⟨xs, ns, rfl, q, e⟩ := onI op
    obtain ⟨a, rfl, h1, _⟩ := rb_ints hx q
    cases hm : ns.min? with
    | none => rw [hm] at e; cases e
    | some m =>
      rw [hm] at e
      cases e
      have hmm := List.min?_eq_some_iff.mp hm
      refine ⟨a, ns, rfl, by rw [xf.K]; exact h1, ?_, fun m' h3 h4 => ?_⟩
      · exact List.length_pos_of_mem hmm.1
      · have e : m' = m := Int.le_antisymm (h4 m hmm.1) (hmm.2 m' h3)
        rw [e]
        exact st.here x1 rfl) σ H Q h
theorem ve_all (xf : XF X F) (ha : PE X a (TB F fa)) (hg : Gl X "all" := by rfl) (he : starEach [a] X.env = (false, eval a X.env) :: starEach [] X.env := by rfl) : PE X (.Call (.Name "all" p) [a] [] pos) (T F (v1 (pureK1 D.allD) fa)) :=
  (pe_callB (cr_all xf.calm) hg (by rw [xf.mg]; exact xf.all) (by decide +kernel) (pa_cons ha pa_nil he) (he := he)).imp fun σ H Q h => core_b1 (fun C ρ g σ H x v d Q x1 hx op st => by
    obtain ⟨xs, ns, rfl, q, rfl⟩ := onB op
    obtain ⟨a, rfl, h1⟩ := rb_bls hx q
    exact ⟨a, ns, rfl, by rw [xf.K]; exact h1, st.here x1 rfl⟩) σ H Q h
theorem ve_any (xf : XF X F) (ha : PE X a (TB F fa)) (hg : Gl X "any" := by rfl) (he : starEach [a] X.env = (false, eval a X.env) :: starEach [] X.env := by rfl) : PE X (.Call (.Name "any" p) [a] [] pos) (T F (v1 (pureK1 D.anyD) fa)) :=
  (pe_callB (cr_any xf.calm) hg (by rw [xf.mg]; exact xf.any) (by decide +kernel) (pa_cons ha pa_nil he) (he := he)).imp fun σ H Q h => core_b1 (fun C ρ g σ H x v d Q x1 hx op st => by
    obtain ⟨xs, ns, rfl, q, rfl⟩ := onB op
    obtain ⟨a, rfl, h1⟩ := rb_bls hx q
    exact ⟨a, ns, rfl, by rw [xf.K]; exact h1, st.here x1 rfl⟩) σ H Q h
def D.intD : D → Option D
  | .int i => some (.int i)
  | .bl b => some (.int (if b then 1 else 0))
  | _ => none
def D.boolD : D → Option D
  | .int i => some (.bl (i != 0))
  | .bl b => some (.bl b)
  | _ => none
def D.strI : D → Option D
  | .int i => if i.natAbs < 2 ^ 62 then some (.str (Str.ofString (toString i))) else none
  | _ => none
theorem ve_int1 (xf : XF X F) (ha : PE X a (TB F fa)) (hg : Gl X "int" := by rfl) (he : starEach [a] X.env = (false, eval a X.env) :: starEach [] X.env := by rfl) : PE X (.Call (.Name "int" p) [a] [] pos) (T F (v1 (pureK1 D.intD) fa)) :=
  (pe_callTy call_int1 hg (by rw [xf.mg]; exact xf.int) (by decide +kernel) (pa_cons ha pa_nil he) (he := he)).imp fun σ H Q h => core_b1 (fun C ρ g σ H x v d Q x1 hx op st => by
    unfold D.intD at op
    split at op
    · cases op
      rw [rb_int hx]
      exact .inl ⟨_, rfl, st.here x1 rfl⟩
    · cases op
      rw [rb_bl hx]
      exact .inr ⟨_, rfl, st.here x1 rfl⟩
    · cases op) σ H Q h
theorem ve_bool1 (xf : XF X F) (ha : PE X a (TB F fa)) (hg : Gl X "bool" := by rfl) (he : starEach [a] X.env = (false, eval a X.env) :: starEach [] X.env := by rfl) : PE X (.Call (.Name "bool" p) [a] [] pos) (T F (v1 (pureK1 D.boolD) fa)) :=
  (pe_callTy call_bool1 hg (by rw [xf.mg]; exact xf.bool) (by decide +kernel) (pa_cons ha pa_nil he) (he := he)).imp fun σ H Q h => core_b1 (fun C ρ g σ H x v d Q x1 hx op st => by
    unfold D.boolD at op
    split at op
    · cases op
      rw [rb_int hx]
      exact .inl ⟨_, rfl, st.here x1 rfl⟩
    · cases op
      rw [rb_bl hx]
      exact .inr ⟨_, rfl, st.here x1 rfl⟩
    · cases op) σ H Q h
/-- tuple(x), list(x) -/
def D.tupleD : D → Option D
  | .lst xs => some (.tup xs)
  | .tup xs => some (.tup xs)
  | _ => none
def D.listD : D → Option D
  | .lst xs => some (.lst xs)
  | .tup xs => some (.lst xs)
  | _ => none
theorem ve_tuple (xf : XF X F) (ha : PE X a (TB F fa)) (hg : Gl X "tuple" := by rfl) (he : starEach [a] X.env = (false, eval a X.env) :: starEach [] X.env := by rfl) : PE X (.Call (.Name "tuple" p) [a] [] pos) (T F (v1 (pureK1 D.tupleD) fa)) :=
  (pe_callTy call_tuple_of hg (by rw [xf.mg]; exact xf.tuple) (by decide +kernel) (pa_cons ha pa_nil he) (he := he)).imp fun σ H Q h => core_b1 (fun C ρ g σ H x v d Q x1 hx op st => by
    unfold D.tupleD at op
    split at op
    · cases op
      obtain ⟨a, vs, e, _, z, l, k⟩ := hx
      rw [e]
      exact ⟨a, vs, rfl, .inl ⟨SqL.of z, fun p hp => st.new x1 hp ⟨p, vs, rfl, x1.nso hp, upd_same, l, k.agr (agr_new hp)⟩⟩⟩
    · cases op
      obtain ⟨a, vs, e, n, z, l, k⟩ := hx
      rw [e]
      exact ⟨a, vs, rfl, .inr ⟨SqT.of z, st.here x1 ⟨a, vs, rfl, n, z, l, k⟩⟩⟩
    · cases op) σ H Q h
theorem vo_list (xf : XF X F) (ha : PE X a (TB F fa)) (hg : Gl X "list" := by rfl) (he : starEach [a] X.env = (false, eval a X.env) :: starEach [] X.env := by rfl) : PE X (.Call (.Name "list" p) [a] [] pos) (TO F (v1 (pureK1 D.listD) fa)) :=
  (pe_callTy call_list_of hg (by rw [xf.mg]; exact xf.list) (by decide +kernel) (pa_cons ha pa_nil he) (he := he)).imp fun σ H Q h => core_o1 (fun C ρ g σ H x v d Q x1 hx op st => by
    unfold D.listD at op
    split at op
    · cases op
      obtain ⟨a, vs, e, _, z, l, k⟩ := hx
      rw [e]
      exact ⟨a, vs, rfl, .inl (SqL.of z), fun p hp => st p _ hp ⟨vs, upd_same, l, k.more hp⟩⟩
    · cases op
      obtain ⟨a, vs, e, n, z, l, k⟩ := hx
      rw [e]
      exact ⟨a, vs, rfl, .inr (SqT.of z), fun p hp => st p _ hp ⟨vs, upd_same, l, k.more hp⟩⟩
    · cases op) σ H Q h
/-- sorted(intsOf) -/
def D.sortedI : D → Option D := D.onInts fun ns => some (.lst ((sortI ns).map .int))
theorem vo_sorted (xf : XF X F) (ha : PE X a (TB F fa)) (hg : Gl X "sorted" := by rfl) (he : starEach [a] X.env = (false, eval a X.env) :: starEach [] X.env := by rfl) : PE X (.Call (.Name "sorted" p) [a] [] pos) (TO F (v1 (pureK1 D.sortedI) fa)) :=
  (pe_callB cr_sortedI hg (by rw [xf.mg]; exact xf.sorted) (by decide +kernel) (pa_cons ha pa_nil he) (he := he)).imp fun σ H Q h => core_o1 (fun C ρ g σ H x v d Q x1 hx op st => by
    obtain ⟨xs, ns, rfl, q, e⟩ := onI op
    cases e
    obtain ⟨a, rfl, h1, _, l⟩ := rb_ints hx q
    refine ⟨a, ns, rfl, by rw [xf.K]; exact h1, fun ns' p hp hs hn => ?_⟩
    rw [sortI_eq hp hs]
    exact st p _ hn ⟨_, upd_same, by rw [List.length_map, (sortI_perm ns).length_eq]; exact l, Reps.ofInts⟩) σ H Q h
end
end RP
end L2
set_option Elab.async false
set_option linter.all false
set_option maxRecDepth 100000
/-! R7: subscripts, in, slices, fields. -/
namespace L2
namespace RP
open PySem PySem.Spec PyProof.Rows

theorem _root_.L2.PE.or {X : Cx} {e : Expr} {t t' : TE} (h : PE X e t) (h' : PE X e t') : PE X e (fun σ H Q => t σ H Q ∨ t' σ H Q) :=
  ⟨fun pins s σ H Q I q => q.elim (h.run pins s σ H Q I) (h'.run pins s σ H Q I)⟩
theorem PV.or {X : Cx} {e : Expr} {t t' : TE} (h : PV X e t) (h' : PV X e t') : PV X e (fun σ H Q => t σ H Q ∨ t' σ H Q) :=
  ⟨h.pe.or h'.pe, ⟨fun pins s σ H Q I q => q.elim (h.pt.run pins s σ H Q I) (h'.pt.run pins s σ H Q I)⟩⟩
/-! ### tables -/
section
variable {κ : Type} [DecidableEq κ]
def valD : List (κ × D) → κ → Option D
  | [], _ => none
  | p :: r, k => if p.1 = k then some p.2 else valD r k
def putD : List (κ × D) → κ → D → List (κ × D)
  | [], k, d => [(k, d)]
  | p :: r, k, d => if p.1 = k then (p.1, d) :: r.map (fun q => if q.1 = k then (q.1, d) else q) else p :: putD r k d
end
def keyOf : D → Option Key
  | .int i => some (.inl i)
  | .str s => some (.inr s)
  | _ => none
def keysOf : List D → Option (List Key)
  | [] => some []
  | d :: ds => (keyOf d).bind fun k => (keysOf ds).map (k :: ·)
section
variable {F : Fx} {H : Hp} {S : Addr → Prop}
theorem keyOf_eq {d : D} {k : Key} (h : keyOf d = some k) : (∃ i, d = .int i ∧ k = .inl i) ∨ ∃ s, d = .str s ∧ k = .inr s := by
  cases d with
  | int i => cases h; exact .inl ⟨i, rfl, rfl⟩
  | str s => cases h; exact .inr ⟨s, rfl, rfl⟩
  | _ => cases h
theorem keyOf_v {d : D} {k : Key} {v : V} (h : keyOf d = some k) (r : F.rp H S d v) : v = kV k := by
  rcases keyOf_eq h with ⟨i, rfl, rfl⟩ | ⟨s, rfl, rfl⟩
  · exact r
  · exact r
theorem keysOf_v : ∀ {ds : List D} {ks : List Key} {vs : List V}, keysOf ds = some ks → F.rps H S ds vs → vs = ks.map kV
  | [], ks, vs, h, r => by cases h; exact r
  | d :: ds, ks, vs, h, ⟨v, ws, e, a, b⟩ => by
    unfold keysOf at h
    cases q : keyOf d with
    | none => rw [q] at h; cases h
    | some k =>
      rw [q] at h
      cases q2 : keysOf ds with
      | none => rw [q2] at h; cases h
      | some ks' =>
        rw [q2] at h
        cases h
        rw [e, keyOf_v q a, keysOf_v q2 b]
        rfl
theorem repK_val : ∀ {kvs : List (Key × D)} {ws : List (Key × V)} (k : Key), RepK F.mg H S F.r kvs ws →
    (∃ d v, valD kvs k = some d ∧ valV ws k = some v ∧ F.rp H S d v) ∨ (valD kvs k = none ∧ valV ws k = none)
  | [], ws, k, e => by rw [show ws = [] from e]; exact .inr ⟨rfl, rfl⟩
  | (k', d) :: r, ws, k, ⟨v, ws', e, a, b⟩ => by
    rw [e]
    by_cases h : k' = k
    · exact .inl ⟨d, v, by simp [valD, h], valV_pos h, a⟩
    · have e1 : valD ((k', d) :: r) k = valD r k := by simp [valD, h]
      have e2 : valV ((k', v) :: ws') k = valV ws' k := valV_neg h
      rw [e1, e2]
      exact repK_val k b
theorem repT_val : ∀ {kvs : List (List Key × D)} {ws : List (List Key × V)} (k : List Key), RepT F.mg H S F.r kvs ws →
    (∃ d v, valD kvs k = some d ∧ valV ws k = some v ∧ F.rp H S d v) ∨ (valD kvs k = none ∧ valV ws k = none)
  | [], ws, k, e => by rw [show ws = [] from e]; exact .inr ⟨rfl, rfl⟩
  | (k', d) :: r, ws, k, ⟨v, ws', e, a, b⟩ => by
    rw [e]
    by_cases h : k' = k
    · exact .inl ⟨d, v, by simp [valD, h], valV_pos h, a⟩
    · have e1 : valD ((k', d) :: r) k = valD r k := by simp [valD, h]
      have e2 : valV ((k', v) :: ws') k = valV ws' k := valV_neg h
      rw [e1, e2]
      exact repT_val k b
theorem repF_val : ∀ {kvs : List (Str × D)} {ws : List (Str × V)} (k : Str), RepF F.mg H S F.r kvs ws →
    (∃ d v, valD kvs k = some d ∧ ws.lookup k = some v ∧ F.rp H S d v) ∨ (valD kvs k = none ∧ ws.lookup k = none)
  | [], ws, k, e => by rw [show ws = [] from e]; exact .inr ⟨rfl, rfl⟩
  | (k', d) :: r, ws, k, ⟨v, ws', e, a, b⟩ => by
    rw [e]
    by_cases h : k' = k
    · refine .inl ⟨d, v, by simp [valD, h], ?_, a⟩
      subst h
      simp [List.lookup]
    · have e1 : valD ((k', d) :: r) k = valD r k := by simp [valD, h]
      have e2 : ((k', v) :: ws').lookup k = ws'.lookup k := by
        have : (k == k') = false := by simpa using fun z => h z.symm
        simp [List.lookup, this]
      rw [e1, e2]
      exact repF_val k b
theorem reps_atI {xs : List D} {vs : List V} (r : F.rps H S xs vs) {i : Int} {d : D} (h : atI xs i = some d) : ∃ v, atI vs i = some v ∧ F.rp H S d v := by
  unfold atI at h ⊢
  rw [← r.length]
  cases q : ixN xs.length i with
  | none => rw [q] at h; cases h
  | some j =>
    rw [q] at h
    exact r.at j h
end
/-! ### x[i] -/
def D.ix : D → D → Option D
  | .lst xs, .int i => atI xs i
  | .tup xs, .int i => atI xs i
  | .str s, .int i => if s.length ≤ sizeLine then (atI s.cps.toList i).map fun c => .str ⟨#[c]⟩ else none
  | .dk kvs, k => (keyOf k).bind (valD kvs)
  | .dt kvs, .tup ks => (keysOf ks).bind (valD kvs)
  | _, _ => none
section
variable {X : Cx} {F : Fx} {e a b : Expr} {es : List Expr} {fa fb f fc : SE} {fr : SEs} {pos p : Pos}
/-- d[k] by values -/
theorem ix_dict (hu : X.A.units + 1 < cLine) : IxR X (fun x y H Q => ∃ a v, x = .ref a ∧ DGet H a y (some v) ∧ Q v H) := by
  intro value slice pins s σ H x y v u Q I rx ry h hs
  obtain ⟨a, z, rfl, g, q⟩ := h
  cases rx
  exact PyProof.Rows.tail_any (dict_typeIs I g) PySem.F.slot_dict_getitem.lookup (d_getItem hu I g ry fun w' s' I' r' => ⟨z, H, I', r', q⟩) hs
theorem dget_of {H : Hp} {S : Addr → Prop} {d k d' : D} {v u : V} {kvs : List (Key × D)} (hd : RB F H S (.dk kvs) v) (hk : RB F H S k u) {k' : Key} (q : keyOf k = some k') :
    ∃ a o, v = .ref a ∧ DGet H a u o ∧ ((∃ d w, valD kvs k' = some d ∧ o = some w ∧ F.rp H S d w) ∨ (valD kvs k' = none ∧ o = none)) := by
  obtain ⟨a, ws, e, _, z, _, r⟩ := hd
  have hk' : F.rp H S k u := by
    rcases keyOf_eq q with ⟨i, rfl, _⟩ | ⟨s, rfl, _⟩ <;> exact hk
  refine ⟨a, valV ws k', e, .inl ⟨ws, k', z, keyOf_v q hk', rfl⟩, ?_⟩
  rcases repK_val k' r with ⟨d, w, h1, h2, h3⟩ | ⟨h1, h2⟩
  · exact .inl ⟨d, w, h1, h2, h3⟩
  · exact .inr ⟨h1, h2⟩
theorem dgetT_of {H : Hp} {S : Addr → Prop} {d d' : D} {xs : List D} {v u : V} {kvs : List (List Key × D)} (hd : RB F H S (.dt kvs) v) (hk : RB F H S (.tup xs) u) {k' : List Key} (q : keysOf xs = some k') :
    ∃ a o, v = .ref a ∧ DGet H a u o ∧ ((∃ d w, valD kvs k' = some d ∧ o = some w ∧ F.rp H S d w) ∨ (valD kvs k' = none ∧ o = none)) := by
  obtain ⟨a, ws, e, _, z, _, r⟩ := hd
  obtain ⟨b, vs, eb, _, zb, _, rb⟩ := hk
  refine ⟨a, valV ws k', e, .inr ⟨ws, k', b, z, eb, by rw [zb, keysOf_v q rb], rfl⟩, ?_⟩
  rcases repT_val k' r with ⟨d, w, h1, h2, h3⟩ | ⟨h1, h2⟩
  · exact .inl ⟨d, w, h1, h2, h3⟩
  · exact .inr ⟨h1, h2⟩
/-- the value read out of a thing that is looked at -/
theorem ve_ix (xf : XF X F) (ha : PE X a (TB F fa)) (hb : PE X b (TB F fb)) (hs : PlainIx b := by intro _ _; rfl) : PE X (.Subscript a b pos) (T F (v2 (pureK2 D.ix) fa fb)) :=
  ve_op2 (pe_ix (ix_seq.or (ix_dict (by have := xf.u; omega))) ha hb hs) fun C ρ g σ H x y v u d Q x1 hx hy op st => by
    unfold D.ix at op
    split at op
    · obtain ⟨a, vs, e, _, z, _, k⟩ := hx
      obtain ⟨w, h1, h2⟩ := reps_atI k op
      exact .inl (.inl ⟨a, vs, _, w, e, hy, SqL.of z, h1, st.here x1 h2⟩)
    · obtain ⟨a, vs, e, _, z, _, k⟩ := hx
      obtain ⟨w, h1, h2⟩ := reps_atI k op
      exact .inl (.inr (.inl ⟨a, vs, _, w, e, hy, SqT.of z, h1, st.here x1 h2⟩))
    · split at op
      · rename_i hl
        rename_i s i
        cases q : atI s.cps.toList i with
        | none => rw [q] at op; cases op
        | some c =>
          rw [q] at op
          cases op
          exact .inl (.inr (.inr ⟨s, i, c, hx, hy, hl, q, st.here x1 rfl⟩))
      · cases op
    · rename_i kvs _
      cases q : keyOf y with
      | none => rw [q] at op; cases op
      | some k' =>
        rw [q] at op
        obtain ⟨a, o, e, gt, z⟩ := dget_of (d := d) (d' := d) hx hy q
        rcases z with ⟨d', w, h1, h2, h3⟩ | ⟨h1, h2⟩
        · simp only [Option.bind_some, h1] at op
          cases op
          rw [h2] at gt
          exact .inr ⟨a, w, e, gt, st.here x1 h3⟩
        · simp only [Option.bind_some, h1] at op
          cases op
    · rename_i kvs xs
      cases q : keysOf xs with
      | none => rw [q] at op; cases op
      | some k' =>
        rw [q] at op
        obtain ⟨a, o, e, gt, z⟩ := dgetT_of (d := d) (d' := d) hx hy q
        rcases z with ⟨d', w, h1, h2, h3⟩ | ⟨h1, h2⟩
        · simp only [Option.bind_some, h1] at op
          cases op
          rw [h2] at gt
          exact .inr ⟨a, w, e, gt, st.here x1 h3⟩
        · simp only [Option.bind_some, h1] at op
          cases op
    · cases op
/-! ### x in y -/
def D.inB (x y : D) : Option Bool :=
  match y with
  | .lst ys => if x.flat && ys.all D.flat then some (ys.any fun z => D.eqv z x) else if x.dat 59 && D.dats ys 59 then some (ys.any fun z => D.eqv z x) else none
  | .tup ys => if x.flat && ys.all D.flat then some (ys.any fun z => D.eqv z x) else if x.dat 59 && D.dats ys 59 then some (ys.any fun z => D.eqv z x) else none
  | .dk kvs => (keyOf x).map fun k => (valD kvs k).isSome
  | .dt kvs => (match x with
    | .tup xs => (keysOf xs).map fun k => (valD kvs k).isSome
    | _ => none)
  | .str z => (match x with
    | .str c => if c.cps.size = 1 then some (decide (c.cps.getD 0 0 ∈ z.cps.toList)) else none
    | _ => none)
  | _ => none
def D.inD (x y : D) : Option D := D.bOf (D.inB x y)
def D.notInD (x y : D) : Option D := D.bOf ((D.inB x y).map (!·))
def rInA (K : PySem.W.Frag) (neg : Bool) : R2 := fun x y H Q => rIn K neg x y H Q ∨
  (∃ d ds, Dp K H x d ∧ Dp K H y (.list ds) ∧ SeqAt.shaped d = true ∧ SeqAt.shaped (.list ds) = true ∧ Q (.bl (if neg then !(ds.any fun z => PyData.eqv z d) else ds.any fun z => PyData.eqv z d)) H) ∨
  (∃ d ds, Dp K H x d ∧ Dp K H y (.tuple ds) ∧ SeqAt.shaped d = true ∧ SeqAt.shaped (.tuple ds) = true ∧ Q (.bl (if neg then !(ds.any fun z => PyData.eqv z d) else ds.any fun z => PyData.eqv z d)) H) ∨
  (∃ a o, y = .ref a ∧ DGet H a x o ∧ Q (.bl (if neg then !o.isSome else o.isSome)) H) ∨
  ∃ (c : Nat) (z : Str), x = .str ⟨#[c]⟩ ∧ y = .str z ∧ Q (.bl (if neg then !decide (c ∈ z.cps.toList) else decide (c ∈ z.cps.toList))) H
theorem room_in {X : Cx} {d e : PyData} (sd : SeqAt.shaped d = true) (hu : X.A.units + 65 < cLine) : X.A.units + 1 + min (PyData.depthAll [e]) d.depth < cLine := by
  have := SeqAt.depth_of_shaped sd
  omega
theorem op_inA (hu : X.A.units + 65 < cLine) : OpR X (compareOp .In) (rInA X.K false) := by
  intro pins s σ H x y v u Q I rx ry h
  rcases h with h | ⟨d, ds, hd, he, sd, se, q⟩ | ⟨d, ds, hd, he, sd, se, q⟩ | ⟨a, o, rfl, gt, q⟩ | h
  · exact op_in_seq pins s σ H x y v u Q I rx ry h
  · exact op_inD hu pins s σ H x y v u Q I rx ry ⟨d, ds, hd, he, sd, se, q⟩
  · obtain ⟨as, r1⟩ := Dp.reads I d x v hd rx
    obtain ⟨bs, r2⟩ := Dp.reads I (.tuple ds) y u he ry
    exact SeqAt.in_tuple_reads r2 r1 (SeqAt.canLay_of_shaped se) (SeqAt.canLay_of_shaped sd) (by have := SeqAt.depth_of_shaped sd; omega) ⟨.bl _, H, I, rfl, q⟩
  · cases ry
    exact d_in (by omega) I gt rx fun s' I' => ⟨.bl _, H, I', rfl, q⟩
  · exact op_in_sign pins s σ H x y v u Q I rx ry h
theorem op_notInA (hu : X.A.units + 65 < cLine) : OpR X (compareOp .NotIn) (rInA X.K true) := by
  intro pins s σ H x y v u Q I rx ry h
  rcases h with h | ⟨d, ds, hd, he, sd, se, q⟩ | ⟨d, ds, hd, he, sd, se, q⟩ | ⟨a, o, rfl, gt, q⟩ | h
  · exact op_notIn_seq pins s σ H x y v u Q I rx ry h
  · exact op_notInD hu pins s σ H x y v u Q I rx ry ⟨d, ds, hd, he, sd, se, q⟩
  · obtain ⟨as, r1⟩ := Dp.reads I d x v hd rx
    obtain ⟨bs, r2⟩ := Dp.reads I (.tuple ds) y u he ry
    exact SeqAt.notIn_tuple_reads r2 r1 (SeqAt.canLay_of_shaped se) (SeqAt.canLay_of_shaped sd) (by have := SeqAt.depth_of_shaped sd; omega) ⟨.bl _, H, I, rfl, q⟩
  · cases ry
    exact d_notIn (by omega) I gt rx fun s' I' => ⟨.bl _, H, I', rfl, q⟩
  · exact op_notIn_sign pins s σ H x y v u Q I rx ry h
theorem flat_v {H : Hp} {S : Addr → Prop} {d : D} {v : V} (h : d.flat = true) (r : F.rp H S d v) : flatV v = true ∧ ∀ d' v', d'.flat = true → F.rp H S d' v' → eqV v v' = D.eqv d d' := by
  cases d with
  | non =>
    rw [show v = .non from r]
    refine ⟨rfl, fun d' v' h' r' => ?_⟩
    cases d' <;> first | (rw [show v' = _ from r']; rfl) | cases h'
  | bl b =>
    rw [show v = .bl b from r]
    refine ⟨rfl, fun d' v' h' r' => ?_⟩
    cases d' <;> first | (rw [show v' = _ from r']; rfl) | cases h'
  | int b =>
    rw [show v = .int b from r]
    refine ⟨rfl, fun d' v' h' r' => ?_⟩
    cases d' <;> first | (rw [show v' = _ from r']; rfl) | cases h'
  | str b =>
    rw [show v = .str b from r]
    refine ⟨rfl, fun d' v' h' r' => ?_⟩
    cases d' <;> first | (rw [show v' = _ from r']; rfl) | cases h'
  | _ => cases h
theorem flats_in {H : Hp} {S : Addr → Prop} {x : D} {v : V} (hx : x.flat = true) (r : F.rp H S x v) : ∀ {ys : List D} {vs : List V}, ys.all D.flat = true → F.rps H S ys vs → vs.all flatV = true ∧ inV v vs = ys.any fun z => D.eqv z x
  | [], vs, _, e => by rw [show vs = [] from e]; exact ⟨rfl, rfl⟩
  | y :: ys, vs, h, ⟨w, ws, e, a, b⟩ => by
    rw [List.all_cons, Bool.and_eq_true] at h
    obtain ⟨h1, h2⟩ := flats_in hx r h.2 b
    obtain ⟨k1, k2⟩ := flat_v h.1 a
    rw [e]
    refine ⟨by rw [List.all_cons, k1, h1]; rfl, ?_⟩
    show (eqV w v || inV v ws) = _
    rw [k2 x v hx r, h2, List.any_cons]
theorem any_py {x : D} (hx : x.dat 59 = true) : ∀ {ys : List D}, D.dats ys 59 = true → ((D.pys ys).any fun z => PyData.eqv z x.py) = ys.any fun z => D.eqv z x
  | [], _ => rfl
  | y :: ys, h => by
    simp only [D.dats, Bool.and_eq_true] at h
    show (PyData.eqv y.py x.py || _) = _
    rw [eqv_py y x ⟨_, h.1⟩ ⟨_, hx⟩, any_py hx h.2, List.any_cons]
theorem in_core (K : X.K = F.K) {neg : Bool} {C : Ctx} {ρ : En} {g : G} {σ : St} {H : Hp} {x y : D} {v u : V} {k : Bool} {Q : VK} (hx : RB F H (SO C ρ σ) x v) (hy : RB F H (SO C ρ σ) y u) (op : D.inB x y = some k)
    (st : Q (.bl (if neg then !k else k)) H) : rInA X.K neg v u H Q := by
  rw [K]
  have flatx : x.flat = true → F.rp H (SO C ρ σ) x v := fun h => by cases x <;> first | exact hx | cases h
  unfold D.inB at op
  split at op
  · rename_i ys
    obtain ⟨a, vs, e, n1, z, l, r⟩ := hy
    split at op
    · rename_i hc
      rw [Bool.and_eq_true] at hc
      cases op
      obtain ⟨h1, h2⟩ := flats_in hc.1 (flatx hc.1) hc.2 r
      exact .inl ⟨a, vs, e, .inl (SqL.of z), (flat_v hc.1 (flatx hc.1)).1, h1, by rw [h2]; cases neg <;> exact st⟩
    · split at op
      · rename_i hc
        rw [Bool.and_eq_true] at hc
        cases op
        refine .inr (.inl ⟨x.py, D.pys ys, rb_dp hc.1 hx, ?_, dat_shaped hc.1, dat_shaped (d := .lst ys) (n := 60) hc.2, ?_⟩)
        · rw [e]; exact .lst (SqL.of z) (reps_dp ys 59 vs hc.2 r)
        · rw [any_py hc.1 hc.2]; cases neg <;> exact st
      · cases op
  · rename_i ys
    obtain ⟨a, vs, e, n1, z, l, r⟩ := hy
    split at op
    · rename_i hc
      rw [Bool.and_eq_true] at hc
      cases op
      obtain ⟨h1, h2⟩ := flats_in hc.1 (flatx hc.1) hc.2 r
      exact .inl ⟨a, vs, e, .inr (SqT.of z), (flat_v hc.1 (flatx hc.1)).1, h1, by rw [h2]; cases neg <;> exact st⟩
    · split at op
      · rename_i hc
        rw [Bool.and_eq_true] at hc
        cases op
        refine .inr (.inr (.inl ⟨x.py, D.pys ys, rb_dp hc.1 hx, ?_, dat_shaped hc.1, dat_shaped (d := .tup ys) (n := 60) hc.2, ?_⟩))
        · rw [e]; exact .tup (SqT.of z) (reps_dp ys 59 vs hc.2 r)
        · rw [any_py hc.1 hc.2]; cases neg <;> exact st
      · cases op
  · rename_i kvs
    cases q : keyOf x with
    | none => rw [q] at op; cases op
    | some k' =>
      rw [q] at op
      cases op
      obtain ⟨a, o, e, gt, z⟩ := dget_of (d := x) (d' := x) hy hx q
      refine .inr (.inr (.inr (.inl ⟨a, o, e, gt, ?_⟩)))
      rcases z with ⟨d', w, h1, h2, h3⟩ | ⟨h1, h2⟩
      · rw [h2]; simp only [h1] at st; cases neg <;> exact st
      · rw [h2]; simp only [h1] at st; cases neg <;> exact st
  · rename_i kvs
    split at op
    · rename_i xs
      cases q : keysOf xs with
      | none => rw [q] at op; cases op
      | some k' =>
        rw [q] at op
        cases op
        obtain ⟨a, o, e, gt, z⟩ := dgetT_of (d := .non) (d' := .non) hy hx q
        refine .inr (.inr (.inr (.inl ⟨a, o, e, gt, ?_⟩)))
        rcases z with ⟨d', w, h1, h2, h3⟩ | ⟨h1, h2⟩
        · rw [h2]; simp only [h1] at st; cases neg <;> exact st
        · rw [h2]; simp only [h1] at st; cases neg <;> exact st
    · cases op
  · rename_i z
    split at op
    · rename_i c
      split at op
      · rename_i hc
        cases op
        have hc' : c = ⟨#[c.cps.getD 0 0]⟩ := by
          obtain ⟨cps⟩ := c
          simp only at hc
          congr 1
          apply Array.ext
          · simpa using hc
          · intro i h1 h2
            have : i = 0 := by simp at h2; exact h2
            subst this
            simp [Array.getD, h1]
        exact .inr (.inr (.inr (.inr ⟨_, z, by rw [← hc']; exact hx, hy, by cases neg <;> exact st⟩)))
      · cases op
    · cases op
  · cases op
theorem cv_in (xf : XF X F) (ha : PE X a (TB F fa)) (hb : PE X b (TB F fb)) (hm : behindInMarks .In b = false := by rfl) : PV X (.Compare a [.In] [b] pos) (T F (v2 (pureK2 D.inD) fa fb)) :=
  cv_op2 (pv_cmpR (op_inA (by have := xf.u; omega)) ha hb hm) fun C ρ g σ H x y v u d Q x1 hx hy op st => by
    unfold D.inD at op
    cases q : D.inB x y with
    | none => rw [q] at op; cases op
    | some k =>
      rw [q] at op
      cases op
      exact in_core (g := g) (neg := false) xf.K hx hy q (st.here x1 rfl)
theorem cv_notin (xf : XF X F) (ha : PE X a (TB F fa)) (hb : PE X b (TB F fb)) (hm : behindInMarks .NotIn b = false := by rfl) : PV X (.Compare a [.NotIn] [b] pos) (T F (v2 (pureK2 D.notInD) fa fb)) :=
  cv_op2 (pv_cmpR (op_notInA (by have := xf.u; omega)) ha hb hm) fun C ρ g σ H x y v u d Q x1 hx hy op st => by
    unfold D.notInD at op
    cases q : D.inB x y with
    | none => rw [q] at op; cases op
    | some k =>
      rw [q] at op
      cases op
      exact in_core (g := g) (neg := true) xf.K hx hy q (st.here x1 rfl)
theorem bl_in : BlOnly (v2 (pureK2 D.inD) fa fb) := bl_cmp fun _ _ _ h => bOf_bl h
theorem bl_notin : BlOnly (v2 (pureK2 D.notInD) fa fb) := bl_cmp fun _ _ _ h => bOf_bl h
end
end RP
end L2
set_option Elab.async false
set_option linter.all false
set_option maxRecDepth 100000
/-! R8: slices, fields, calls of own defs. -/
namespace L2
namespace RP
open PySem PySem.Spec PyProof.Rows

/-! ### slices -/
abbrev SPt := En → G → Res (Option Int × G)
def sN : SPt := fun _ g => .ok (none, g)
def sS (f : SE) : SPt := fun ρ g => (f ρ g).bind fun p => match p.1 with
  | .int i => .ok (some i, p.2)
  | _ => .bad
def TPt (F : Fx) (f : SPt) : L2.TO := fun σ H Q => ∃ C ρ g, R F C ρ g σ H ∧ match f ρ g with
  | .ok (o, g1) => ∀ H1, Ext F.r H H1 → R F C ρ g1 σ H1 → Q o H1
  | .exc c d g1 => ExcEnd F C c d g1
  | .bad => False
def cutD (xs : List D) (lo hi : Option Int) : List D := (xs.drop (HT.sIx xs.length 0 lo)).take (HT.sIx xs.length xs.length hi - HT.sIx xs.length 0 lo)
def D.cut (lo hi : Option Int) : D → Option D
  | .lst xs => some (.lst (cutD xs lo hi))
  | .tup xs => some (.tup (cutD xs lo hi))
  | .str s => if s.length ≤ sizeLine then some (.str (cutS s lo hi)) else none
  | _ => none
def vSl (fa : SE) (fl fh : SPt) : SE := fun ρ g => (fa ρ g).bind fun p => (fl ρ p.2).bind fun l => (fh ρ l.2).bind fun h => match p.1.cut l.1 h.1 with
  | some d => .ok (d, h.2)
  | none => .bad
section
variable {X : Cx} {F : Fx} {e a b : Expr} {es : List Expr} {fa fb f fc : SE} {fr : SEs} {pos p p2 : Pos} {lo hi : Option Expr} {fl fh : SPt}
theorem pt_n : PO X none (TPt F sN) := ⟨fun pins s σ H Q I h => po_none.run pins s σ H Q I (by
  obtain ⟨C, ρ, g, x, h⟩ := h
  exact h H .refl x)⟩
theorem pt_s (ha : PE X a (TB F fa)) : PO X (some a) (TPt F (sS fa)) := ⟨fun pins s σ H Q I h => (po_some ha).run pins s σ H Q I (by
  obtain ⟨C, ρ, g, x, h⟩ := h
  refine ⟨C, ρ, g, x, ?_⟩
  unfold sS at h
  cases q : fa ρ g with
  | bad => rw [q] at h; exact h
  | exc c d g => rw [q] at h; exact h
  | ok p =>
    rw [q] at h
    simp only [Res.bind_ok] at h
    intro v H1 e1 x1 w1
    cases q2 : p.1 <;> rw [q2] at h <;> first | exact h.elim | skip
    rw [q2] at w1
    exact ⟨_, w1, h H1 e1 x1⟩)⟩
theorem reps_cut {H S} {xs : List D} {vs : List V} (r : F.rps H S xs vs) (lo hi : Option Int) : F.rps H S (cutD xs lo hi) (cutV vs lo hi) := by
  unfold cutD cutV
  rw [r.length]
  exact (Reps.take _ (Reps.drop _ r))
/-- three in a row -/
theorem sl_tb {C : Ctx} {ρ : En} {g : G} {σ : St} {H : Hp} {Q : VK} {W : Hp → D → V → Prop} {r : V → Option Int → Option Int → Hp → Prop} (x : R F C ρ g σ H) (h : StepE F W C ρ σ H (vSl fa fl fh ρ g) Q)
    (hr : ∀ x y z d g v H1, Ext F.r H H1 → R F C ρ g σ H1 → RB F H1 (SO C ρ σ) x v → D.cut y z x = some d → StepE F W C ρ σ H1 (.ok (d, g)) Q → r v y z H1) :
    TB F fa σ H fun v H1 => TPt F fl σ H1 fun y H2 => TPt F fh σ H2 fun z H3 => r v y z H3 := by
  refine ⟨C, ρ, g, x, ?_⟩
  unfold vSl at h
  cases q : fa ρ g with
  | bad => rw [q] at h; exact h
  | exc c d g => rw [q] at h; exact h
  | ok p =>
    rw [q] at h
    simp only [Res.bind_ok] at h
    intro v H1 e1 x1 w1
    refine ⟨C, ρ, p.2, x1, ?_⟩
    cases q2 : fl ρ p.2 with
    | bad => rw [q2] at h; exact h
    | exc c d g => rw [q2] at h; exact h
    | ok l =>
      rw [q2] at h
      simp only [Res.bind_ok] at h
      intro H2 e2 x2
      refine ⟨C, ρ, l.2, x2, ?_⟩
      cases q3 : fh ρ l.2 with
      | bad => rw [q3] at h; exact h
      | exc c d g => rw [q3] at h; exact h
      | ok z =>
        rw [q3] at h
        simp only [Res.bind_ok] at h
        intro H3 e3 x3
        cases q4 : p.1.cut l.1 z.1 with
        | none => rw [q4] at h; exact h.elim
        | some d =>
          rw [q4] at h
          exact hr p.1 l.1 z.1 d z.2 v H3 (e1.trans (e2.trans e3)) x3 (w1.ext x.so (e2.trans e3)) q4 (StepE.ext h (e1.trans (e2.trans e3)))
theorem ve_slice (xf : XF X F) (ha : PE X a (TB F fa)) (hl : PO X lo (TPt F fl)) (hh : PO X hi (TPt F fh)) : PE X (.Subscript a (.Slice lo hi none p2) pos) (T F (vSl fa fl fh)) :=
  (pe_slice (sl_list.or (sl_tupA.or sl_str)) ha hl hh).imp fun σ H Q ⟨C, ρ, g, x, h⟩ => by
    refine sl_tb x h fun x y z d g v H1 e1 x1 w1 q st => ?_
    rw [xf.K]
    unfold D.cut at q
    split at q
    · cases q
      obtain ⟨a, vs, e, _, zz, l, k⟩ := w1
      exact .inl ⟨a, vs, e, SqL.of zz, fun p hp => st.new x1 hp ⟨p, _, rfl, x1.nso hp, upd_same, Nat.le_trans (cutV_length _ _ _) l, (reps_cut k y z).agr (agr_new hp)⟩⟩
    · cases q
      obtain ⟨a, vs, e, n, zz, l, k⟩ := w1
      refine .inr (.inl ⟨a, vs, e, SqT.of zz, fun hw => ?_, fun _ p hp => st.new x1 hp ⟨p, _, rfl, x1.nso hp, upd_same, Nat.le_trans (cutV_length _ _ _) l, (reps_cut k y z).agr (agr_new hp)⟩⟩)
      have e1 : cutV vs y z = vs := by
        unfold cutV
        rw [hw.1, hw.2]
        simp
      refine st.here x1 ⟨a, vs, rfl, n, zz, l, ?_⟩
      have k2 := reps_cut k y z
      rw [e1] at k2
      exact k2
    · split at q
      · cases q
        exact .inr (.inr ⟨_, w1, ‹_›, st.here x1 rfl⟩)
      · cases q
    · cases q
/-! ### o.f -/
/-- the class c of the module has no attribute of its own called f -/
def ClsF (F : Fx) (c f : Str) : Prop := ∀ C, F.mg c = some (.ref C) → Cls F.K C ∧ NoAttr F.K C f
def D.fld (c f : Str) : D → Option D
  | .ins c' fs => if c' = c then valD fs f else none
  | _ => none
theorem ve_fld {c f : Str} (xf : XF X F) (cf : ClsF F c f) (ha : PE X a (TB F fa)) (hb : attributeBase a f X.env (eval a X.env) = eval a X.env := by rfl) : PE X (.Attribute a f pos) (T F (v1 (pureK1 (D.fld c f)) fa)) :=
  (pe_fld ha hb).imp fun σ H Q ⟨C, ρ, g, x, h⟩ => by
    refine one_tb x h fun d g v H1 e1 x1 w1 st => ?_
    unfold pureK1 at st
    cases q : D.fld c f d with
    | none => rw [q] at st; exact st.elim
    | some d' =>
      rw [q] at st
      unfold D.fld at q
      split at q
      · split at q
        · rename_i hc
          subst hc
          obtain ⟨a, A, dx, ws, e, _, m, z, k⟩ := w1
          rcases repF_val f k with ⟨d2, w, h1, h2, h3⟩ | ⟨h1, h2⟩
          · rw [h1] at q
            cases q
            obtain ⟨c1, c2⟩ := cf A m
            rw [xf.K]
            exact ⟨a, A, dx, ws, w, e, z, c1, c2, h2, st.here x1 h3⟩
          · rw [h1] at q; cases q
        · cases q
      · cases q
/-! ### own defs -/
/-- the promise of a def of n parameters: it computes fs -/
def SpF (K : PySem.W.Frag) (mg : Str → Option Value) (T : List (Addr × Str)) (n : Nat) (fs : FS) : Sp := fun vs H Q E => ∃ (F : Fx) (S : Addr → Prop) (ds : List D) (g : G), F.K = K ∧ F.mg = mg ∧ F.T = T ∧ F.E = E ∧ vs.length = n ∧
  S F.r ∧ (∀ a, S a → H a ≠ none) ∧ SqL F.K H F.sc (F.ns.map V.int) ∧ F.scOk ∧ GAt F g H ∧ F.rps H S ds vs ∧
  match fs ds g with
  | .ok (d, g1) => ∀ v H', Ext F.r H H' → GAt F g1 H' → F.rp H' S d v → Q v H'
  | .exc c d g1 => ExcEnd F ⟨S, H⟩ c d g1
  | .bad => False
/-- a def that is called by its name -/
structure Cal (P : Program) (w : World) (K : PySem.W.Frag) (mg : Str → Option Value) (base : Heap) (T : List (Addr × Str)) (k : Nat) (x : Str) (n : Nat) (fs : FS) : Prop where
  ex : ∃ (f : Addr) (fd : FuncData) (ps : List Str), mg x = some (.ref f) ∧ FnOk P w K mg base (L2.CX P w) k f fd ps (SpF K mg T n fs) ∧ PySem.W.keepIn K (.ref f) = true ∧ Binds K fd ps []
/-- a method m of the class c -/
structure Met (P : Program) (w : World) (K : PySem.W.Frag) (mg : Str → Option Value) (base : Heap) (T : List (Addr × Str)) (k : Nat) (c m : Str) (n : Nat) (fs : FS) : Prop where
  ex : ∃ (C f : Addr) (fd : FuncData) (ps : List Str), mg c = some (.ref C) ∧ Cls K C ∧ L2.Meth K C m f ∧ FnOk P w K mg base (L2.CX P w) k f fd ps (SpF K mg T n fs) ∧ Binds K fd ps []
def vCall (fs : FS) (fr : SEs) : SE := fun ρ g => (fr ρ g).bind fun p => fs p.1 p.2
def vMeth (c m : Str) (fs : FS) (fo : SE) (fr : SEs) : SE := fun ρ g => (fo ρ g).bind fun p => match p.1 with
  | .ins c' fl => if c' = c ∧ valD fl m = none then (fr ρ p.2).bind fun q => fs (p.1 :: q.1) q.2 else .bad
  | _ => .bad
/-- the caller's side of a promise -/
theorem spf_of {C : Ctx} {ρ : En} {g : G} {σ : St} {H : Hp} {Q : VK} {n : Nat} {fs : FS} {ds : List D} {vs : List V} (x : R F C ρ g σ H) (w : F.rps H (SO C ρ σ) ds vs) (hn : vs.length = n)
    (h : StepE F (fun H1 d v => F.rp H1 (SO C ρ σ) d v) C ρ σ H (fs ds g) Q) : SpF F.K F.mg F.T n fs vs H Q F.E := by
  refine ⟨F, SO C ρ σ, ds, g, rfl, rfl, rfl, rfl, hn, x.so, fun a z => x.there z, x.sqH, x.ne, x.gl, w, ?_⟩
  cases q : fs ds g with
  | bad => rw [q] at h; exact h
  | exc c d g1 =>
    rw [q] at h
    exact fun A y v H' hm e gl hy hx r => h A y v H' hm (x.base.trans e) gl (x.base.free hy) hx (r.sub fun a z => .inl z)
  | ok p =>
    rw [q] at h
    exact fun v H' e gl r => h v H' e (x.ext e gl) r
theorem ve_call {k j n : Nat} {x : Str} {fs : FS} (xf : XF X F) (c : Cal X.prog X.w X.K X.mg X.base F.T k x n fs) (hr : Room j X.A) (hk : k ≤ j) (ha : PA X (a :: es) (TAs F fr)) (hn : (a :: es).length = n := by rfl) (hl : ∀ ρ g ds g1, fr ρ g = .ok (ds, g1) → ds.length = n)
    (hg : Gl X x := by rfl) (hdb : (x == ("__debug__" : Str)) = false := by decide) (he : starEach (a :: es) X.env = (false, eval a X.env) :: starEach es X.env := by rfl) (hpl : (backTo pos (starEach es X.env)).any (·.1) = false := by rfl) :
    PE X (.Call (.Name x p) (a :: es) [] pos) (T F (vCall fs fr)) := by
  obtain ⟨f, fd, ps, hm, Fn, kp, b⟩ := c.ex
  refine (pe_call Fn (hr.mono hk) hg hm kp b .nil (passes_call xf.tk fun _ _ _ _ z => z) ha hdb he hpl).imp fun σ H Q ⟨C, ρ, g, x, h⟩ => ?_
  refine ⟨C, ρ, g, x, ?_⟩
  unfold vCall at h
  cases q : fr ρ g with
  | bad => rw [q] at h; exact h
  | exc c d g => rw [q] at h; exact h
  | ok p =>
    rw [q] at h
    simp only [Res.bind_ok] at h
    intro vs H1 e1 x1 w1
    rw [List.append_nil, xf.K, xf.mg]
    exact spf_of x1 w1 (by rw [← w1.length]; exact hl _ _ _ _ q) (StepE.ext h e1)
theorem ve_meth {k j n : Nat} {cl m : Str} {fs : FS} {fo : SE} {o : Expr} {apos : Pos} {pl : Sem Bool} (xf : XF X F) (c : Met X.prog X.w X.K X.mg X.base F.T k cl m (n + 1) fs) (hr : Room j X.A) (hk : k ≤ j) (ho : PE X o (T F fo)) (ha : PA X (a :: es) (TAs F fr)) (hl : ∀ ρ g ds g1, fr ρ g = .ok (ds, g1) → ds.length = n)
    (hst : starEach (a :: es) X.env = (false, eval a X.env) :: starEach es X.env := by rfl) (hpl : (backTo pos (starEach es X.env)).any (·.1) = false := by rfl)
    (ht : eval (.Call (.Attribute o m apos) (a :: es) [] pos) X.env = (do
      let ov ← eval o X.env
      standAt apos.atName
      let (f, first) ← holding [ov] (getMethod ov m pl)
      callWith pos f first (backTo pos (starEach (a :: es) X.env)) (backToKw pos (keywordEach [] X.env))) := by rfl) :
    PE X (.Call (.Attribute o m apos) (a :: es) [] pos) (T F (vMeth cl m fs fo fr)) := by
  obtain ⟨A, f, fd, ps, hm, hc, hme, Fn, b⟩ := c.ex
  refine (pe_meth (pl := pl) ho hc hme Fn (hr.mono hk) b .nil (passes_call xf.tk fun _ _ _ _ z => z) ha hst hpl ht).imp fun σ H Q ⟨C, ρ, g, x, h⟩ => ?_
  refine ⟨C, ρ, g, x, ?_⟩
  unfold vMeth at h
  cases q : fo ρ g with
  | bad => rw [q] at h; exact h
  | exc c d g => rw [q] at h; exact h
  | ok p =>
    rw [q] at h
    simp only [Res.bind_ok] at h
    intro v H1 e1 x1 w1
    split at h
    · rename_i c' fl hp
      split at h
      · rename_i hcl
        have w1' := w1
        rw [hp] at w1
        obtain ⟨a', A', dx, ws, e, na, m', z, k⟩ := w1
        rw [hcl.1, ← xf.mg, hm] at m'
        cases m'
        refine ⟨a', dx, ws, e, z, ?_, C, ρ, p.2, x1, ?_⟩
        · rcases repF_val m k with ⟨d2, w, h1, h2, h3⟩ | ⟨h1, h2⟩
          · rw [h1] at hcl; cases hcl.2
          · exact h2
        · cases q2 : fr ρ p.2 with
          | bad => rw [q2] at h; exact h
          | exc c d g => rw [q2] at h; exact h
          | ok p2 =>
            rw [q2] at h
            simp only [Res.bind_ok] at h
            intro vs H2 e2 x2 w2
            rw [List.append_nil, xf.K, xf.mg]
            exact spf_of x2 (ds := p.1 :: p2.1) ⟨v, vs, rfl, w1'.agr (e2.agr x1.so), w2⟩ (by rw [List.length_cons, ← w2.length, hl _ _ _ _ q2]) (StepE.ext h (e1.trans e2))
      · exact h.elim
    · exact h.elim
/-- as many arguments as are written -/
theorem len_nil : ∀ ρ g ds g1, aNil ρ g = .ok (ds, g1) → ds.length = 0 := fun _ _ _ _ h => by cases h; rfl
theorem len_cons {n : Nat} (h : ∀ ρ g ds g1, fr ρ g = .ok (ds, g1) → ds.length = n) : ∀ ρ g ds g1, aCons fa fr ρ g = .ok (ds, g1) → ds.length = n + 1 := fun ρ g ds g1 q => by
  unfold aCons at q
  cases q1 : fa ρ g with
  | bad => rw [q1] at q; cases q
  | exc c d g => rw [q1] at q; cases q
  | ok p =>
    rw [q1] at q
    simp only [Res.bind_ok] at q
    cases q2 : fr ρ p.2 with
    | bad => rw [q2] at q; cases q
    | exc c d g => rw [q2] at q; cases q
    | ok p2 => rw [q2] at q; cases q; simp [h _ _ _ _ q2]
end
end RP
end L2
set_option Elab.async false
set_option linter.all false
set_option maxRecDepth 100000
/-! R9: statements. -/
namespace L2
namespace RP
open PySem PySem.Spec PyProof.Rows

/-- what a statement's end brings -/
def EndS (F : Fx) (C : Ctx) (D : Ends) : Res (Fl × En × G) → Prop
  | .ok (.nx, ρ, g) => ∀ σ H, R F C ρ g σ H → D.nx σ H
  | .ok (.brk, ρ, g) => ∀ σ H, R F C ρ g σ H → D.bk σ H
  | .ok (.cont, ρ, g) => ∀ σ H, R F C ρ g σ H → D.ct σ H
  | .ok (.ret d, _, g) => ∀ v H, Ext F.r C.H0 H → GAt F g H → F.rp H C.S d v → D.rt v H
  | .exc c d g => ExcEnd F C c d g
  | .bad => False
/-- a statement computes f -/
def TS1 (F : Fx) (f : SS) : TS := fun D σ H => ∃ C ρ g, R F C ρ g σ H ∧ EndS F C D (f ρ g)

section
variable {F : Fx} {C C' : Ctx} {ρ ρ' : En} {g g' : G} {σ σ' : St} {H H' H1 : Hp} {S S' : Addr → Prop} {d d' : D} {v : V} {a p : Addr} {o : HO} {i : Nat}
theorem R.lt (x : R F C ρ g σ H) {s : Slot} (h : ρ[i]? = some s) : i < σ.length := by rw [← x.len]; exact (List.getElem?_eq_some_iff.mp h).1
theorem ownA_set_frz (h : OwnA (ρ.set i (.frz d)) (σ.set i (some v)) a) : OwnA ρ σ a := by
  obtain ⟨j, e, h1, h2⟩ := h
  have hij : i ≠ j := by
    rintro rfl
    rw [List.getElem?_set] at h1
    split at h1
    · split at h1 <;> cases h1
    · rename_i hn; exact hn rfl
  rw [List.getElem?_set_ne hij] at h1 h2
  exact ⟨j, e, h1, h2⟩
/-- a name gets a value that is no longer changed -/
theorem R.setFrz (x : R F C ρ g σ H) (hi : i < ρ.length) (w : F.rp H (SO C ρ σ) d v) : R F C (ρ.set i (.frz d)) g (σ.set i (some v)) H := by
  have sub : ∀ a, SO C (ρ.set i (.frz d)) (σ.set i (some v)) a → SO C ρ σ a := fun a z => z.elim .inl fun z => .inr (ownA_set_frz z)
  have hσ : i < σ.length := by rw [← x.len]; exact hi
  refine ⟨x.sr, x.sd, x.sq, x.ne, x.base, x.gl, by simp [x.len], fun j e h => ?_, fun j e h => ?_, fun j k e1 e2 a h1 h2 h3 h4 => ?_⟩
  · by_cases hij : i = j
    · subst hij
      rw [List.getElem?_set_self hi] at h
      cases h
      exact ⟨v, List.getElem?_set_self hσ, w.sub sub⟩
    · rw [List.getElem?_set_ne hij] at h
      obtain ⟨u, h1, h2⟩ := x.frz j e h
      exact ⟨u, by rw [List.getElem?_set_ne hij]; exact h1, h2.sub sub⟩
  · have hij : i ≠ j := by
      rintro rfl
      rw [List.getElem?_set_self hi] at h
      cases h
    rw [List.getElem?_set_ne hij] at h
    obtain ⟨a, h1, h2, h3⟩ := x.own j e h
    exact ⟨a, by rw [List.getElem?_set_ne hij]; exact h1, h2, h3.sub sub⟩
  · have ne : ∀ j e, (ρ.set i (Slot.frz d))[j]? = some (.own e) → i ≠ j := fun j e h z => by
      subst z
      rw [List.getElem?_set_self hi] at h
      cases h
    have n1 := ne j e1 h1
    have n2 := ne k e2 h2
    rw [List.getElem?_set_ne n1] at h1 h3
    rw [List.getElem?_set_ne n2] at h2 h4
    exact x.inj j k e1 e2 a h1 h2 h3 h4
/-- a name gets a new thing of its own -/
theorem R.setOwn (x : R F C ρ g σ H) (hi : i < ρ.length) (hp : H p = none) (e : Ext F.r H H1) (gl : GAt F g' H1) (w : RepO F H1 (fun a => SO C ρ σ a ∨ a = p) d p) : R F C (ρ.set i (.own d)) g' (σ.set i (some (.ref p))) H1 := by
  have hσ : i < σ.length := by rw [← x.len]; exact hi
  have old : ∀ a, OwnA (ρ.set i (.own d)) (σ.set i (some (.ref p))) a → OwnA ρ σ a ∨ a = p := fun a ⟨j, f, h1, h2⟩ => by
    by_cases hij : i = j
    · subst hij
      rw [List.getElem?_set_self hσ] at h2
      cases h2
      exact .inr rfl
    · rw [List.getElem?_set_ne hij] at h1 h2
      exact .inl ⟨j, f, h1, h2⟩
  have sub : ∀ a, SO C (ρ.set i (.own d)) (σ.set i (some (.ref p))) a → SO C ρ σ a ∨ a = p := fun a z => z.elim (fun z => .inl (.inl z)) fun z => (old a z).elim (fun z => .inl (.inr z)) .inr
  have y := x.ext e gl
  have up : ∀ {d v}, F.rp H (SO C ρ σ) d v → F.rp H1 (fun a => SO C ρ σ a ∨ a = p) d v := fun {d v} h =>
    (Rep.sup (S' := fun a => SO C ρ σ a ∨ a = p) (fun a z => z.elim .inl fun z => .inr (z ▸ hp)) h).agr (e.agr (.inl x.so))
  refine ⟨x.sr, x.sd, x.sq, x.ne, y.base, gl, by simp [x.len], fun j f h => ?_, fun j f h => ?_, fun j k e1 e2 a h1 h2 h3 h4 => ?_⟩
  · have hij : i ≠ j := by
      rintro rfl
      rw [List.getElem?_set_self hi] at h
      cases h
    rw [List.getElem?_set_ne hij] at h
    obtain ⟨u, h1, h2⟩ := x.frz j f h
    exact ⟨u, by rw [List.getElem?_set_ne hij]; exact h1, (up h2).sub sub⟩
  · by_cases hij : i = j
    · subst hij
      rw [List.getElem?_set_self hi] at h
      cases h
      exact ⟨p, List.getElem?_set_self hσ, x.base.free hp, w.sub sub⟩
    · rw [List.getElem?_set_ne hij] at h
      obtain ⟨a, h1, h2, h3⟩ := x.own j f h
      have hr : a ≠ F.r := fun z => x.own_ne ⟨j, f, h, h1⟩ (z ▸ x.sr)
      refine ⟨a, by rw [List.getElem?_set_ne hij]; exact h1, h2, ?_⟩
      have h4 : RepO F H (fun a => SO C ρ σ a ∨ a = p) f a := by
        cases f with
        | lst xs => obtain ⟨vs, q, z, k⟩ := h3; exact ⟨vs, q, z, Reps.sup (fun a z => z.elim .inl fun z => .inr (z ▸ hp)) k⟩
        | dk xs => obtain ⟨vs, q, z, k⟩ := h3; exact ⟨vs, q, z, RepK.sup (fun a z => z.elim .inl fun z => .inr (z ▸ hp)) k⟩
        | dt xs => obtain ⟨vs, q, z, k⟩ := h3; exact ⟨vs, q, z, RepT.sup (fun a z => z.elim .inl fun z => .inr (z ▸ hp)) k⟩
        | ins c fs => obtain ⟨C1, dx, ws, m, q, k⟩ := h3; exact ⟨C1, dx, ws, m, q, RepF.sup (fun a z => z.elim .inl fun z => .inr (z ▸ hp)) k⟩
        | _ => exact h3.elim
      exact (h4.agr (e.agr (.inl x.so)) fun u hu nt => e.keep a u hu hr nt).sub sub
  · have isp : ∀ j e a, (ρ.set i (Slot.own d))[j]? = some (.own e) → (σ.set i (some (V.ref p)))[j]? = some (some (.ref a)) → (i = j ∧ a = p) ∨ (i ≠ j ∧ ρ[j]? = some (.own e) ∧ σ[j]? = some (some (.ref a)) ∧ a ≠ p) := fun j e a h1 h2 => by
      by_cases hij : i = j
      · subst hij
        rw [List.getElem?_set_self hσ] at h2
        cases h2
        exact .inl ⟨rfl, rfl⟩
      · rw [List.getElem?_set_ne hij] at h1 h2
        refine .inr ⟨hij, h1, h2, fun z => ?_⟩
        subst z
        exact x.there (.inr ⟨j, e, h1, h2⟩) hp
    rcases isp j e1 a h1 h3 with ⟨z1, z2⟩ | ⟨z1, q1, q2, z2⟩
    · rcases isp k e2 a h2 h4 with ⟨y1, y2⟩ | ⟨y1, r1, r2, y2⟩
      · exact z1.symm.trans y1
      · exact absurd z2 y2
    · rcases isp k e2 a h2 h4 with ⟨y1, y2⟩ | ⟨y1, r1, r2, y2⟩
      · exact absurd y2 z2
      · exact x.inj j k e1 e2 a q1 r1 q2 r2
/-- an own thing is no longer changed from now on -/
theorem R.freeze (x : R F C ρ g σ H) (h : ρ[i]? = some (.own d)) (nd : d.noDict = true) : R F C (ρ.set i (.frz d)) g σ H := by
  obtain ⟨a, e1, e2, e3⟩ := x.own i d h
  have hi : i < ρ.length := (List.getElem?_eq_some_iff.mp h).1
  have ne : ∀ j e, (ρ.set i (Slot.frz d))[j]? = some (.own e) → i ≠ j := fun j e h z => by
    subst z
    rw [List.getElem?_set_self hi] at h
    cases h
  have sub : ∀ b, SO C (ρ.set i (.frz d)) σ b → SO C ρ σ b := fun b z => z.elim .inl fun ⟨j, e, h1, h2⟩ => by
    have n := ne j e h1
    rw [List.getElem?_set_ne n] at h1
    exact .inr ⟨j, e, h1, h2⟩
  have na : ¬ SO C (ρ.set i (.frz d)) σ a := fun z => z.elim (x.own_ne ⟨i, d, h, e1⟩) fun ⟨j, e, h1, h2⟩ => by
    have n := ne j e h1
    rw [List.getElem?_set_ne n] at h1
    exact n (x.inj i j d e a h h1 e1 h2)
  refine ⟨x.sr, x.sd, x.sq, x.ne, x.base, x.gl, by simp [x.len], fun j f h' => ?_, fun j f h' => ?_, fun j k f1 f2 b h1 h2 h3 h4 => ?_⟩
  · by_cases hij : i = j
    · subst hij
      rw [List.getElem?_set_self hi] at h'
      cases h'
      exact ⟨.ref a, e1, (e3.sub sub).rep na nd⟩
    · rw [List.getElem?_set_ne hij] at h'
      obtain ⟨u, h1, h2⟩ := x.frz j f h'
      exact ⟨u, h1, h2.sub sub⟩
  · have n := ne j f h'
    rw [List.getElem?_set_ne n] at h'
    obtain ⟨b, h1, h2, h3⟩ := x.own j f h'
    exact ⟨b, h1, h2, h3.sub sub⟩
  · have n1 := ne j f1 h1
    have n2 := ne k f2 h2
    rw [List.getElem?_set_ne n1] at h1
    rw [List.getElem?_set_ne n2] at h2
    exact x.inj j k f1 f2 b h1 h2 h3 h4
/-- an own thing is locked and kept -/
theorem R.freezeU (x : R F C ρ g σ H) (h : ρ[i]? = some (.own d)) (e1 : σ[i]? = some (some (.ref a))) (w : ∀ S : Addr → Prop, (∀ b, S b → SO C ρ σ b) → ¬ S a → F.rp (upd H a o) S d (.ref a)) : R F C (ρ.set i (.frz d)) g σ (upd H a o) := by
  obtain ⟨a', e1', e2, e3⟩ := x.own i d h
  rw [e1] at e1'; cases e1'
  have hi : i < ρ.length := (List.getElem?_eq_some_iff.mp h).1
  have ow : OwnA ρ σ a := ⟨i, d, h, e1⟩
  have ne : ∀ j e, (ρ.set i (Slot.frz d))[j]? = some (.own e) → i ≠ j := fun j e h z => by
    subst z
    rw [List.getElem?_set_self hi] at h
    cases h
  have sub : ∀ b, SO C (ρ.set i (.frz d)) σ b → SO C ρ σ b := fun b z => z.elim .inl fun ⟨j, e, h1, h2⟩ => by
    have n := ne j e h1
    rw [List.getElem?_set_ne n] at h1
    exact .inr ⟨j, e, h1, h2⟩
  have na : ¬ SO C (ρ.set i (.frz d)) σ a := fun z => z.elim (x.own_ne ow) fun ⟨j, e, h1, h2⟩ => by
    have n := ne j e h1
    rw [List.getElem?_set_ne n] at h1
    exact n (x.inj i j d e a h h1 e1 h2)
  have ag : Agr (SO C ρ σ) H (L2.upd H a o) := agr_upd (.inr ow)
  have hr : a ≠ F.r := fun z => x.own_ne ow (z ▸ x.sr)
  obtain ⟨u0, hu0, nt0, ne0⟩ := e3.there
  refine ⟨x.sr, x.sd, x.sq, x.ne, ⟨fun b u q n t => ?_, fun b q => ?_⟩, ⟨by rw [upd_ne (Ne.symm hr)]; exact x.gl.row, tabs_upd x.gl.tab (.inr ⟨u0, hu0, nt0, ne0⟩), x.gl.ns⟩, by simp [x.len], fun j f h' => ?_, fun j f h' => ?_, fun j k f1 f2 b h1 h2 h3 h4 => ?_⟩
  · rw [upd_ne (fun z : b = a => by rw [z, e2] at q; cases q)]
    exact x.base.keep b u q n t
  · unfold L2.upd
    split
    · simp
    · exact x.base.dom b q
  · by_cases hij : i = j
    · subst hij
      rw [List.getElem?_set_self hi] at h'
      cases h'
      exact ⟨.ref a, e1, w _ sub na⟩
    · rw [List.getElem?_set_ne hij] at h'
      obtain ⟨u, h1, h2⟩ := x.frz j f h'
      exact ⟨u, h1, (h2.agr ag).sub sub⟩
  · have n := ne j f h'
    rw [List.getElem?_set_ne n] at h'
    obtain ⟨b, h1, h2, h3⟩ := x.own j f h'
    have nb : b ≠ a := fun z => n (x.inj i j d f a h h' e1 (z ▸ h1))
    exact ⟨b, h1, h2, (h3.agr ag fun u hu _ => by rw [upd_ne nb]; exact hu).sub sub⟩
  · have n1 := ne j f1 h1
    have n2 := ne k f2 h2
    rw [List.getElem?_set_ne n1] at h1
    rw [List.getElem?_set_ne n2] at h2
    exact x.inj j k f1 f2 b h1 h2 h3 h4
/-- an own thing is changed -/
theorem R.upd (x : R F C ρ g σ H) (h : ρ[i]? = some (.own d)) (e1 : σ[i]? = some (some (.ref a))) (w : RepO F (upd H a o) (SO C ρ σ) d' a) : R F C (ρ.set i (.own d')) g σ (upd H a o) := by
  obtain ⟨a', e1', e2, e3⟩ := x.own i d h
  rw [e1] at e1'; cases e1'
  have hi : i < ρ.length := (List.getElem?_eq_some_iff.mp h).1
  have ow : OwnA ρ σ a := ⟨i, d, h, e1⟩
  have eq : ∀ b, OwnA (ρ.set i (.own d')) σ b → OwnA ρ σ b := fun b ⟨j, e, h1, h2⟩ => by
    by_cases hij : i = j
    · subst hij; exact ⟨i, d, h, h2⟩
    · rw [List.getElem?_set_ne hij] at h1; exact ⟨j, e, h1, h2⟩
  have sub : ∀ b, SO C (ρ.set i (.own d')) σ b → SO C ρ σ b := fun b z => z.elim .inl fun z => .inr (eq b z)
  have ag : Agr (SO C ρ σ) H (L2.upd H a o) := agr_upd (.inr ow)
  have hr : a ≠ F.r := fun z => x.own_ne ow (z ▸ x.sr)
  obtain ⟨u0, hu0, nt0, ne0⟩ := e3.there
  refine ⟨x.sr, x.sd, x.sq, x.ne, ⟨fun b u q n t => ?_, fun b q => ?_⟩, ⟨by rw [upd_ne (Ne.symm hr)]; exact x.gl.row, tabs_upd x.gl.tab (.inr ⟨u0, hu0, nt0, ne0⟩), x.gl.ns⟩, by simp [x.len], fun j f h' => ?_, fun j f h' => ?_, fun j k f1 f2 b h1 h2 h3 h4 => ?_⟩
  · rw [upd_ne (fun z : b = a => by rw [z, e2] at q; cases q)]
    exact x.base.keep b u q n t
  · unfold L2.upd
    split
    · simp
    · exact x.base.dom b q
  · have hij : i ≠ j := by
      rintro rfl
      rw [List.getElem?_set_self hi] at h'
      cases h'
    rw [List.getElem?_set_ne hij] at h'
    obtain ⟨u, h1, h2⟩ := x.frz j f h'
    exact ⟨u, h1, (h2.agr ag).sub sub⟩
  · by_cases hij : i = j
    · subst hij
      rw [List.getElem?_set_self hi] at h'
      cases h'
      exact ⟨a, e1, e2, w.sub sub⟩
    · rw [List.getElem?_set_ne hij] at h'
      obtain ⟨b, h1, h2, h3⟩ := x.own j f h'
      have nb : b ≠ a := fun z => hij (x.inj i j d f a h h' e1 (z ▸ h1))
      exact ⟨b, h1, h2, (h3.agr ag fun u hu _ => by rw [upd_ne nb]; exact hu).sub sub⟩
  · have back : ∀ (j : Nat) (f : D), (ρ.set i (Slot.own d'))[j]? = some (.own f) → ∃ f', ρ[j]? = some (.own f') := fun j f q => by
      by_cases hij : i = j
      · subst hij; exact ⟨d, h⟩
      · rw [List.getElem?_set_ne hij] at q; exact ⟨f, q⟩
    obtain ⟨f1', q1⟩ := back j f1 h1
    obtain ⟨f2', q2⟩ := back k f2 h2
    exact x.inj j k f1' f2' b q1 q2 h3 h4
end

/-! ### statements -/
def sNil : SS := fun ρ g => .ok (.nx, ρ, g)
def sSeq (s t : SS) : SS := fun ρ g => match s ρ g with
  | .ok (.nx, ρ1, g1) => t ρ1 g1
  | r => r
def sSet (i : Nat) (f : SE) : SS := fun ρ g => (f ρ g).bind fun p => if i < ρ.length then .ok (.nx, ρ.set i (.frz p.1), p.2) else .bad
def sOwn (i : Nat) (f : SE) : SS := fun ρ g => (f ρ g).bind fun p => if i < ρ.length then .ok (.nx, ρ.set i (.own p.1), p.2) else .bad
/-- slot i is no longer changed, then s -/
def sFz (i : Nat) (s : SS) : SS := fun ρ g => match ρ[i]? with
  | some (.own d) => s (ρ.set i (.frz d)) g
  | _ => s ρ g
def sExpr (f : SE) : SS := fun ρ g => (f ρ g).bind fun p => .ok (.nx, ρ, p.2)
def sRet (f : SE) : SS := fun ρ g => (f ρ g).bind fun p => .ok (.ret p.1, ρ, p.2)
def sIf (c : SE) (s t : SS) : SS := fun ρ g => (c ρ g).bind fun p => match p.1.truth with
  | some true => s ρ p.2
  | some false => t ρ p.2
  | none => .bad
def sBrk : SS := fun ρ g => .ok (.brk, ρ, g)
section
variable {X : Cx} {F : Fx} {e a b c : Expr} {es : List Expr} {fa fb f fc : SE} {fr : SEs} {pos p : Pos} {st : Stmt} {rest sa sb : List Stmt} {s t : SS}
theorem ss_nil : PSs X [] (TS1 F sNil) := pss_nil.imp fun D σ H ⟨C, ρ, g, x, h⟩ => h σ H x
theorem TS1.seq {D : Ends} {σ : St} {H : Hp} (h : TS1 F (sSeq s t) D σ H) : tSeq (TS1 F s) (TS1 F t) D σ H := by
  obtain ⟨C, ρ, g, x, h⟩ := h
  refine ⟨C, ρ, g, x, ?_⟩
  unfold sSeq at h
  cases q : s ρ g with
  | bad => rw [q] at h; exact h
  | exc c d g => rw [q] at h; exact h
  | ok r =>
    obtain ⟨fl, ρ1, g1⟩ := r
    rw [q] at h
    cases fl with
    | nx => exact fun σ' H' x' => ⟨C, ρ1, g1, x', h⟩
    | brk => exact h
    | cont => exact h
    | ret d => exact h
theorem ss_cons (h1 : PS X st (TS1 F s)) (h2 : PSs X rest (TS1 F t)) : PSs X (st :: rest) (TS1 F (sSeq s t)) := (pss_cons h1 h2).imp fun D σ H h => h.seq
theorem ss_one (h1 : PS X st (TS1 F s)) : PSs X [st] (TS1 F s) := pss_one h1
theorem ss_fz (i : Nat) (h : PS X st (TS1 F s)) : PS X st (TS1 F (sFz i s)) := ⟨fun pins s0 σ H D I ⟨C, ρ, g, x, hh⟩ => by
  unfold sFz at hh
  split at hh
  · rename_i d hd
    obtain ⟨a, e1, e2, e3⟩ := x.own i d hd
    cases d with
    | dk kvs =>
      obtain ⟨ws, q1, q2, q3⟩ := e3
      obtain ⟨od, I2⟩ := I.lock q1 True.intro
      exact h.run pins s0 σ _ D I2 ⟨C, _, g, x.freezeU hd e1 (fun S sub na => ⟨a, ws, rfl, na, ⟨od, upd_same⟩, q2, (q3.agr (agr_upd (.inr ⟨i, _, hd, e1⟩))).sub sub⟩), hh⟩
    | dt kvs =>
      obtain ⟨ws, q1, q2, q3⟩ := e3
      obtain ⟨od, I2⟩ := I.lock q1 True.intro
      exact h.run pins s0 σ _ D I2 ⟨C, _, g, x.freezeU hd e1 (fun S sub na => ⟨a, ws, rfl, na, ⟨od, upd_same⟩, q2, (q3.agr (agr_upd (.inr ⟨i, _, hd, e1⟩))).sub sub⟩), hh⟩
    | _ => exact h.run pins s0 σ H D I ⟨C, _, g, x.freeze hd rfl, hh⟩
  · exact h.run pins s0 σ H D I ⟨C, ρ, g, x, hh⟩⟩
theorem set_T {i : Nat} {D : Ends} {σ : St} {H : Hp} (h : TS1 F (sSet i f) D σ H) : T F f σ H fun v H1 => gName i v σ H1 D.nx := by
  obtain ⟨C, ρ, g, x, h⟩ := h
  refine ⟨C, ρ, g, x, ?_⟩
  unfold sSet at h
  cases q : f ρ g with
  | bad => rw [q] at h; exact h
  | exc c d g => rw [q] at h; exact h
  | ok r =>
    rw [q] at h
    simp only [Res.bind_ok] at h
    intro v H1 e1 x1 w1
    split at h
    · exact h _ _ (x1.setFrz ‹_› w1)
    · exact h.elim
theorem own_T {i : Nat} {D : Ends} {σ : St} {H : Hp} (h : TS1 F (sOwn i f) D σ H) : TO F f σ H fun v H1 => gName i v σ H1 D.nx := by
  obtain ⟨C, ρ, g, x, h⟩ := h
  refine ⟨C, ρ, g, x, ?_⟩
  unfold sOwn at h
  cases q : f ρ g with
  | bad => rw [q] at h; exact h
  | exc c d g => rw [q] at h; exact h
  | ok r =>
    rw [q] at h
    simp only [Res.bind_ok] at h
    intro v H1 e1 x1 ⟨p, e, hp, w⟩
    subst e
    split at h
    · exact h _ _ (x.setOwn ‹_› hp e1 x1.gl w)
    · exact h.elim
/-- name = value -/
theorem ss_set {i : Nat} {x : Str} {pos' : Pos} (xf : XF X F) (he : PE X e (T F f)) (hi : X.N[i]? = some x := by rfl) (hx : Loc X.env.scope x := by first | exact Or.inl rfl | exact Or.inr rfl) (hs : swapsWith e (some (.Name x pos')) pos.line X.env = pure false := by rfl)
    (hf : X.fn x = true ∨ X.env.scope.names.lookup x = some .local := by first | exact .inl rfl | exact .inr rfl) : PS X (.Assign [.Name x pos'] e pos) (TS1 F (sSet i f)) :=
  (ps_set xf.N hi hx he hs hf).imp fun D σ H h => set_T h
theorem ss_own {i : Nat} {x : Str} {pos' : Pos} (xf : XF X F) (he : PE X e (TO F f)) (hi : X.N[i]? = some x := by rfl) (hx : Loc X.env.scope x := by first | exact Or.inl rfl | exact Or.inr rfl) (hs : swapsWith e (some (.Name x pos')) pos.line X.env = pure false := by rfl)
    (hf : X.fn x = true ∨ X.env.scope.names.lookup x = some .local := by first | exact .inl rfl | exact .inr rfl) : PS X (.Assign [.Name x pos'] e pos) (TS1 F (sOwn i f)) :=
  (ps_set xf.N hi hx he hs hf).imp fun D σ H h => own_T h
theorem ss_expr (he : PE X e (T F f)) (hs : swapsWith e none pos.line X.env = pure false := by rfl) : PS X (.Expr e pos) (TS1 F (sExpr f)) := (ps_expr he hs).imp fun D σ H ⟨C, ρ, g, x, h⟩ => by
  refine ⟨C, ρ, g, x, ?_⟩
  unfold sExpr at h
  cases q : f ρ g with
  | bad => rw [q] at h; exact h
  | exc c d g => rw [q] at h; exact h
  | ok r => rw [q] at h; exact fun v H1 e1 x1 w1 => h _ _ x1
theorem ss_ret (he : PE X e (T F f)) : PS X (.Return (some e) pos) (TS1 F (sRet f)) := (ps_ret he).imp fun D σ H ⟨C, ρ, g, x, h⟩ => by
  refine ⟨C, ρ, g, x, ?_⟩
  unfold sRet at h
  cases q : f ρ g with
  | bad => rw [q] at h; exact h
  | exc c d g => rw [q] at h; exact h
  | ok r => rw [q] at h; exact fun v H1 e1 x1 w1 => h v H1 x1.base x1.gl (w1.sub fun a z => .inl z)
theorem ss_if (hc : PT X c (TQ F fc)) (ha : PSs X sa (TS1 F s)) (hb : PSs X sb (TS1 F t)) : PS X (.If c sa sb pos) (TS1 F (sIf fc s t)) := (ps_if hc ha hb).imp fun D σ H ⟨C, ρ, g, x, h⟩ => by
  refine ⟨C, ρ, g, x, ?_⟩
  unfold sIf at h
  cases q : fc ρ g with
  | bad => rw [q] at h; exact h
  | exc c d g => rw [q] at h; exact h
  | ok p =>
    rw [q] at h
    simp only [Res.bind_ok] at h
    cases q2 : p.1.truth with
    | none => rw [q2] at h; exact h.elim
    | some k =>
      rw [q2] at h
      refine ⟨k, q2, fun H1 e1 x1 => ?_⟩
      cases k with
      | true => exact ⟨C, ρ, p.2, x1, h⟩
      | false => exact ⟨C, ρ, p.2, x1, h⟩
theorem ss_brk : PS X (.Break pos) (TS1 F sBrk) := ps_break.imp fun D σ H ⟨C, ρ, g, x, h⟩ => h σ H x
end
end RP
end L2
set_option Elab.async false
set_option linter.all false
set_option maxRecDepth 100000
/-! R10: a state's ground moved on; several values at once; targets; raise. -/
namespace L2
namespace RP
open PySem PySem.Spec PyProof.Rows

open Classical in
/-- what stands and is not the frame's own -/
noncomputable def restr (ρ : En) (σ : St) (H : Hp) : Hp := fun b => if OwnA ρ σ b then none else H b
/-- the ground moved on to H -/
noncomputable abbrev Ctx.now (C : Ctx) (ρ : En) (σ : St) (H : Hp) : Ctx := ⟨C.S, restr ρ σ H⟩
/-- .. and the new thing at p kept apart -/
noncomputable abbrev Ctx.park (C : Ctx) (ρ : En) (σ : St) (H : Hp) (p : Addr) : Ctx := ⟨fun a => C.S a ∨ a = p, restr ρ σ H⟩
section
variable {F : Fx} {C C' : Ctx} {ρ ρ' : En} {g g' : G} {σ σ' : St} {H H' H1 H2 : Hp} {S S' : Addr → Prop} {d d' : D} {v : V} {a p : Addr} {o : HO} {i : Nat} {c : Str} {Q : VK} {D0 : Ends}
theorem restr_of (h : ¬ OwnA ρ σ a) : restr ρ σ H a = H a := if_neg h
theorem restr_some (h : restr ρ σ H a = some o) : H a = some o ∧ ¬ OwnA ρ σ a := by
  unfold restr at h
  split at h
  · cases h
  · exact ⟨h, ‹_›⟩
theorem restr_none (h : restr ρ σ H a = none) : OwnA ρ σ a ∨ H a = none := by
  unfold restr at h
  split at h
  · exact .inl ‹_›
  · exact .inr h
theorem restr_ext : ∀ b o, restr ρ σ H b = some o → H b = some o := fun b o h => (restr_some h).1
theorem R.base_restr (x : R F C ρ g σ H) : Ext F.r C.H0 (restr ρ σ H) := by
  have k : ∀ b, C.H0 b ≠ none → restr ρ σ H b = H b := fun b h => restr_of fun ⟨i, d, h1, h2⟩ => by
    obtain ⟨a, e, n, _⟩ := x.own i d h1
    rw [h2] at e; cases e
    exact h n
  exact ⟨fun b o h n t => by rw [k b (by rw [h]; simp)]; exact x.base.keep b o h n t, fun b h => by rw [k b h]; exact x.base.dom b h⟩
theorem R.none0 (x : R F C ρ g σ H) (h : restr ρ σ H a = none) : C.H0 a = none := x.base_restr.free h
theorem ext_restr : Ext F.r (restr ρ σ H) H := ⟨fun b o h _ _ => (restr_some h).1, fun b h z => by
  cases q : restr ρ σ H b with
  | none => exact h q
  | some o => rw [(restr_some q).1] at z; cases z⟩
theorem sql_keep {K : PySem.W.Frag} {a r : Addr} {xs : List V} (e : Ext r H H') (n : a ≠ r) (h : SqL K H a xs) : SqL K H' a xs := by
  rcases h with (h | ⟨ob, h⟩) | h
  · exact .inl (.inl (e.keep _ _ h n nt_lst))
  · exact .inl (.inr ⟨ob, e.keep _ _ h n nt_frz⟩)
  · exact .inr h
theorem sql_keep2 {K : PySem.W.Frag} {a r : Addr} {xs : List V} (e : Ext r H H') (n : a ≠ r ∨ ∀ H, SqL K H a xs) (h : SqL K H a xs) : SqL K H' a xs := n.elim (fun n => sql_keep e n h) fun n => n _
theorem R.now (x : R F C ρ g σ H) : R F (C.now ρ σ H) ρ g σ H :=
  ⟨x.sr, fun a h => x.base_restr.dom a (x.sd a h), sql_keep2 x.base_restr x.ne x.sq, x.ne, ext_restr, x.gl, x.len, x.frz, fun i d h => by
    obtain ⟨a, e, n, q⟩ := x.own i d h
    exact ⟨a, e, if_pos ⟨i, d, h, e⟩, q⟩, x.inj⟩
/-- back on the old ground -/
theorem R.back (x : R F C ρ g σ H) (y : R F (C.now ρ σ H) ρ' g' σ' H') : R F C ρ' g' σ' H' :=
  ⟨x.sr, x.sd, x.sq, x.ne, x.base_restr.trans y.base, y.gl, y.len, y.frz, fun i d h => by
    obtain ⟨a, e, n, q⟩ := y.own i d h
    exact ⟨a, e, x.none0 n, q⟩, y.inj⟩
theorem ExcEnd.now (x : R F C ρ g σ H) (h : ExcEnd F C c d g') : ExcEnd F (C.now ρ σ H) c d g' :=
  fun A y v H' hm e gl hy hx r => h A y v H' hm (x.base_restr.trans e) gl (x.none0 hy) hx r
theorem EndS.now (x : R F C ρ g σ H) {r : Res (Fl × En × G)} (h : EndS F C D0 r) : EndS F (C.now ρ σ H) D0 r := by
  cases r with
  | bad => exact h
  | exc c d g => exact ExcEnd.now x h
  | ok r =>
    obtain ⟨fl, ρ1, g1⟩ := r
    cases fl with
    | nx => exact fun σ' H' y => h σ' H' (x.back y)
    | brk => exact fun σ' H' y => h σ' H' (x.back y)
    | cont => exact fun σ' H' y => h σ' H' (x.back y)
    | ret d => exact fun v H' e gl r => h v H' (x.base_restr.trans e) gl r
/-! ### parked -/
theorem R.park (x : R F C ρ g σ H) (hp : H p = none) (e : Ext F.r H H1) (gl : GAt F g' H1) (w : RepO F H1 (fun a => SO C ρ σ a ∨ a = p) d p) : R F (C.park ρ σ H1 p) ρ g' σ H1 := by
  have y := x.ext e gl
  have po : ¬ OwnA ρ σ p := fun z => x.there (.inr z) hp
  obtain ⟨u, hu, _⟩ := w.there
  have sub : ∀ a, SO (C.park ρ σ H1 p) ρ σ a → SO C ρ σ a ∨ a = p := fun a z => z.elim (fun z => z.elim (fun z => .inl (.inl z)) .inr) fun z => .inl (.inr z)
  have up : ∀ {d v}, F.rp H (SO C ρ σ) d v → F.rp H1 (SO (C.park ρ σ H1 p) ρ σ) d v := fun {d v} h =>
    ((Rep.sup (S' := fun a => SO C ρ σ a ∨ a = p) (fun a z => z.elim .inl fun z => .inr (z ▸ hp)) h).agr (e.agr (.inl x.so))).sub sub
  refine ⟨.inl x.sr, fun a z => ?_, sql_keep2 y.base_restr y.ne y.sq, x.ne, ext_restr, gl, x.len, fun i d h => ?_, fun i d h => ?_, x.inj⟩
  · rcases z with z | z
    · exact y.base_restr.dom a (x.sd a z)
    · subst z
      show restr ρ σ H1 a ≠ none
      rw [restr_of po, hu]; simp
  · obtain ⟨v, h1, h2⟩ := x.frz i d h
    exact ⟨v, h1, up h2⟩
  · obtain ⟨a, h1, h2, h3⟩ := x.own i d h
    have hr : a ≠ F.r := fun z => x.own_ne ⟨i, d, h, h1⟩ (z ▸ x.sr)
    refine ⟨a, h1, if_pos ⟨i, d, h, h1⟩, ?_⟩
    have sp : ∀ a, SO C ρ σ a ∨ a = p → SO C ρ σ a ∨ H a = none := fun a z => z.elim .inl fun z => .inr (z ▸ hp)
    have h4 : RepO F H (fun a => SO C ρ σ a ∨ a = p) d a := by
      cases d with
      | lst xs => obtain ⟨vs, q, z, k⟩ := h3; exact ⟨vs, q, z, Reps.sup sp k⟩
      | dk xs => obtain ⟨vs, q, z, k⟩ := h3; exact ⟨vs, q, z, RepK.sup sp k⟩
      | dt xs => obtain ⟨vs, q, z, k⟩ := h3; exact ⟨vs, q, z, RepT.sup sp k⟩
      | ins c fs => obtain ⟨C1, dx, ws, m, q, k⟩ := h3; exact ⟨C1, dx, ws, m, q, RepF.sup sp k⟩
      | _ => exact h3.elim
    exact (h4.agr (e.agr (.inl x.so)) fun u hu nt => e.keep a u hu hr nt).sub sub
theorem ExcEnd.park (x : R F C ρ g σ H) (h : ExcEnd F C c d' g') : ExcEnd F (C.park ρ σ H p) c d' g' :=
  fun A y v H' hm e gl hy hx r => h A y v H' hm (x.base_restr.trans e) gl (x.none0 hy) hx (r.sub fun a z => .inl z)
/-- what was parked goes to a name -/
theorem R.unpark (x : R F C ρ g σ H) (hp : H p = none) (e : Ext F.r H H1) (gl : GAt F g' H1) (w : RepO F H1 (fun a => SO C ρ σ a ∨ a = p) d p) {g2 : G} (y : R F (C.park ρ σ H1 p) ρ' g2 σ' H2) (hi : i < ρ'.length) :
    R F C (ρ'.set i (.own d)) g2 (σ'.set i (some (.ref p))) H2 := by
  have x1 := x.ext e gl
  have hσ : i < σ'.length := by rw [← y.len]; exact hi
  have po : ¬ OwnA ρ σ p := fun z => x.there (.inr z) hp
  have np : ∀ (j : Nat) (f : D), ρ'[j]? = some (.own f) → σ'[j]? ≠ some (some (.ref p)) := fun j f h1 h2 => y.own_ne ⟨j, f, h1, h2⟩ (.inr rfl)
  have old : ∀ a, OwnA (ρ'.set i (.own d)) (σ'.set i (some (.ref p))) a → OwnA ρ' σ' a ∨ a = p := fun a ⟨j, f, h1, h2⟩ => by
    by_cases hij : i = j
    · subst hij
      rw [List.getElem?_set_self hσ] at h2
      cases h2
      exact .inr rfl
    · rw [List.getElem?_set_ne hij] at h1 h2
      exact .inl ⟨j, f, h1, h2⟩
  have sub : ∀ a, SO C (ρ'.set i (.own d)) (σ'.set i (some (.ref p))) a → SO (C.park ρ σ H1 p) ρ' σ' a := fun a z => z.elim (fun z => .inl (.inl z)) fun z => (old a z).elim .inr fun z => .inl (.inr z)
  refine ⟨x.sr, x.sd, x.sq, x.ne, x1.base_restr.trans y.base, y.gl, by simp [y.len], fun j f h => ?_, fun j f h => ?_, fun j k e1 e2 a h1 h2 h3 h4 => ?_⟩
  · have hij : i ≠ j := by
      rintro rfl
      rw [List.getElem?_set_self hi] at h
      cases h
    rw [List.getElem?_set_ne hij] at h
    obtain ⟨u, h1, h2⟩ := y.frz j f h
    exact ⟨u, by rw [List.getElem?_set_ne hij]; exact h1, h2.sub sub⟩
  · by_cases hij : i = j
    · subst hij
      rw [List.getElem?_set_self hi] at h
      cases h
      refine ⟨p, List.getElem?_set_self hσ, x.base.free hp, ?_⟩
      have pr : p ≠ F.r := fun z => by
        have := x.gl.row
        rw [← z, hp] at this
        cases this
      have sp : ∀ a, (SO C ρ σ a ∨ a = p ∨ H1 a = none) → (SO C ρ σ a ∨ a = p) ∨ H1 a = none := fun a z => z.elim (fun z => .inl (.inl z)) fun z => z.elim (fun z => .inl (.inr z)) .inr
      have ag : Agr (fun a => SO C ρ σ a ∨ a = p ∨ H1 a = none) H1 H2 := .of fun a o n q t => y.base.keep a o (by
        show restr ρ σ H1 a = some o
        rw [restr_of fun z => n (.inl (.inr z))]; exact q) (fun z => n (.inl (z ▸ x.so))) t
      have w2 : RepO F H1 (fun a => SO C ρ σ a ∨ a = p ∨ H1 a = none) d p := by
        cases d with
        | lst xs => obtain ⟨vs, q, z, k⟩ := w; exact ⟨vs, q, z, Reps.sup sp k⟩
        | dk xs => obtain ⟨vs, q, z, k⟩ := w; exact ⟨vs, q, z, RepK.sup sp k⟩
        | dt xs => obtain ⟨vs, q, z, k⟩ := w; exact ⟨vs, q, z, RepT.sup sp k⟩
        | ins c fs => obtain ⟨C1, dx, ws, m, q, k⟩ := w; exact ⟨C1, dx, ws, m, q, RepF.sup sp k⟩
        | _ => exact w.elim
      refine (w2.agr ag fun u hu nt => y.base.keep p u (by show restr ρ σ H1 p = some u; rw [restr_of po]; exact hu) pr nt).sub fun a z => ?_
      rcases z with z | z
      · exact .inl (.inl z)
      · rcases old a z with z | z
        · obtain ⟨j, f, h1, h2⟩ := z
          obtain ⟨a', e1, n1, _⟩ := y.own j f h1
          rw [h2] at e1; cases e1
          exact (restr_none n1).elim (fun z => .inl (.inr z)) fun z => .inr (.inr z)
        · exact .inr (.inl z)
    · rw [List.getElem?_set_ne hij] at h
      obtain ⟨a, h1, h2, h3⟩ := y.own j f h
      exact ⟨a, by rw [List.getElem?_set_ne hij]; exact h1, x1.none0 h2, h3.sub sub⟩
  · have isp : ∀ (j : Nat) (e : D) (a : Addr), (ρ'.set i (Slot.own d))[j]? = some (.own e) → (σ'.set i (some (V.ref p)))[j]? = some (some (.ref a)) → (i = j ∧ a = p) ∨ (i ≠ j ∧ ρ'[j]? = some (.own e) ∧ σ'[j]? = some (some (.ref a)) ∧ a ≠ p) := fun j e a h1 h2 => by
      by_cases hij : i = j
      · subst hij
        rw [List.getElem?_set_self hσ] at h2
        cases h2
        exact .inl ⟨rfl, rfl⟩
      · rw [List.getElem?_set_ne hij] at h1 h2
        exact .inr ⟨hij, h1, h2, fun z => np j e h1 (z ▸ h2)⟩
    rcases isp j e1 a h1 h3 with ⟨z1, z2⟩ | ⟨z1, q1, q2, z2⟩
    · rcases isp k e2 a h2 h4 with ⟨y1, y2⟩ | ⟨y1, r1, r2, y2⟩
      · exact z1.symm.trans y1
      · exact absurd z2 y2
    · rcases isp k e2 a h2 h4 with ⟨y1, y2⟩ | ⟨y1, r1, r2, y2⟩
      · exact absurd y2 z2
      · exact y.inj j k e1 e2 a q1 r1 q2 r2
end

/-! ### several values at once, each kept (false) or one's own (true) -/
abbrev SEm := En → G → Res (List (Bool × D) × G)
def mNil : SEm := fun _ g => .ok ([], g)
def mF (f : SE) (r : SEm) : SEm := fun ρ g => (f ρ g).bind fun p => (r ρ p.2).bind fun q => .ok ((false, p.1) :: q.1, q.2)
def mO (f : SE) (r : SEm) : SEm := fun ρ g => (f ρ g).bind fun p => (r ρ p.2).bind fun q => .ok ((true, p.1) :: q.1, q.2)
def slotOf (p : Bool × D) : Slot := if p.1 then .own p.2 else .frz p.2
def setD : En → List Nat → List (Bool × D) → En
  | ρ, i :: is, d :: ds => (setD ρ is ds).set i (slotOf d)
  | ρ, _, _ => ρ
def setV : St → List Nat → List V → St
  | σ, i :: is, v :: vs => (setV σ is vs).set i (some v)
  | σ, _, _ => σ
theorem setD_len : ∀ (is : List Nat) (ds : List (Bool × D)) (ρ : En), (setD ρ is ds).length = ρ.length
  | [], _, _ => by unfold setD; rfl
  | _ :: _, [], _ => rfl
  | i :: is, d :: ds, ρ => by rw [setD, List.length_set, setD_len is ds ρ]
/-- how they stand: whichever names they go to -/
def Pd (F : Fx) (C : Ctx) (ρ : En) (σ : St) (Hs : Hp) (ds : List (Bool × D)) (vs : List V) (g : G) (H : Hp) : Prop :=
  vs.length = ds.length ∧ Ext F.r Hs H ∧ ∀ is : List Nat, is.length = ds.length → (∀ i ∈ is, i < ρ.length) → R F C (setD ρ is ds) g (setV σ is vs) H ∧ ∀ a, SO C (setD ρ is ds) (setV σ is vs) a → SO C ρ σ a ∨ Hs a = none
def TAm (F : Fx) (f : SEm) : TA := fun σ H Q => ∃ C ρ g, R F C ρ g σ H ∧ match f ρ g with
  | .ok (ds, g1) => ∀ vs H1, Pd F C ρ σ H ds vs g1 H1 → Q vs H1
  | .exc c d g1 => ExcEnd F C c d g1
  | .bad => False
section
variable {X : Cx} {F : Fx} {e a b c : Expr} {es : List Expr} {fa fb f fc : SE} {fr : SEm} {pos p : Pos}
theorem am_nil : PA X [] (TAm F mNil) := pa_nil.imp fun σ H Q ⟨C, ρ, g, x, h⟩ => h [] H ⟨rfl, .refl, fun is hl _ => by
  have e : is = [] := List.eq_nil_of_length_eq_zero hl
  subst e
  exact ⟨x, fun a z => .inl z⟩⟩
theorem am_f (ha : PE X e (T F f)) (hr : PA X es (TAm F fr)) (hs : starEach (e :: es) X.env = (false, eval e X.env) :: starEach es X.env := by rfl) : PA X (e :: es) (TAm F (mF f fr)) := (pa_cons ha hr hs).imp fun σ H Q ⟨C, ρ, g, x, h⟩ => by
  refine ⟨C, ρ, g, x, ?_⟩
  unfold mF at h
  cases q : f ρ g with
  | bad => rw [q] at h; exact h
  | exc c d g => rw [q] at h; exact h
  | ok p =>
    rw [q] at h
    simp only [Res.bind_ok] at h
    intro v H1 e1 x1 w1
    refine ⟨C, ρ, p.2, x1, ?_⟩
    cases q2 : fr ρ p.2 with
    | bad => rw [q2] at h; exact h
    | exc c d g => rw [q2] at h; exact h
    | ok p2 =>
      rw [q2] at h
      simp only [Res.bind_ok] at h
      refine fun vs H2 ⟨l, e2, k⟩ => h (v :: vs) H2 ⟨by simp [l], e1.trans e2, fun is hl hi => ?_⟩
      cases is with
      | nil => cases hl
      | cons i is =>
        obtain ⟨y, sub⟩ := k is (by simpa using hl) fun j hj => hi j (List.mem_cons_of_mem _ hj)
        have w2 : F.rp H2 (SO C (setD ρ is p2.1) (setV σ is vs)) p.1 v := (Rep.sup (S' := SO C (setD ρ is p2.1) (setV σ is vs)) sub w1).agr (e2.agr y.so)
        have hi' : i < (setD ρ is p2.1).length := by rw [setD_len]; exact hi i List.mem_cons_self
        refine ⟨y.setFrz hi' w2, fun a z => ?_⟩
        have : SO C (setD ρ is p2.1) (setV σ is vs) a := z.elim .inl fun z => .inr (ownA_set_frz z)
        exact (sub a this).elim .inl fun z => .inr (e1.free z)
theorem am_o (ha : PE X e (TO F f)) (hr : PA X es (TAm F fr)) (hs : starEach (e :: es) X.env = (false, eval e X.env) :: starEach es X.env := by rfl) : PA X (e :: es) (TAm F (mO f fr)) := (pa_cons ha hr hs).imp fun σ H Q ⟨C, ρ, g, x, h⟩ => by
  refine ⟨C, ρ, g, x, ?_⟩
  unfold mO at h
  cases q : f ρ g with
  | bad => rw [q] at h; exact h
  | exc c d g => rw [q] at h; exact h
  | ok p =>
    rw [q] at h
    simp only [Res.bind_ok] at h
    intro v H1 e1 x1 ⟨p1, ev, hp, w1⟩
    subst ev
    refine ⟨C.park ρ σ H1 p1, ρ, p.2, x.park hp e1 x1.gl w1, ?_⟩
    cases q2 : fr ρ p.2 with
    | bad => rw [q2] at h; exact h
    | exc c d g => rw [q2] at h; exact ExcEnd.park x1 h
    | ok p2 =>
      rw [q2] at h
      simp only [Res.bind_ok] at h
      refine fun vs H2 ⟨l, e2, k⟩ => h (.ref p1 :: vs) H2 ⟨by simp [l], e1.trans e2, fun is hl hi => ?_⟩
      cases is with
      | nil => cases hl
      | cons i is =>
        obtain ⟨y, sub⟩ := k is (by simpa using hl) fun j hj => hi j (List.mem_cons_of_mem _ hj)
        have hi' : i < (setD ρ is p2.1).length := by rw [setD_len]; exact hi i List.mem_cons_self
        refine ⟨x.unpark hp e1 x1.gl w1 y hi', fun a z => ?_⟩
        have z2 : SO (C.park ρ σ H1 p1) (setD ρ is p2.1) (setV σ is vs) a := by
          rcases z with z | ⟨j, f, h1, h2⟩
          · exact .inl (.inl z)
          · by_cases hij : i = j
            · subst hij
              have h2 : ((setV σ is vs).set i (some (.ref p1)))[i]? = some (some (.ref a)) := h2
              rw [List.getElem?_set_self (by rw [← y.len]; exact hi')] at h2
              cases h2
              exact .inl (.inr rfl)
            · have h1 : ((setD ρ is p2.1).set i _)[j]? = some (.own f) := h1
              have h2 : ((setV σ is vs).set i (some (.ref p1)))[j]? = some (some (.ref a)) := h2
              rw [List.getElem?_set_ne hij] at h1 h2
              exact .inr ⟨j, f, h1, h2⟩
        rcases sub a z2 with (z | z) | z
        · exact z.elim (fun z => .inl (.inl z)) fun z => .inr (z ▸ hp)
        · exact .inl (.inr z)
        · exact .inr (e1.free z)
/-- x, y = e1, e2 with plain local names -/
def sPar (is : List Nat) (f : SEm) : SS := fun ρ g => (f ρ g).bind fun p => if is.length = p.1.length ∧ is.all (· < ρ.length) then .ok (.nx, setD ρ is p.1, p.2) else .bad
theorem par_core {is : List Nat} {fr : SEm} {D : Ends} {σ : St} {H : Hp} (h : TS1 F (sPar is fr) D σ H) : TAm F fr σ H fun vs H1 => vs.length = is.length ∧ D.nx (setV σ is vs) H1 := by
  obtain ⟨C, ρ, g, x, h⟩ := h
  refine ⟨C, ρ, g, x, ?_⟩
  unfold sPar at h
  cases q : fr ρ g with
  | bad => rw [q] at h; exact h
  | exc c d g => rw [q] at h; exact h
  | ok r =>
    rw [q] at h
    simp only [Res.bind_ok] at h
    split at h
    · rename_i hc
      refine fun vs H1 ⟨l, e, k⟩ => ⟨by rw [l, hc.1], h _ _ (k is hc.1 fun i hi => ?_).1⟩
      have := List.all_eq_true.mp hc.2 i hi
      simpa using this
    · exact h.elim
theorem ss_par2 {i j : Nat} {x y : Str} {px py pt : Pos} {kt k2 pt2} (xf : XF X F) (ha : PA X [a, b] (TAm F fr)) (hij : i ≠ j := by decide) (hi : X.N[i]? = some x := by rfl) (hj : X.N[j]? = some y := by rfl)
    (hx : X.env.scope.names.lookup x = some .local := by rfl) (hy : X.env.scope.names.lookup y = some .local := by rfl)
    (hw : swappedStores [.Tuple [.Name x px, .Name y py] kt pt] (.Tuple [a, b] k2 pt2) X.env = pure (some [x, y]) := by rfl)
    (hs : swapsWithSole [.Tuple [.Name x px, .Name y py] kt pt] (.Tuple [a, b] k2 pt2) pos.line X.env = pure false := by rfl) :
    PS X (.Assign [.Tuple [.Name x px, .Name y py] kt pt] (.Tuple [a, b] k2 pt2) pos) (TS1 F (sPar [i, j] fr)) :=
  (ps_par xf.calm xf.N hi hj hij hx hy ha hw hs).imp fun D σ H h => by
    obtain ⟨C, ρ, g, x, h⟩ := par_core h
    refine ⟨C, ρ, g, x, ?_⟩
    split at h
    · refine fun vs H1 k => ?_
      obtain ⟨h1, h2⟩ := h vs H1 k
      match vs, h1 with
      | [v, w], _ =>
        refine ⟨v, w, rfl, ?_⟩
        have e : setV σ [i, j] [v, w] = (σ.set i (some v)).set j (some w) := by
          show (σ.set j (some w)).set i (some v) = _
          rw [List.set_comm _ _ (Ne.symm hij)]
        rw [← e]
        exact h2
    · exact h
    · exact h.elim
end
end RP
end L2
set_option Elab.async false
set_option linter.all false
set_option maxRecDepth 100000
/-! R11: targets, op=, raise, changes of one's own things. -/
namespace L2
namespace RP
open PySem PySem.Spec PyProof.Rows

section
variable {X : Cx} {F : Fx} {e a b c : Expr} {es : List Expr} {fa fb f fc : SE} {fr : SEm} {pos p : Pos}
theorem ss_par3 {i j l : Nat} {x y z : Str} {px py pz pt : Pos} {kt k2 pt2} (xf : XF X F) (ha : PA X [a, b, c] (TAm F fr)) (hij : i ≠ j := by decide) (hil : i ≠ l := by decide) (hjl : j ≠ l := by decide) (hi : X.N[i]? = some x := by rfl) (hj : X.N[j]? = some y := by rfl) (hl : X.N[l]? = some z := by rfl)
    (hx : X.env.scope.names.lookup x = some .local := by rfl) (hy : X.env.scope.names.lookup y = some .local := by rfl) (hz : X.env.scope.names.lookup z = some .local := by rfl)
    (hw : swappedStores [.Tuple [.Name x px, .Name y py, .Name z pz] kt pt] (.Tuple [a, b, c] k2 pt2) X.env = pure (some [x, y, z]) := by rfl)
    (hs : swapsWithSole [.Tuple [.Name x px, .Name y py, .Name z pz] kt pt] (.Tuple [a, b, c] k2 pt2) pos.line X.env = pure false := by rfl) :
    PS X (.Assign [.Tuple [.Name x px, .Name y py, .Name z pz] kt pt] (.Tuple [a, b, c] k2 pt2) pos) (TS1 F (sPar [i, j, l] fr)) :=
  (ps_par3 xf.calm xf.N hi hj hl hij hil hjl hx hy hz ha hw hs).imp fun D σ H h => by
    obtain ⟨C, ρ, g, x, h⟩ := par_core h
    refine ⟨C, ρ, g, x, ?_⟩
    split at h
    · refine fun vs H1 k => ?_
      obtain ⟨h1, h2⟩ := h vs H1 k
      match vs, h1 with
      | [u, v, w], _ =>
        refine ⟨u, v, w, rfl, ?_⟩
        have e : setV σ [i, j, l] [u, v, w] = ((σ.set i (some u)).set j (some v)).set l (some w) := by
          show ((σ.set l (some w)).set j (some v)).set i (some u) = _
          rw [List.set_comm _ _ (Ne.symm hjl), List.set_comm _ _ (Ne.symm hil), List.set_comm _ _ (Ne.symm hij)]
        rw [← e]
        exact h2
    · exact h
    · exact h.elim
/-- targets that are names -/
def gNames : List Nat → TGs
  | [] => gNil
  | i :: is => gCons (gName i) (gNames is)
theorem gNames_ok : ∀ (is : List Nat) (vs : List V) (σ : St) (H : Hp) (Q : St → Hp → Prop), vs.length = is.length → is.Nodup → Q (setV σ is vs) H → gNames is vs σ H Q
  | [], [], σ, H, Q, _, _, q => ⟨rfl, q⟩
  | i :: is, v :: vs, σ, H, Q, hl, hn, q => by
    refine ⟨v, vs, rfl, gNames_ok is vs _ H Q (by simpa using hl) (List.nodup_cons.mp hn).2 ?_⟩
    have sw : ∀ (is : List Nat) (vs : List V) (σ : St), i ∉ is → setV (σ.set i (some v)) is vs = (setV σ is vs).set i (some v) := by
      intro is
      induction is with
      | nil => intro vs σ _; rfl
      | cons j is ih =>
        intro vs σ hn
        cases vs with
        | nil => rfl
        | cons w vs =>
          show (setV (σ.set i (some v)) is vs).set j (some w) = ((setV σ is vs).set j (some w)).set i (some v)
          rw [ih vs σ (fun h => hn (List.mem_cons_of_mem _ h)), List.set_comm _ _ (fun e : i = j => hn (by rw [e]; exact List.mem_cons_self))]
    rw [sw is vs σ (List.nodup_cons.mp hn).1]
    exact q
  | [], _ :: _, _, _, _, hl, _, _ => by cases hl
  | _ :: _, [], _, _, _, hl, _, _ => by cases hl
theorem gs_nil : PGs X [] (gNames []) := pgs_nil
theorem gs_cons {i : Nat} {is : List Nat} {x : Str} {pos' : Pos} {es : List Expr} (xf : XF X F) (h2 : PGs X es (gNames is)) (hi : X.N[i]? = some x := by rfl) (hx : Loc X.env.scope x := by first | exact Or.inl rfl | exact Or.inr rfl)
    (hf : X.fn x = true ∨ X.env.scope.names.lookup x = some .local := by first | exact .inl rfl | exact .inr rfl) (hs : (assignEach (.Name x pos' :: es) X.env).map (·.2) = assign (.Name x pos') X.env :: (assignEach es X.env).map (·.2) := by rfl) : PGs X (.Name x pos' :: es) (gNames (i :: is)) :=
  pgs_cons (pg_name xf.N hi hx hf) h2 hs
/-- a, b, .. = e1, e2, .. by a tuple -/
theorem ss_parT {is : List Nat} {ts : List Expr} {kt k2 : Nat} {tp tp2 : Pos} (xf : XF X F) (hg : PGs X ts (gNames is)) (ha : PA X es (TAm F fr)) (hn : is.Nodup := by decide) (hl : is.length ≤ sizeLine := by decide)
    (h1 : (assignEach ts X.env).length = is.length := by rfl) (hst : (assignEach ts X.env).findIdx? (·.1) = none := by rfl)
    (hs : swapsWithSole [.Tuple ts kt tp] (.Tuple es k2 tp2) pos.line X.env = pure false := by rfl) (hw : swappedStores [.Tuple ts kt tp] (.Tuple es k2 tp2) X.env = pure none := by rfl) (h3 : (assignEach [.Tuple ts kt tp] X.env).map (·.2) = [assign (.Tuple ts kt tp) X.env] := by rfl) :
    PS X (.Assign [.Tuple ts kt tp] (.Tuple es k2 tp2) pos) (TS1 F (sPar is fr)) :=
  (ps_asg (pe_tup ha) (pg_tup xf.calm hg h1 hst) hs hw h3).imp fun D σ H h => by
    have h : TS1 F (sPar is fr) D σ H := h
    obtain ⟨C, ρ, g, x, h⟩ := h
    refine ⟨C, ρ, g, x, ?_⟩
    unfold sPar at h
    cases q : fr ρ g with
    | bad => rw [q] at h; exact h
    | exc c d g => rw [q] at h; exact h
    | ok r =>
      rw [q] at h
      simp only [Res.bind_ok] at h
      split at h
      · rename_i hc
        refine fun vs H1 ⟨l, e, k⟩ => ⟨by rw [l, ← hc.1]; exact hl, fun p hp => ⟨p, vs, rfl, SqT.of upd_same, by rw [l, hc.1], gNames_ok is vs _ _ _ (by rw [l, hc.1]) hn (h _ _ ?_)⟩⟩
        refine (k is hc.1 fun i hi => ?_).1.new hp
        have := List.all_eq_true.mp hc.2 i hi
        simpa using this
      · exact h.elim
/-! ### targets of any value -/
abbrev Tg := D → En → Option En
def tgN (i : Nat) : Tg := fun d ρ => if i < ρ.length then some (ρ.set i (.frz d)) else none
def tgsNil : List D → En → Option En := fun ds ρ => if ds.isEmpty then some ρ else none
def tgsCons (t : Tg) (r : List D → En → Option En) : List D → En → Option En := fun ds ρ => match ds with
  | d :: ds => (t d ρ).bind (r ds)
  | [] => none
def tgT (n : Nat) (r : List D → En → Option En) : Tg := fun d ρ => match d with
  | .tup ds => if ds.length = n then r ds ρ else none
  | _ => none
/-- ts: the slots that are stored -/
def GT (F : Fx) (ts : List Nat) (t : Tg) : TG := fun v σ H Q => ∃ C ρ g d ρ', R F C ρ g σ H ∧ F.rp H (SO C ρ σ) d v ∧ t d ρ = some ρ' ∧ ∀ σ', R F C ρ' g σ' H → (∀ a, SO C ρ' σ' a → SO C ρ σ a) → (σ'.length = σ.length ∧ ∀ j, j ∉ ts → σ'[j]? = σ[j]? ∧ ρ'[j]? = ρ[j]?) → Q σ' H
def GTs (F : Fx) (ts : List Nat) (t : List D → En → Option En) : TGs := fun vs σ H Q => ∃ C ρ g ds ρ', R F C ρ g σ H ∧ F.rps H (SO C ρ σ) ds vs ∧ t ds ρ = some ρ' ∧ ∀ σ', R F C ρ' g σ' H → (∀ a, SO C ρ' σ' a → SO C ρ σ a) → (σ'.length = σ.length ∧ ∀ j, j ∉ ts → σ'[j]? = σ[j]? ∧ ρ'[j]? = ρ[j]?) → Q σ' H
theorem PGs.imp {ts : List Expr} {t t' : TGs} (h : PGs X ts t) (k : ∀ v σ H Q, t' v σ H Q → t v σ H Q) : PGs X ts t' := ⟨fun pins s σ H v u Q I r q => h.run pins s σ H v u Q I r (k v σ H Q q)⟩
theorem tg_n {i : Nat} {x : Str} (xf : XF X F) (hi : X.N[i]? = some x := by rfl) (hx : Loc X.env.scope x := by first | exact Or.inl rfl | exact Or.inr rfl)
    (hf : X.fn x = true ∨ X.env.scope.names.lookup x = some .local := by first | exact .inl rfl | exact .inr rfl) : PG X (.Name x pos) (GT F [i] (tgN i)) := (pg_name xf.N hi hx hf).imp fun v σ H Q ⟨C, ρ, g, d, ρ', x, w, ht, h⟩ => by
  unfold tgN at ht
  split at ht
  · cases ht
    exact h _ (x.setFrz ‹_› w) (fun a z => z.elim .inl fun z => .inr (ownA_set_frz z)) ⟨List.length_set, fun j hj => ⟨List.getElem?_set_ne (fun e => hj (by simp [e])), List.getElem?_set_ne (fun e => hj (by simp [e]))⟩⟩
  · cases ht
theorem tgs_nil : PGs X [] (GTs F [] tgsNil) := PGs.imp pgs_nil fun vs σ H Q ⟨C, ρ, g, ds, ρ', x, w, ht, h⟩ => by
  unfold tgsNil at ht
  cases ds with
  | nil => cases ht; exact ⟨w, h σ x (fun a z => z) ⟨rfl, fun _ _ => ⟨rfl, rfl⟩⟩⟩
  | cons d ds => cases ht
theorem tgs_cons {t : Tg} {r : List D → En → Option En} {ts us : List Nat} (h1 : PG X e (GT F ts t)) (h2 : PGs X es (GTs F us r)) (hs : (assignEach (e :: es) X.env).map (·.2) = assign e X.env :: (assignEach es X.env).map (·.2) := by rfl) : PGs X (e :: es) (GTs F (ts ++ us) (tgsCons t r)) :=
  PGs.imp (pgs_cons h1 h2 hs) fun vs σ H Q ⟨C, ρ, g, ds, ρ', x, w, ht, h⟩ => by
    cases ds with
    | nil => cases ht
    | cons d ds =>
      obtain ⟨v, ws, e, w1, w2⟩ := w
      subst e
      refine ⟨v, ws, rfl, ?_⟩
      have ht : (t d ρ).bind (r ds) = some ρ' := ht
      cases q : t d ρ with
      | none => rw [q] at ht; cases ht
      | some ρ1 =>
        rw [q] at ht
        exact ⟨C, ρ, g, d, ρ1, x, w1, q, fun σ1 x1 sub k1 => ⟨C, ρ1, g, ds, ρ', x1, w2.sub sub, ht, fun σ2 x2 sub2 k2 => h σ2 x2 (fun a z => sub a (sub2 a z)) ⟨k2.1.trans k1.1, fun j hj => ⟨(k2.2 j fun z => hj (List.mem_append_right _ z)).1.trans (k1.2 j fun z => hj (List.mem_append_left _ z)).1, (k2.2 j fun z => hj (List.mem_append_right _ z)).2.trans (k1.2 j fun z => hj (List.mem_append_left _ z)).2⟩⟩⟩⟩
theorem tg_t {k n : Nat} {r : List D → En → Option En} {ts : List Nat} (xf : XF X F) (h : PGs X es (GTs F ts r)) (hn : (assignEach es X.env).length = n := by rfl) (hst : (assignEach es X.env).findIdx? (·.1) = none := by rfl) : PG X (.Tuple es k pos) (GT F ts (tgT n r)) :=
  (pg_tup xf.calm h hn hst).imp fun v σ H Q ⟨C, ρ, g, d, ρ', x, w, ht, h⟩ => by
    unfold tgT at ht
    split at ht
    · split at ht
      · rename_i ds hl
        obtain ⟨a, vs, e, _, z, _, r⟩ := w
        exact ⟨a, vs, e, SqT.of z, by rw [← r.length]; exact hl, C, ρ, g, ds, ρ', x, r, ht, h⟩
      · cases ht
    · cases ht
/-- target = e -/
def sAsg (t : Tg) (f : SE) : SS := fun ρ g => (f ρ g).bind fun p => match t p.1 ρ with
  | some ρ' => .ok (.nx, ρ', p.2)
  | none => .bad
theorem ss_asg {t : Tg} {ts : List Nat} {tg : Expr} (he : PE X e (T F f)) (hg : PG X tg (GT F ts t)) (hs : swapsWithSole [tg] e pos.line X.env = pure false := by rfl) (hw : swappedStores [tg] e X.env = pure none := by rfl)
    (h1 : (assignEach [tg] X.env).map (·.2) = [assign tg X.env] := by rfl) : PS X (.Assign [tg] e pos) (TS1 F (sAsg t f)) := (ps_asg he hg hs hw h1).imp fun D σ H ⟨C, ρ, g, x, h⟩ => by
  refine ⟨C, ρ, g, x, ?_⟩
  unfold sAsg at h
  cases q : f ρ g with
  | bad => rw [q] at h; exact h
  | exc c d g => rw [q] at h; exact h
  | ok r =>
    rw [q] at h
    simp only [Res.bind_ok] at h
    intro v H1 e1 x1 w1
    cases q2 : t r.1 ρ with
    | none => rw [q2] at h; exact h.elim
    | some ρ' =>
      rw [q2] at h
      exact ⟨C, ρ, r.2, r.1, ρ', x1, w1, q2, fun σ' x' _ _ => h σ' H1 x'⟩
/-- name += e, of ints -/
def sAugI (k : Int → Int → Int) (i : Nat) (f : SE) : SS := fun ρ g => match ρ[i]? with
  | some (.frz (.int m)) => (f ρ g).bind fun p => (match p.1 with
    | .int n => .ok (.nx, ρ.set i (.frz (.int (k m n))), p.2)
    | _ => .bad)
  | _ => .bad
theorem ss_aug {i : Nat} {x : Str} {op : Operator} {k : Int → Int → Int} {pos' : Pos} (xf : XF X F) (ho : PIp X op (ipI k)) (he : PE X e (T F f)) (hi : X.N[i]? = some x := by rfl) (hx : Loc X.env.scope x := by first | exact Or.inl rfl | exact Or.inr rfl)
    (hf : X.fn x = true ∨ X.env.scope.names.lookup x = some .local := by first | exact .inl rfl | exact .inr rfl) : PS X (.AugAssign (.Name x pos') op e pos) (TS1 F (sAugI k i f)) := (ps_aug xf.N hi hx he ho hf).imp fun D σ H ⟨C, ρ, g, x, h⟩ => by
  unfold sAugI at h
  split at h
  · rename_i m hm
    obtain ⟨v, h1, h2⟩ := x.frz i _ hm
    refine ⟨v, h1, C, ρ, g, x, ?_⟩
    cases q : f ρ g with
    | bad => rw [q] at h; exact h
    | exc c d g => rw [q] at h; exact h
    | ok r =>
      rw [q] at h
      simp only [Res.bind_ok] at h
      intro w H1 e1 x1 w1
      split at h
      · rename_i n hn
        rw [hn] at w1
        exact ⟨m, n, h2, w1, h _ _ (x1.setFrz (by rw [x.len]; exact x.lt hm) rfl)⟩
      · exact h.elim
  · exact h.elim
/-! ### raise -/
/-- raise c(e) -/
def sRaise (c : Str) (f : SE) : SS := fun ρ g => (f ρ g).bind fun p => .exc c p.1 p.2
/-- an own error class that keeps its one argument as value -/
structure ErrC (X : Cx) (F : Fx) (k : Nat) (c : Str) : Prop where
  ex : ∃ (C fI : Addr) (fd : FuncData) (ps : List Str), F.mg c = some (.ref C) ∧ OexC F.K C ∧ PySem.W.findIn F.K (.ref C) "__init__" = some (some (.ref fI)) ∧ PySem.W.typeIn F.K (.ref fI) = some (.type "function") ∧ Binds F.K fd ps [] ∧
    FnOk X.prog X.w F.K F.mg X.base (L2.CX X.prog X.w) k fI fd ps (fun vs H Q _ => ∃ (a : Addr) (v : V), vs = [.ref a, v] ∧ H a = some (exo a C none) ∧ ∀ d, H d = none → d ≠ a → Q .non (upd (upd H d (exd d [(("value" : Str), v)])) a (exo a C (some d))))
end
end RP
end L2
set_option Elab.async false
set_option linter.all false
set_option maxRecDepth 100000
/-! R12: raise; changes of one's own things. -/
namespace L2
namespace RP
open PySem PySem.Spec PyProof.Rows

section
variable {X : Cx} {F : Fx} {e a b c : Expr} {es : List Expr} {fa fb f fc : SE} {pos p pos2 : Pos}
theorem ss_raise {k j : Nat} {x : Str} (xf : XF X F) (c : ErrC X F k x) (hr : Room j X.A) (hk : k + 1 ≤ j) (ha : PE X e (T F f)) (hg : Gl X x := by rfl) (hdb : (x == ("__debug__" : Str)) = false := by decide)
    (he : starEach [e] X.env = (false, eval e X.env) :: starEach [] X.env := by rfl) (hpl : (backTo pos (starEach [] X.env)).any (·.1) = false := by rfl) :
    PS X (.Raise (some (.Call (.Name x p) [e] [] pos)) none pos2) (TS1 F (sRaise x f)) := by
  obtain ⟨C, fI, fd, ps, hm, T, iC, tI, b, Fn⟩ := c.ex
  rw [← xf.K] at T iC tI b
  rw [← xf.K, ← xf.mg] at Fn
  refine (ps_raise xf.calm xf.tk (pmk_oex T iC tI Fn (hr.mono hk) b .nil (fun _ _ _ _ _ _ _ h => passL _ _ _ _ _ _ ‹_› h) hg (by rw [xf.mg]; exact hm) (pa_cons ha pa_nil he) hdb he hpl)).imp fun D σ H ⟨C', ρ, g, x1, h⟩ => ?_
  show L2.RP.T F f σ H fun v H1 => [v].length ≤ 1000 ∧ _
  refine ⟨C', ρ, g, x1, ?_⟩
  unfold sRaise at h
  cases q : f ρ g with
  | bad => rw [q] at h; exact h
  | exc c d g => rw [q] at h; exact h
  | ok r =>
    rw [q] at h
    simp only [Res.bind_ok] at h
    intro v H1 e1 x2 w1
    refine ⟨by show 1 ≤ 1000; decide, fun a ha => ⟨a, v, rfl, upd_same, fun d hd hda => ⟨rfl, d, [(("value" : Str), v)], upd_same, by rw [upd_ne hda, upd_same], ?_, ?_⟩⟩⟩
    · rw [upd_ne hda] at hd; exact hd
    · have hd1 : H1 d = none := by rw [upd_ne hda] at hd; exact hd
      have eq : L2.upd (del (L2.upd (L2.upd (L2.upd H1 a (exo a C none)) d (exd d [(("value" : Str), v)])) a (exo a C (some d))) a) d (.xd [(("value" : Str), v)]) = L2.upd H1 d (.xd [(("value" : Str), v)]) := by
        funext z
        unfold L2.upd del
        by_cases h1 : z = d
        · simp [h1]
        · by_cases h2 : z = a
          · subst h2; simp [h1, ha]
          · simp [h1, h2]
      rw [eq]
      exact h C d v _ hm (x2.base.trans (.new hd1)) (x2.gl.new hd1) (x2.base.free hd1) upd_same ((w1.sub fun a z => .inl z).agr (agr_new hd1))
/-! ### changes -/
/-- x.append(e) -/
def sApp (i : Nat) (f : SE) : SS := fun ρ g => match ρ[i]? with
  | some (.own (.lst xs)) => (f ρ g).bind fun p => if xs.length < sizeLine then .ok (.nx, ρ.set i (.own (.lst (xs ++ [p.1]))), p.2) else .bad
  | _ => .bad
/-- x.extend(e), e a list -/
def sExt (i : Nat) (f : SE) : SS := fun ρ g => match ρ[i]? with
  | some (.own (.lst xs)) => (f ρ g).bind fun p => (match p.1 with
    | .lst ys => if xs.length + ys.length ≤ sizeLine then .ok (.nx, ρ.set i (.own (.lst (xs ++ ys))), p.2) else .bad
    | _ => .bad)
  | _ => .bad
/-- y = x.pop() -/
def sPop (j i : Nat) : SS := fun ρ g => match ρ[i]? with
  | some (.own (.lst xs)) => (match xs[xs.length - 1]? with
    | some d => if j < ρ.length ∧ i ≠ j then .ok (.nx, (ρ.set i (.own (.lst xs.dropLast))).set j (.frz d), g) else .bad
    | none => .bad)
  | _ => .bad
theorem R.own_lst {C : Ctx} {ρ : En} {g : G} {σ : St} {H : Hp} {i : Nat} {xs : List D} (x : R F C ρ g σ H) (h : ρ[i]? = some (.own (.lst xs))) : ∃ a vs, σ[i]? = some (some (.ref a)) ∧ H a = some (.lst vs) ∧ vs.length ≤ sizeLine ∧ F.rps H (SO C ρ σ) xs vs ∧ a ≠ F.r := by
  obtain ⟨a, e1, e2, vs, e3, e4, e5⟩ := x.own i _ h
  exact ⟨a, vs, e1, e3, e4, e5, fun z => x.own_ne ⟨i, _, h, e1⟩ (z ▸ x.sr)⟩
theorem ss_app {i : Nat} {x : Str} {p1 p2 p3 p4 : Pos} (ha : PE X e (T F f)) (xf : XF X F) (hN : X.N[i]? = some x := by rfl) (hv : Vis X.env.scope x := by first | exact Or.inl rfl | exact Or.inr (Or.inl rfl) | exact Or.inr (Or.inr rfl)) (hd : (x == ("__debug__" : Str)) = false := by decide)
    (hcd : (x == ("__classdict__" : Str)) = false := by decide) (he : starEach [e] X.env = (false, eval e X.env) :: starEach [] X.env := by rfl)
    (hbase : attributeBase (.Name x p1) "append" X.env (eval (.Name x p1) X.env) = eval (.Name x p1) X.env := by rfl)
    (hfew : ((backTo p3 (starEach [e] X.env)).all (fun x => !x.1) && (backToKw p3 (keywordEach [] X.env)).all (fun x => x.1.isSome)
      && decide ([e].length + ([] : List Keyword).length + (if ([] : List Keyword).isEmpty then 0 else 1) < 30)) = true := by rfl)
    (hline : (p2.endLine == p3.line) = true := by rfl) (hplain : (backTo p3 (starEach [] X.env)).any (·.1) = false := by rfl)
    (hs : swapsWith (.Call (.Attribute (.Name x p1) "append" p2) [e] [] p3) none p4.line X.env = pure false := by rfl) :
    PS X (.Expr (.Call (.Attribute (.Name x p1) "append" p2) [e] [] p3) p4) (TS1 F (sApp i f)) :=
  (ps_expr (pe_bm PySem.F.plainAttrs_list PySem.F.slot_list_append PySem.F.type_list_append mt_append (pe_var hN hv hd hcd) (pa_cons ha pa_nil he) hbase hfew hline he hplain) hs).imp fun D σ H ⟨C, ρ, g, x, h⟩ => by
    unfold sApp at h
    split at h
    · rename_i xs hx
      obtain ⟨a, vs, e1, e2, e3, e4, ne⟩ := x.own_lst hx
      refine ⟨.ref a, e1, .inl ⟨rfl, _, SqL.of e2⟩, C, ρ, g, x, ?_⟩
      cases q : f ρ g with
      | bad => rw [q] at h; exact h
      | exc c d g => rw [q] at h; exact h
      | ok r =>
        rw [q] at h
        simp only [Res.bind_ok] at h
        intro v H1 ex x1 w1
        obtain ⟨a', vs', f1, f2, f3, f4, _⟩ := x1.own_lst hx
        rw [e1] at f1; cases f1
        split at h
        · rename_i hl
          rw [f4.length] at hl
          refine ⟨a, vs', v, rfl, rfl, f2, hl, h _ _ (x1.upd hx e1 ⟨_, upd_same, by simp; omega, ?_⟩)⟩
          exact Reps.agr (agr_upd (.inr ⟨i, _, hx, e1⟩)) (f4.app (Reps.one w1))
        · exact h.elim
    · exact h.elim
theorem ss_ext {i : Nat} {x : Str} {p1 p2 p3 p4 : Pos} (ha : PE X e (T F f)) (xf : XF X F) (hN : X.N[i]? = some x := by rfl) (hv : Vis X.env.scope x := by first | exact Or.inl rfl | exact Or.inr (Or.inl rfl) | exact Or.inr (Or.inr rfl)) (hd : (x == ("__debug__" : Str)) = false := by decide)
    (hcd : (x == ("__classdict__" : Str)) = false := by decide) (he : starEach [e] X.env = (false, eval e X.env) :: starEach [] X.env := by rfl)
    (hbase : attributeBase (.Name x p1) "extend" X.env (eval (.Name x p1) X.env) = eval (.Name x p1) X.env := by rfl)
    (hfew : ((backTo p3 (starEach [e] X.env)).all (fun x => !x.1) && (backToKw p3 (keywordEach [] X.env)).all (fun x => x.1.isSome)
      && decide ([e].length + ([] : List Keyword).length + (if ([] : List Keyword).isEmpty then 0 else 1) < 30)) = true := by rfl)
    (hline : (p2.endLine == p3.line) = true := by rfl) (hplain : (backTo p3 (starEach [] X.env)).any (·.1) = false := by rfl)
    (hs : swapsWith (.Call (.Attribute (.Name x p1) "extend" p2) [e] [] p3) none p4.line X.env = pure false := by rfl) :
    PS X (.Expr (.Call (.Attribute (.Name x p1) "extend" p2) [e] [] p3) p4) (TS1 F (sExt i f)) :=
  (ps_expr (pe_bm PySem.F.plainAttrs_list PySem.F.slot_list_extend PySem.F.type_list_extend mt_extend (pe_var hN hv hd hcd) (pa_cons ha pa_nil he) hbase hfew hline he hplain) hs).imp fun D σ H ⟨C, ρ, g, x, h⟩ => by
    unfold sExt at h
    split at h
    · rename_i xs hx
      obtain ⟨a, vs, e1, e2, e3, e4, ne⟩ := x.own_lst hx
      refine ⟨.ref a, e1, .inl ⟨rfl, _, SqL.of e2⟩, C, ρ, g, x, ?_⟩
      cases q : f ρ g with
      | bad => rw [q] at h; exact h
      | exc c d g => rw [q] at h; exact h
      | ok r =>
        rw [q] at h
        simp only [Res.bind_ok] at h
        intro v H1 ex x1 w1
        obtain ⟨a', vs', f1, f2, f3, f4, _⟩ := x1.own_lst hx
        rw [e1] at f1; cases f1
        split at h
        · rename_i ys hys
          rw [hys] at w1
          obtain ⟨b, us, eb, nb, zb, lb, kb⟩ := w1
          split at h
          · rename_i hl
            rw [f4.length, kb.length] at hl
            refine ⟨a, b, vs', us, rfl, by rw [eb], f2, zb, hl, h _ _ (x1.upd hx e1 ⟨_, upd_same, by simpa using hl, ?_⟩)⟩
            exact Reps.agr (agr_upd (.inr ⟨i, _, hx, e1⟩)) (f4.app kb)
          · exact h.elim
        · exact h.elim
    · exact h.elim
theorem ss_pop {i j : Nat} {x y : Str} {p1 p2 p3 p4 p5 : Pos} (xf : XF X F) (hN : X.N[i]? = some x := by rfl) (hv : Vis X.env.scope x := by first | exact Or.inl rfl | exact Or.inr (Or.inl rfl) | exact Or.inr (Or.inr rfl)) (hd : (x == ("__debug__" : Str)) = false := by decide)
    (hcd : (x == ("__classdict__" : Str)) = false := by decide)
    (hbase : attributeBase (.Name x p1) "pop" X.env (eval (.Name x p1) X.env) = eval (.Name x p1) X.env := by rfl) (hline : (p2.endLine == p3.line) = true := by rfl)
    (hj : X.N[j]? = some y := by rfl) (hy : Loc X.env.scope y := by first | exact Or.inl rfl | exact Or.inr rfl) (hs : swapsWith (.Call (.Attribute (.Name x p1) "pop" p2) [] [] p3) (some (.Name y p5)) p4.line X.env = pure false := by rfl)
    (hf : X.fn y = true ∨ X.env.scope.names.lookup y = some .local := by first | exact .inl rfl | exact .inr rfl) :
    PS X (.Assign [.Name y p5] (.Call (.Attribute (.Name x p1) "pop" p2) [] [] p3) p4) (TS1 F (sPop j i)) :=
  (ps_set xf.N hj hy (pe_bm0 PySem.F.plainAttrs_list PySem.F.slot_list_pop PySem.F.type_list_pop mt_pop (pe_var hN hv hd hcd) hbase hline) hs hf).imp fun D σ H ⟨C, ρ, g, x, h⟩ => by
    unfold sPop at h
    split at h
    · rename_i xs hx
      obtain ⟨a, vs, e1, e2, e3, e4, ne⟩ := x.own_lst hx
      split at h
      · rename_i d hd
        split at h
        · rename_i hij
          rw [e4.length] at hd
          obtain ⟨v, h1, h2⟩ := Reps.at _ e4 hd
          refine ⟨.ref a, e1, .inl ⟨rfl, _, SqL.of e2⟩, a, vs, v, rfl, rfl, e2, h1, ?_⟩
          have y := x.upd (d' := .lst xs.dropLast) (o := .lst vs.dropLast) hx e1 ⟨_, upd_same, by simp; omega, Reps.agr (agr_upd (.inr ⟨i, _, hx, e1⟩)) e4.dropLast⟩
          refine h _ _ (y.setFrz (by simpa using hij.1) ?_)
          have sub : ∀ b, SO C (ρ.set i (.own (.lst xs.dropLast))) σ b → SO C ρ σ b := fun b z => z.elim .inl fun ⟨k, f, q1, q2⟩ => by
            by_cases hk : i = k
            · subst hk; exact .inr ⟨i, _, hx, q2⟩
            · rw [List.getElem?_set_ne hk] at q1; exact .inr ⟨k, f, q1, q2⟩
          exact (h2.agr (agr_upd (.inr ⟨i, _, hx, e1⟩))).sub sub
        · exact h.elim
      · exact h.elim
    · exact h.elim
/-- x[k] = e of one's own dict or list -/
def putKey (ds : D) (k d : D) : Option D :=
  match ds with
  | .dk kvs => if kvs.length < sizeLine then (keyOf k).map fun q => .dk (putD kvs q d) else none
  | .dt kvs => if kvs.length < sizeLine then (match k with
    | .tup ks => (keysOf ks).map fun q => .dt (putD kvs q d)
    | _ => none) else none
  | .lst xs => (match k with
    | .int i => (ixN xs.length i).map fun j => .lst (xs.set j d)
    | _ => none)
  | _ => none
def sPut (i : Nat) (fk fv : SE) : SS := fun ρ g => match ρ[i]? with
  | some (.own ds) => (fv ρ g).bind fun v => (fk ρ v.2).bind fun k => (match putKey ds k.1 v.1 with
    | some ds' => .ok (.nx, ρ.set i (.own ds'), k.2)
    | none => .bad)
  | _ => .bad
theorem repK_put {H S} : ∀ {kvs : List (Key × D)} {ws : List (Key × V)} {k : Key} {d : D} {v : V}, RepK F.mg H S F.r kvs ws → F.rp H S d v → RepK F.mg H S F.r (putD kvs k d) (putK ws k v) := by
  have rp : ∀ {kvs : List (Key × D)} {ws : List (Key × V)} {k : Key} {d : D} {v : V}, RepK F.mg H S F.r kvs ws → F.rp H S d v → RepK F.mg H S F.r (kvs.map fun q => if q.1 = k then (q.1, d) else q) (ws.map fun q => if q.1 = k then (q.1, v) else q) := by
    intro kvs
    induction kvs with
    | nil => intro ws k d v e _; rw [show ws = [] from e]; rfl
    | cons q kvs ih =>
      intro ws k d v ⟨w, ws', e, a, b⟩ h
      obtain ⟨k', d'⟩ := q
      rw [e, List.map_cons, List.map_cons]
      by_cases hk : k' = k
      · rw [if_pos hk, if_pos hk]; exact ⟨v, _, rfl, h, ih b h⟩
      · rw [if_neg hk, if_neg hk]; exact ⟨w, _, rfl, a, ih b h⟩
  intro kvs
  induction kvs with
  | nil => intro ws k d v e h; rw [show ws = [] from e]; exact ⟨v, [], rfl, h, rfl⟩
  | cons q kvs ih =>
    intro ws k d v ⟨w, ws', e, a, b⟩ h
    obtain ⟨k', d'⟩ := q
    rw [e]
    by_cases hk : k' = k
    · have e1 : putD ((k', d') :: kvs) k d = (k', d) :: kvs.map (fun q => if q.1 = k then (q.1, d) else q) := by simp [putD, hk]
      have e2 : putK ((k', w) :: ws') k v = (k', v) :: ws'.map (fun q => if q.1 = k then (q.1, v) else q) := by simp [putK, hk]
      rw [e1, e2]
      exact ⟨v, _, rfl, h, rp b h⟩
    · have e1 : putD ((k', d') :: kvs) k d = (k', d') :: putD kvs k d := by simp [putD, hk]
      have e2 : putK ((k', w) :: ws') k v = (k', w) :: putK ws' k v := by
        unfold putK
        simp only [List.any_cons, hk, decide_false, Bool.false_or, List.map_cons, if_false]
        split <;> rfl
      rw [e1, e2]
      exact ⟨w, _, rfl, a, ih b h⟩
theorem repT_put {H S} : ∀ {kvs : List (List Key × D)} {ws : List (List Key × V)} {k : List Key} {d : D} {v : V}, RepT F.mg H S F.r kvs ws → F.rp H S d v → RepT F.mg H S F.r (putD kvs k d) (putK ws k v) := by
  have rp : ∀ {kvs : List (List Key × D)} {ws : List (List Key × V)} {k : List Key} {d : D} {v : V}, RepT F.mg H S F.r kvs ws → F.rp H S d v → RepT F.mg H S F.r (kvs.map fun q => if q.1 = k then (q.1, d) else q) (ws.map fun q => if q.1 = k then (q.1, v) else q) := by
    intro kvs
    induction kvs with
    | nil => intro ws k d v e _; rw [show ws = [] from e]; rfl
    | cons q kvs ih =>
      intro ws k d v ⟨w, ws', e, a, b⟩ h
      obtain ⟨k', d'⟩ := q
      rw [e, List.map_cons, List.map_cons]
      by_cases hk : k' = k
      · rw [if_pos hk, if_pos hk]; exact ⟨v, _, rfl, h, ih b h⟩
      · rw [if_neg hk, if_neg hk]; exact ⟨w, _, rfl, a, ih b h⟩
  intro kvs
  induction kvs with
  | nil => intro ws k d v e h; rw [show ws = [] from e]; exact ⟨v, [], rfl, h, rfl⟩
  | cons q kvs ih =>
    intro ws k d v ⟨w, ws', e, a, b⟩ h
    obtain ⟨k', d'⟩ := q
    rw [e]
    by_cases hk : k' = k
    · have e1 : putD ((k', d') :: kvs) k d = (k', d) :: kvs.map (fun q => if q.1 = k then (q.1, d) else q) := by simp [putD, hk]
      have e2 : putK ((k', w) :: ws') k v = (k', v) :: ws'.map (fun q => if q.1 = k then (q.1, v) else q) := by simp [putK, hk]
      rw [e1, e2]
      exact ⟨v, _, rfl, h, rp b h⟩
    · have e1 : putD ((k', d') :: kvs) k d = (k', d') :: putD kvs k d := by simp [putD, hk]
      have e2 : putK ((k', w) :: ws') k v = (k', w) :: putK ws' k v := by
        unfold putK
        simp only [List.any_cons, hk, decide_false, Bool.false_or, List.map_cons, if_false]
        split <;> rfl
      rw [e1, e2]
      exact ⟨w, _, rfl, a, ih b h⟩
theorem repK_len {H S} : ∀ {kvs : List (Key × D)} {ws : List (Key × V)}, RepK F.mg H S F.r kvs ws → kvs.length = ws.length
  | [], _, e => by cases (show _ = [] from e); rfl
  | (_, _) :: _, _, ⟨v, ws, e, _, b⟩ => by rw [e]; simp [repK_len b]
theorem repT_len {H S} : ∀ {kvs : List (List Key × D)} {ws : List (List Key × V)}, RepT F.mg H S F.r kvs ws → kvs.length = ws.length
  | [], _, e => by cases (show _ = [] from e); rfl
  | (_, _) :: _, _, ⟨v, ws, e, _, b⟩ => by rw [e]; simp [repT_len b]
/-- x[k] = e, by values: dict or list -/
def rSetA : V → V → V → Hp → (Hp → Prop) → Prop := fun o i v H Q => rSetL o i v H Q ∨ ∃ a H', o = .ref a ∧ DPut H a i v H' ∧ Q H'
theorem set_any (hu : X.A.units + 1 < cLine) : PSet X rSetA := by
  intro pins s σ H o i v ov iv u Q I ro ri rv h
  rcases h with h | ⟨a, H', rfl, g, q⟩
  · exact set_list pins s σ H o i v ov iv u Q I ro ri rv h
  · cases ro
    exact d_setItem hu I g ri rv fun s' I' => ⟨H', I', q⟩
theorem ss_put {i : Nat} {x : Str} {p1 p2 p4 : Pos} (xf : XF X F) (ha : PE X a (T F fa)) (hb : PE X b (T F fb)) (hN : X.N[i]? = some x := by rfl) (hv : Vis X.env.scope x := by first | exact Or.inl rfl | exact Or.inr (Or.inl rfl) | exact Or.inr (Or.inr rfl)) (hd : (x == ("__debug__" : Str)) = false := by decide)
    (hcd : (x == ("__classdict__" : Str)) = false := by decide)
    (hsub : ∀ v, assign (.Subscript (.Name x p1) a p2) X.env v = (do
      let ov ← holding [v] (eval (.Name x p1) X.env)
      let iv ← holding [v, ov] (eval a X.env)
      standAt p2
      holding [v, ov, iv] (setItem ov iv v)
      release [v, ov, iv] []) := by intro _; rfl)
    (hs : swapsWithSole [.Subscript (.Name x p1) a p2] b p4.line X.env = pure false := by rfl) (hw : swappedStores [.Subscript (.Name x p1) a p2] b X.env = pure none := by rfl)
    (h1 : (assignEach [.Subscript (.Name x p1) a p2] X.env).map (·.2) = [assign (.Subscript (.Name x p1) a p2) X.env] := by rfl) :
    PS X (.Assign [.Subscript (.Name x p1) a p2] b p4) (TS1 F (sPut i fa fb)) :=
  (ps_asg hb (pg_sub (pe_var hN hv hd hcd) ha (set_any (by have := xf.u; omega)) hsub) hs hw h1).imp fun D σ H ⟨C, ρ, g, x, h⟩ => by
    unfold sPut at h
    split at h
    · rename_i ds hx
      refine ⟨C, ρ, g, x, ?_⟩
      cases q : fb ρ g with
      | bad => rw [q] at h; exact h
      | exc c d g => rw [q] at h; exact h
      | ok r =>
        rw [q] at h
        simp only [Res.bind_ok] at h
        intro v H1 ex1 x1 w1
        obtain ⟨a, e1, e2, e3⟩ := x1.own i ds hx
        refine ⟨.ref a, e1, C, ρ, r.2, x1, ?_⟩
        cases q2 : fa ρ r.2 with
        | bad => rw [q2] at h; exact h
        | exc c d g => rw [q2] at h; exact h
        | ok r2 =>
          rw [q2] at h
          simp only [Res.bind_ok] at h
          intro k H2 ex2 x2 w2
          have w3 := w1.agr (ex2.agr x.so)
          obtain ⟨a', f1, f2, f3⟩ := x2.own i ds hx
          rw [e1] at f1; cases f1
          have ag : ∀ o, Agr (SO C ρ σ) H2 (L2.upd H2 a o) := fun o => agr_upd (.inr ⟨i, _, hx, e1⟩)
          cases q3 : putKey ds r2.1 r.1 with
          | none => rw [q3] at h; exact h.elim
          | some ds' =>
            rw [q3] at h
            unfold putKey at q3
            split at q3
            · rename_i kvs
              split at q3
              · rename_i hl
                obtain ⟨ws, z1, z2, z3⟩ := f3
                cases q4 : keyOf r2.1 with
                | none => rw [q4] at q3; cases q3
                | some k' =>
                  rw [q4] at q3
                  cases q3
                  rw [repK_len z3] at hl
                  refine .inr ⟨a, _, rfl, .inl ⟨ws, k', z1, keyOf_v q4 w2, hl, rfl⟩, h _ _ (x2.upd hx e1 ⟨_, upd_same, ?_, (repK_put z3 w3).agr (ag _)⟩)⟩
                  have := length_putK ws k' v
                  omega
              · cases q3
            · rename_i kvs
              split at q3
              · rename_i hl
                obtain ⟨ws, z1, z2, z3⟩ := f3
                split at q3
                · rename_i ks hks
                  rw [hks] at w2
                  obtain ⟨b, us, eb, nb, zb, lb, kb⟩ := w2
                  cases q4 : keysOf ks with
                  | none => rw [q4] at q3; cases q3
                  | some k' =>
                    rw [q4] at q3
                    cases q3
                    rw [repT_len z3] at hl
                    refine .inr ⟨a, _, rfl, .inr ⟨ws, k', b, z1, eb, by rw [zb, keysOf_v q4 kb], hl, rfl⟩, h _ _ (x2.upd hx e1 ⟨_, upd_same, ?_, (repT_put z3 w3).agr (ag _)⟩)⟩
                    have := length_putK ws k' v
                    omega
                · cases q3
              · cases q3
            · rename_i xs
              split at q3
              · rename_i n hn
                obtain ⟨vs, z1, z2, z3⟩ := f3
                cases q4 : ixN xs.length n with
                | none => rw [q4] at q3; cases q3
                | some j =>
                  rw [q4] at q3
                  cases q3
                  rw [hn] at w2
                  rw [z3.length] at q4
                  exact .inl ⟨a, vs, n, j, rfl, w2, z1, q4, h _ _ (x2.upd hx e1 ⟨_, upd_same, by simpa using z2, (z3.set j w3).agr (ag _)⟩)⟩
              · cases q3
            · cases q3
    · exact h.elim
end
end RP
end L2
set_option Elab.async false
set_option linter.all false
set_option maxRecDepth 100000
/-! R13a: enumerate and zip over lists and tuples, in any mixture. -/
namespace L2
namespace RP
open PySem PySem.Spec PyProof.Rows

/-- m: a tuple, else a list -/
def SqM (m : Bool) (K : PySem.W.Frag) (H : Hp) (a : Addr) (xs : List V) : Prop := match m with
  | true => SqT K H a xs
  | false => SqL K H a xs
def ItM (m : Bool) (h : Heap) (it a : Addr) (i : Nat) : Prop := match m with
  | true => h.IsTupleIter it a i
  | false => h.IsListIter it a i
def OM (m : Bool) (h : Heap) (a : Addr) (its : Array Value) : Prop := match m with
  | true => h.IsTuple a its
  | false => h.IsList a its
def itObj (m : Bool) (a : Addr) : Obj := match m with
  | true => { cls := .type "tuple_iterator", data := .fields #[.ref a, .int 0 0] }
  | false => { cls := .type "list_iterator", data := .fields #[.ref a, .int 0 0] }
theorem drawsM {prog : Program} {w : World} {A : Around} (hh : A.handled = none) (m : Bool) (it t : Addr) (hne : t ≠ it) (items : Array Value) : Draws prog w A it [it, t] items.size (fun i v => items[i]? = some v) (fun i h => ItM m h it t i ∧ OM m h t items) := by
  cases m with
  | true => exact Draws.tuple hh it t hne items
  | false => exact Draws.list hh it t hne items
theorem beginsM (m : Bool) (t : Addr) (items : Array Value) : Begins (.ref t) (itObj m t) fun h => OM m h t items := by
  cases m with
  | true => exact begins_tuple t items
  | false => exact begins_list t items
theorem itM_0 {m : Bool} {h : Heap} {it a : Addr} (e : h.get? it = some (itObj m a)) : ItM m h it a 0 := by
  cases m with
  | true => exact ⟨_, e, rfl, rfl⟩
  | false => exact ⟨_, e, rfl, rfl⟩
theorem itM_obj {m : Bool} {h : Heap} {it a : Addr} {i : Nat} (e : ItM m h it a i) : ∃ o, h.get? it = some o ∧ ∀ v, o.data ≠ .cell v := by
  cases m with
  | true => obtain ⟨o, e, c, d⟩ := e; exact ⟨o, e, fun v q => by rw [d] at q; cases q⟩
  | false => obtain ⟨o, e, c, d⟩ := e; exact ⟨o, e, fun v q => by rw [d] at q; cases q⟩
theorem itM_at {m : Bool} {h h' : Heap} {it a : Addr} {i : Nat} (e : ItM m h it a i) (k : ∀ o, h.get? it = some o → h'.get? it = some o) : ItM m h' it a i := by
  cases m with
  | true => exact Heap.IsTupleIter.at e k
  | false => exact Heap.IsListIter.at e k
section
variable {X : Cx} {pins : List (Addr × Obj)} {σ : St} {H : Hp} {s : Shared} {a : Addr} {xs ys : List V} {m : Bool}
theorem seqM (I : Inv X pins σ H s) (h : SqM m X.K H a xs) : ∃ its : List Value, Vals xs its ∧ OM m s.heap a its.toArray ∧ a < s.heap.objs.size := by
  cases m with
  | true => obtain ⟨its, r, p, _⟩ := I.tuple h; obtain ⟨o, ho, _⟩ := id p; exact ⟨its, r, p, Heap.lt_size ho⟩
  | false => obtain ⟨its, r, p, _⟩ := I.list h; exact ⟨its, r, p.isList, p.lt⟩
theorem seqM_inj (I : Inv X pins σ H s) (h : SqM m X.K H a xs) (h' : SqM m X.K H a ys) : xs = ys := by
  cases m with
  | true => exact I.tuple_inj h h'
  | false => exact I.list_inj h h'
end
/-- the things of a list or tuple with their places -/
def IteM (m : Bool) (K : PySem.W.Frag) (a : Addr) : It :=
  ⟨fun i H => ∃ (xs : List V) (x : V), SqM m K H a xs ∧ xs[i]? = some x, fun i H v H' => ∃ T x, v = .ref T ∧ H T = none ∧ H' = upd H T (.tup [.int (i : Nat), x]) ∧ ∀ xs, SqM m K H a xs → xs[i]? = some x, fun i H => ∃ xs : List V, SqM m K H a xs ∧ xs.length = i⟩
theorem turn_enumM {P : Program} {w : World} {K : PySem.W.Frag} {elts : List Expr} {kk : Nat} {tpos : Pos} (m : Bool) (a e it : Addr) :
    Turn P w K (.Tuple elts kk tpos) (IteM m K a) [e, it] e (fun i h => (∃ old, IsEnum h e it ((i : Nat) : Int) old) ∧ ItM m h it a i ∧ e ≠ it ∧ e ≠ a ∧ a ≠ it) where
  mem := by simp
  obj := fun i h st b hb => by
    obtain ⟨⟨old, he⟩, hi, _⟩ := st
    have e' : b = e ∨ b = it := by simpa using hb
    rcases e' with z | z
    · rw [z]; exact ⟨_, he, fun v q => nomatch q⟩
    · rw [z]; exact itM_obj hi
  keep := fun i h h' st k => let ⟨⟨old, he⟩, hi, hne⟩ := st; ⟨⟨old, k e (by simp) _ he⟩, itM_at hi fun o q => k it (by simp) o q, hne⟩
  item := by
    intro X hP hw hK hc i pins s σ H E I hf st hg
    subst hP hw hK
    obtain ⟨⟨old, he⟩, hit, hne, hea, hai⟩ := st
    obtain ⟨xs, x, hq, hx⟩ := hg
    obtain ⟨its, rv, p, hz⟩ := seqM I hq
    obtain ⟨u, hu, ru⟩ := rv.get hx
    have hel : e < s.heap.objs.size := Heap.lt_size he
    have hil : it < s.heap.objs.size := by obtain ⟨_, q, _⟩ := itM_obj hit; exact Heap.lt_size q
    have D := drawsM (prog := X.prog) (w := X.w) (A := X.A.in1) (I.ok.hd hc) m it a hai its.toArray
    have hlt : i < its.toArray.size := by
      rw [List.size_toArray]
      exact (List.getElem?_eq_some_iff.mp hu).1
    refine wpAny_pyNext_enum_itemC D he ⟨hit, p⟩ hlt hne (by simp [hne, hea]) fun x' h' tk' hp' ho hit' hT hsz hk => ?_
    have ex : x' = u := by
      have : its.toArray[i]? = some u := by simpa using hu
      rw [this] at hp'
      exact (Option.some.inj hp').symm
    subst ex
    refine ⟨_, rfl, wpAny_letOwnedTupleGo_enum (s := { s with heap := h', toks := tk' + 1 }) ho fun h'' he' sb => ?_⟩
    have hT2 : h''.get? s.heap.objs.size = some { cls := .type "tuple", data := .seq #[.int i tk', x'] } := (sb.2 _ (Nat.ne_of_gt hel)).trans hT
    have new : ObjOk X.prog X.w (upd H s.heap.objs.size (.tup [.int (i : Nat), x])) h'' s.heap.objs.size (.tup [.int (i : Nat), x]) :=
      ⟨by show 2 ≤ sizeLine; decide, [.int i tk', x'], .cons ⟨_, rfl⟩ (.cons ru .nil), ⟨_, hT2, rfl, _, rfl⟩⟩
    have I1 : Inv X pins σ (upd H s.heap.objs.size (.tup [.int (i : Nat), x])) { s with heap := h'', toks := tk' + 1 } :=
      I.turnedNew (ch := [e, it]) (fun b ob hb q => (sb.2 b (fun z => hb (by simp [z]))).trans (hk b ob (fun z => hb (by simp [z])) (fun z => hb (by simp [z])) q)) hf (Nat.le_refl _) new
    refine ⟨.ref s.heap.objs.size, _, I1, rfl, ⟨_, x, rfl, I.hok.fresh (Nat.le_refl _), rfl, fun ys hy => by rw [seqM_inj I hy hq]; exact hx⟩, ⟨⟨x', ?_⟩, itM_at hit'.1 fun o q => (sb.2 it (Ne.symm hne)).trans q, hne, hea, hai⟩, fun b hb => ?_⟩
    · have e1 : ((i + 1 : Nat) : Int) = (i : Int) + 1 := by omega
      rw [e1]; exact he'
    · have hb' : b < s.heap.objs.size := by
        have e' : b = e ∨ b = it := by simpa using hb
        rcases e' with z | z
        · rw [z]; exact hel
        · rw [z]; exact hil
      rw [upd_ne (Nat.ne_of_lt hb')]
      exact (hf b hb).1
  done := by
    intro X hP hw hK hc i pins s σ H E I hf st hg
    subst hP hw hK
    obtain ⟨⟨old, he⟩, hit, hne, hea, hai⟩ := st
    obtain ⟨xs, hq, hx⟩ := hg
    obtain ⟨its, rv, p, hz⟩ := seqM I hq
    obtain ⟨f0, f1, f2, f3, f4, f5⟩ := hf it (by simp)
    have hl := rv.length
    have D := drawsM (prog := X.prog) (w := X.w) (A := X.A.in1) (I.ok.hd hc) m it a hai its.toArray
    have hi : i = its.toArray.size := by rw [List.size_toArray]; omega
    refine wpAny_pyNext_enum_endD D he ⟨hi ▸ hit, p⟩ fun h' eb => ⟨rfl, I.turned (t' := s.toks) (fun b o hb q => eb b o hb q) f0 f1 f3 f4 f5⟩
  self := fun A i s Q E st h => let ⟨⟨_, he⟩, _⟩ := st; wpAny_pyIter_enum he h
set_option maxHeartbeats 1000000 in
theorem meets_enumerate_new1 {v : Value} {o : Obj} {H : Heap → Prop} (B : Begins v o H) :
    Meets (Builtin.«enumerate.__new__» ⟨[.type "enumerate", v], []⟩) (fun _ R s => H s.heap ∧
      R (.ok (.ret (.ref (s.heap.push o).objs.size))) { s with heap := (s.heap.push o).push { cls := .type "enumerate", data := .fields #[.none, .bool false, .ref s.heap.objs.size, rawInt 0, .none, .none] } }) :=
  .of_wp fun prog w A R s h => by
    obtain ⟨hp, g, d, tk, os⟩ := s; obtain ⟨h1, h⟩ := h
    have hsub := sub_enumerate
    have q1 : ∀ {A' : Around} {E : Value → Shared → Prop} {Q : Value → Shared → Prop}, Q (.ref hp.objs.size) ⟨hp.push o, g, d, tk, os⟩ → wpAny (model prog w) A' (pyIter v) Q E ⟨hp, g, d, tk, os⟩ :=
      fun q => B.iter prog w _ _ ⟨hp, g, d, tk, os⟩ _ h1 q
    wp_walk using q1
    refine wpAny_stack_any fun st => wpAny_pure ?_
    split
    · rename_i c _ _ _ _ _
      cases (c == Value.type "enumerate")
      · wp_walk using q1
        exact ⟨_, rfl, h⟩
      · wp_walk using q1
        exact ⟨_, rfl, h⟩
    · wp_walk using q1
      exact ⟨_, rfl, h⟩
theorem enum_begins1 {prog : Program} {w : World} {A : Around} {E : Value → Shared → Prop} {s : Shared} {v : Value} {o : Obj} {H : Heap → Prop} {Q : Value → Shared → Prop} (B : Begins v o H) (h1 : H s.heap)
    (h : ∀ h', IsEnum h' (s.heap.objs.size + 1) s.heap.objs.size 0 .none → h'.get? s.heap.objs.size = some o → h'.objs.size = s.heap.objs.size + 2 →
      (∀ b o, s.heap.get? b = some o → h'.get? b = some o) → Q (.ref (s.heap.objs.size + 1)) { s with heap := h' }) :
    wpAny (model prog w) A (call (.type "enumerate") [v]) Q E s := by
  refine callType_new F.called_enumerate (by decide) (F.typeCall_enumerate_1 _) (F.newCall_enumerate_1 _) (fun obj => F.args_object_init_2 obj _) F.entry_enumerate_new
    (meets_enumerate_new1 B) ⟨h1, ?_⟩
  have hz : (s.heap.push o).objs.size = s.heap.objs.size + 1 := Heap.size_push ..
  show _ ∧ _
  rw [hz]
  have he : IsEnum ((s.heap.push o).push { cls := .type "enumerate", data := .fields #[.none, .bool false, .ref s.heap.objs.size, rawInt 0, .none, .none] }) (s.heap.objs.size + 1) s.heap.objs.size 0 .none := by
    have := Heap.get?_push_size (s.heap.push o) (o := { cls := .type "enumerate", data := .fields #[.none, .bool false, .ref s.heap.objs.size, rawInt 0, .none, .none] }) rfl
    rw [hz] at this; exact this
  refine ⟨⟨_, he, rfl⟩, h _ he (Heap.get?_push_of_some _ (Heap.get?_push_size _ B.free)) (by rw [Heap.size_push, hz]) fun b o x => Heap.get?_push_of_some _ (Heap.get?_push_of_some _ x)⟩
def iEnumM (K : PySem.W.Frag) (ta : TA) : TI := fun σ H R => ta σ H fun vs H1 => ∃ m a xs, vs = [.ref a] ∧ SqM m K H1 a xs ∧ R (IteM m K a) H1
theorem pi_enumM {X : Cx} {e : Expr} {ta : TA} {p pos tpos : Pos} {elts : List Expr} {kk : Nat} (hg : Gl X "enumerate") (hm : X.mg "enumerate" = none) (ha : PA X [e] ta) (hs : starEach [e] X.env = [(false, eval e X.env)] := by rfl) :
    PI X (.Tuple elts kk tpos) (.Call (.Name "enumerate" p) [e] [] pos) (iEnumM X.K ta) := by
  refine ⟨fun pins s σ H R I h => ?_⟩
  refine Call_ (ld_blt I hg hm boot_enumerate (PyProof.Rows.callWith_type1 (thn (ha.run pos pins s σ H _ I h) fun us s1 ⟨vs, H1, I1, r1, q1⟩ => ?_) hs rfl))
  obtain ⟨m, a, xs, ex, hq, q⟩ := q1
  subst ex
  cases r1 with
  | cons r rr =>
    cases rr
    cases r
    obtain ⟨its, rv, p', hz⟩ := seqM I1 hq
    refine enum_begins1 (beginsM m a its.toArray) p' fun h' he hit hsz hk => wpAny_pyIter_enum he ?_
    have I2 : Inv X pins σ H1 { s1 with heap := h' } := I1.kept (t' := s1.toks) hk
    refine ⟨s1.heap.objs.size + 1, [s1.heap.objs.size + 1, s1.heap.objs.size], _, _, H1, rfl, I2, turn_enumM m a (s1.heap.objs.size + 1) s1.heap.objs.size, ⟨⟨.none, he⟩, itM_0 hit, Nat.succ_ne_self _, Nat.ne_of_gt (Nat.lt_succ_of_lt hz), Nat.ne_of_lt hz⟩, fun b hb => ?_, q⟩
    have e' : b = s1.heap.objs.size + 1 ∨ b = s1.heap.objs.size := by simpa using hb
    have hle : s1.heap.objs.size ≤ b := by
      rcases e' with z | z
      · rw [z]; exact Nat.le_add_right _ _
      · rw [z]; exact Nat.le_refl _
    exact I1.fpOk hle (I1.hok.fresh hle)
/-! ### zip -/
def ItzM (m n : Bool) (K : PySem.W.Frag) (a b : Addr) : It :=
  ⟨fun i H => ∃ (xs ys : List V) (x y : V), SqM m K H a xs ∧ SqM n K H b ys ∧ xs[i]? = some x ∧ ys[i]? = some y,
    fun i H v H' => ∃ T x y, v = .ref T ∧ H T = none ∧ H' = upd H T (.tup [x, y]) ∧ (∀ xs, SqM m K H a xs → xs[i]? = some x) ∧ ∀ ys, SqM n K H b ys → ys[i]? = some y,
    fun i H => ∃ xs ys : List V, SqM m K H a xs ∧ SqM n K H b ys ∧ i = min xs.length ys.length⟩
theorem turn_zipM {P : Program} {w : World} {K : PySem.W.Frag} {elts : List Expr} {kk : Nat} {tpos : Pos} (m n : Bool) {a b z TI TO i1 i2 : Addr} (Z : ZipSep2 z TI TO i1 i2 [i1, a] [i2, b]) (n1 : a ≠ i1) (n2 : b ≠ i2) :
    Turn P w K (.Tuple elts kk tpos) (ItzM m n K a b) [z, TI, TO, i1, i2] z (fun i h => IsZip h z TI TO .none ∧ IsTupOf2 h TI (.ref i1) (.ref i2) ∧ (∃ x y, IsTupOf2 h TO x y) ∧ ItM m h i1 a i ∧ ItM n h i2 b i) where
  mem := by simp
  obj := fun i h st c hc => by
    obtain ⟨hz, hTI, ⟨x, y, hTO⟩, h1, h2⟩ := st
    have e' : c = z ∨ c = TI ∨ c = TO ∨ c = i1 ∨ c = i2 := by simpa using hc
    rcases e' with q | q | q | q | q
    · rw [q]; exact ⟨_, hz, fun v q => nomatch q⟩
    · rw [q]; exact ⟨_, hTI, fun v q => nomatch q⟩
    · rw [q]; exact ⟨_, hTO, fun v q => nomatch q⟩
    · rw [q]; exact itM_obj h1
    · rw [q]; exact itM_obj h2
  keep := fun i h h' st k => by
    obtain ⟨hz, hTI, ⟨x, y, hTO⟩, h1, h2⟩ := st
    exact ⟨k z (by simp) _ hz, k TI (by simp) _ hTI, ⟨x, y, k TO (by simp) _ hTO⟩, itM_at h1 fun o q => k i1 (by simp) o q, itM_at h2 fun o q => k i2 (by simp) o q⟩
  item := by
    intro X hP hw hK hc i pins s σ H E I hf st hg
    subst hP hw hK
    obtain ⟨hz, hTI, ⟨x0, y0, hTO⟩, h1, h2⟩ := st
    obtain ⟨xs, ys, x, y, hqx, hqy, hx, hy⟩ := hg
    obtain ⟨its, rv, p, _⟩ := seqM I hqx
    obtain ⟨its2, rv2, p2, _⟩ := seqM I hqy
    obtain ⟨u, hu, ru⟩ := rv.get hx
    obtain ⟨u2, hu2, ru2⟩ := rv2.get hy
    have hzl : z < s.heap.objs.size := Heap.lt_size hz
    have D1 := drawsM (prog := X.prog) (w := X.w) (A := X.A.in1) (I.ok.hd hc) m i1 a n1 its.toArray
    have D2 := drawsM (prog := X.prog) (w := X.w) (A := X.A.in1) (I.ok.hd hc) n i2 b n2 its2.toArray
    have l1 : i < its.toArray.size := by rw [List.size_toArray]; exact (List.getElem?_eq_some_iff.mp hu).1
    have l2 : i < its2.toArray.size := by rw [List.size_toArray]; exact (List.getElem?_eq_some_iff.mp hu2).1
    refine wpAny_pyNext_zipD2_item Z D1 D2 hz hTI hTO ⟨h1, p⟩ ⟨h2, p2⟩ l1 l2 fun v1 v2 h' tk' e1 e2 z' TO' h1' h2' hT hsz hk => ?_
    have ex : v1 = u := by
      have : its.toArray[i]? = some u := by simpa using hu
      rw [this] at e1
      exact (Option.some.inj e1).symm
    have ey : v2 = u2 := by
      have : its2.toArray[i]? = some u2 := by simpa using hu2
      rw [this] at e2
      exact (Option.some.inj e2).symm
    subst ex ey
    refine ⟨_, rfl, wpAny_letOwnedTupleGo_zip (s := { s with heap := h', toks := tk' }) z' fun h'' z'' sb => ?_⟩
    have hT2 : h''.get? s.heap.objs.size = some { cls := .type "tuple", data := .seq #[v1, v2] } := (sb.2 _ (Nat.ne_of_gt hzl)).trans hT
    have new : ObjOk X.prog X.w (upd H s.heap.objs.size (.tup [x, y])) h'' s.heap.objs.size (.tup [x, y]) :=
      ⟨by show 2 ≤ sizeLine; decide, [v1, v2], .cons ru (.cons ru2 .nil), ⟨_, hT2, rfl, _, rfl⟩⟩
    have hTIz : s.heap.get? TI = some { cls := .type "tuple", data := .seq #[.ref i1, .ref i2] } := hTI
    have I1 : Inv X pins σ (upd H s.heap.objs.size (.tup [x, y])) { s with heap := h'', toks := tk' } :=
      I.turnedNew (ch := [z, TI, TO, i1, i2]) (fun c o hb q => (sb.2 c (fun q' => hb (by simp [q']))).trans (hk c o (fun q' => hb (by simp [q'])) (fun q' => hb (by simp [q'])) (fun q' => hb (by simp [q'])) (fun q' => hb (by simp [q'])) q)) hf (Nat.le_refl _) new
    have zi1 : i1 ≠ z := fun q => Z.zf1 (by simp [q])
    have zi2 : i2 ≠ z := fun q => Z.zf2 (by simp [q])
    refine ⟨.ref s.heap.objs.size, _, I1, rfl, ⟨_, x, y, rfl, I.hok.fresh (Nat.le_refl _), rfl, fun l hl => by rw [seqM_inj I hl hqx]; exact hx, fun l hl => by rw [seqM_inj I hl hqy]; exact hy⟩, ⟨z'', ?_, ⟨v1, v2, ?_⟩, ?_, ?_⟩, fun c hcm => ?_⟩
    · exact (sb.2 _ Z.TIz).trans (hk _ _ Z.TIz Z.TITO Z.TIi1 Z.TIi2 hTI)
    · exact (sb.2 _ Z.TOz).trans TO'
    · exact itM_at h1'.1 fun o q => (sb.2 _ zi1).trans q
    · exact itM_at h2'.1 fun o q => (sb.2 _ zi2).trans q
    · have hlt : c < s.heap.objs.size := by
        have e' : c = z ∨ c = TI ∨ c = TO ∨ c = i1 ∨ c = i2 := by simpa using hcm
        rcases e' with q | q | q | q | q
        · rw [q]; exact hzl
        · rw [q]; exact Heap.lt_size hTI
        · rw [q]; exact Heap.lt_size hTO
        · rw [q]; obtain ⟨_, e1, _⟩ := itM_obj h1; exact Heap.lt_size e1
        · rw [q]; obtain ⟨_, e2, _⟩ := itM_obj h2; exact Heap.lt_size e2
      rw [upd_ne (Nat.ne_of_lt hlt)]
      exact (hf c hcm).1
  done := by
    intro X hP hw hK hc i pins s σ H E I hf st hg
    subst hP hw hK
    obtain ⟨hz, hTI, ⟨x0, y0, hTO⟩, h1, h2⟩ := st
    obtain ⟨xs, ys, hqx, hqy, hend⟩ := hg
    obtain ⟨its, rv, p, _⟩ := seqM I hqx
    obtain ⟨its2, rv2, p2, _⟩ := seqM I hqy
    have l1 := rv.length
    have l2 := rv2.length
    have D1 := drawsM (prog := X.prog) (w := X.w) (A := X.A.in1) (I.ok.hd hc) m i1 a n1 its.toArray
    have D2 := drawsM (prog := X.prog) (w := X.w) (A := X.A.in1) (I.ok.hd hc) n i2 b n2 its2.toArray
    refine wpAny_pyNext_zipD2_end Z D1 D2 hz hTI hTO ⟨h1, p⟩ ⟨h2, p2⟩ (by rw [List.size_toArray]; omega) (by rw [List.size_toArray]; omega) (by rw [List.size_toArray, List.size_toArray]; omega) fun h' tk' hk => ⟨rfl, I.turnedL (ch := [z, TI, TO, i1, i2]) (fun c o hb q =>
      hk c o (fun q' => hb (by simp [q'])) (fun q' => hb (by simp [q'])) (fun q' => hb (by simp [q'])) (fun q' => hb (by simp [q'])) q) hf⟩
  self := fun A i s Q E st h => wpAny_pyIter_zip st.1 h
def iZipM (K : PySem.W.Frag) (ta : TA) : TI := fun σ H R => ta σ H fun vs H1 => ∃ m n a b xs ys, vs = [.ref a, .ref b] ∧ SqM m K H1 a xs ∧ SqM n K H1 b ys ∧ R (ItzM m n K a b) H1
theorem pi_zipM {X : Cx} {e e2 : Expr} {ta : TA} {p pos tpos : Pos} {elts : List Expr} {kk : Nat} (hg : Gl X "zip") (hm : X.mg "zip" = none) (ha : PA X [e, e2] ta)
    (hs : starEach [e, e2] X.env = (false, eval e X.env) :: starEach [e2] X.env := by rfl) (hpl : (backTo pos (starEach [e2] X.env)).any (·.1) = false := by rfl) :
    PI X (.Tuple elts kk tpos) (.Call (.Name "zip" p) [e, e2] [] pos) (iZipM X.K ta) := by
  refine ⟨fun pins s σ H R I h => ?_⟩
  refine Call_ (ld_blt I hg hm PyProof.Rows.boot_zip (PyProof.Rows.callWith_type1 (thn (ha.run pos pins s σ H _ I h) fun us s1 ⟨vs, H1, I1, r1, q1⟩ => ?_) hs hpl))
  obtain ⟨m, n, a, b, xs, ys, ex, hqx, hqy, q⟩ := q1
  subst ex
  cases r1 with
  | cons r rr =>
    cases rr with
    | cons r' rr =>
      cases rr
      cases r
      cases r'
      obtain ⟨its, rv, p1, la⟩ := seqM I1 hqx
      obtain ⟨its2, rv2, p2, lb⟩ := seqM I1 hqy
      refine zip_begins2 (beginsM m a its.toArray) (beginsM n b its2.toArray) p1 p2 fun h' hz hTI hTO h1 h2 hsz hk => wpAny_pyIter_zip hz ?_
      have I2 : Inv X pins σ H1 { s1 with heap := h' } := I1.kept (t' := s1.toks) hk
      refine ⟨s1.heap.objs.size + 4, [s1.heap.objs.size + 4, s1.heap.objs.size + 2, s1.heap.objs.size + 3, s1.heap.objs.size, s1.heap.objs.size + 1], _, _, H1, rfl, I2,
        turn_zipM m n (zip_sep2 (fp1 := [a]) (fp2 := [b]) (fun c hc => by have e : c = a := (by simpa using hc); rw [e]; exact la) (fun c hc => by have e : c = b := (by simpa using hc); rw [e]; exact lb)) (Nat.ne_of_lt la) (Nat.ne_of_lt (Nat.lt_succ_of_lt lb)), ⟨hz, hTI, ⟨_, _, hTO⟩, itM_0 h1, itM_0 h2⟩, fun c hcm => ?_, q⟩
      have e' : c = s1.heap.objs.size + 4 ∨ c = s1.heap.objs.size + 2 ∨ c = s1.heap.objs.size + 3 ∨ c = s1.heap.objs.size ∨ c = s1.heap.objs.size + 1 := by simpa using hcm
      have hle : s1.heap.objs.size ≤ c := by
        rcases e' with z | z | z | z | z
        · rw [z]; exact Nat.le_add_right _ _
        · rw [z]; exact Nat.le_add_right _ _
        · rw [z]; exact Nat.le_add_right _ _
        · rw [z]; exact Nat.le_refl _
        · rw [z]; exact Nat.le_add_right _ _
      exact I1.fpOk hle (I1.hok.fresh hle)
end RP
end L2
set_option Elab.async false
set_option linter.all false
set_option maxRecDepth 100000
/-! R13: what is walked; for, while. -/
namespace L2
namespace RP
open PySem PySem.Spec PyProof.Rows

/-- J goes through the things ds, while all of B stays -/
structure Wk (F : Fx) (S0 : Addr → Prop) (B : Hp) (J : It) (ds : List D) : Prop where
  go : ∀ i H, Ext F.r B H → i < ds.length → J.go i H
  stop : ∀ H, Ext F.r B H → J.stop ds.length H
  yld : ∀ i H x H', Ext F.r B H → i < ds.length → J.yld i H x H' → ∃ d, ds[i]? = some d ∧ (H' = H ∨ ∃ T o, H T = none ∧ H' = upd H T o) ∧ ∀ S, S F.r → (∀ a, S a → (S0 a ∧ B a ≠ none) ∨ (B a = none ∧ H a ≠ none)) → F.rp H' S d x
/-- what is walked are the things that f tells -/
def TIt (F : Fx) (f : SEs) : TI := fun σ H R' => ∃ C ρ g, R F C ρ g σ H ∧ match f ρ g with
  | .ok (ds, g1) => ∀ J H1, Ext F.r H H1 → R F C ρ g1 σ H1 → Wk F C.S (restr ρ σ H1) J ds → ds.length ≤ sizeLine → R' J H1
  | .exc c d g1 => ExcEnd F C c d g1
  | .bad => False
section
variable {X : Cx} {F : Fx} {e a b c tg : Expr} {es : List Expr} {fa fb f fc : SE} {fi : SEs} {pos p p2 pos2 : Pos}
theorem _root_.L2.PI.or {t t' : TI} (h : PI X tg e t) (h' : PI X tg e t') : PI X tg e (fun σ H Q => t σ H Q ∨ t' σ H Q) :=
  ⟨fun pins s σ H Q I q => q.elim (h.run pins s σ H Q I) (h'.run pins s σ H Q I)⟩
/-- a kept list's parts, for whoever reads later -/
theorem reps_up {C : Ctx} {ρ : En} {g : G} {σ : St} {H H' : Hp} {ds : List D} {vs : List V} {S : Addr → Prop} (x : R F C ρ g σ H) (w : F.rps H (SO C ρ σ) ds vs) (e : Ext F.r (restr ρ σ H) H') (hr : S F.r)
    (hS : ∀ a, S a → (C.S a ∧ restr ρ σ H a ≠ none) ∨ (restr ρ σ H a = none ∧ H' a ≠ none)) : F.rps H' S ds vs := by
  have w2 : F.rps (restr ρ σ H) (SO C ρ σ) ds vs := Reps.agr (.of fun a o n q _ => by rw [restr_of fun z => n (.inr z)]; exact q) w
  have w3 : F.rps (restr ρ σ H) S ds vs := Reps.sup (fun a z => (hS a z).elim (fun z => .inl (.inl z.1)) fun z => .inr z.1) w2
  exact Reps.agr (e.agr hr) w3
theorem rep_up {C : Ctx} {ρ : En} {g : G} {σ : St} {H H' : Hp} {d : D} {v : V} {S : Addr → Prop} (x : R F C ρ g σ H) (w : F.rp H (SO C ρ σ) d v) (e : Ext F.r (restr ρ σ H) H') (hr : S F.r)
    (hS : ∀ a, S a → (C.S a ∧ restr ρ σ H a ≠ none) ∨ (restr ρ σ H a = none ∧ H' a ≠ none)) : F.rp H' S d v := by
  obtain ⟨v', ws, e1, h1, _⟩ := reps_up (vs := [v]) x (Reps.one w) e hr hS
  cases e1
  exact h1
theorem ext_keep {ρ : En} {σ : St} {H H' : Hp} {a r : Addr} {o : HO} (e : Ext r (restr ρ σ H) H') (h : H a = some o) (n : ¬ OwnA ρ σ a) (hr : a ≠ r) (nt : notTbl o) : H' a = some o := e.keep a o (by rw [restr_of n]; exact h) hr nt
theorem sqM_keep {K : PySem.W.Frag} {m : Bool} {H H' : Hp} {a r : Addr} {xs : List V} (e : Ext r H H') (n : a ≠ r) (h : SqM m K H a xs) : SqM m K H' a xs := by
  cases m with
  | false => exact sql_keep e n h
  | true =>
    rcases h with (h | ⟨ob, h⟩) | h
    · exact .inl (.inl (e.keep _ _ h n nt_tup))
    · exact .inl (.inr ⟨ob, e.keep _ _ h n nt_frz⟩)
    · exact .inr h
/-- a kept list or tuple at a -/
def AtM (F : Fx) (H : Hp) (S : Addr → Prop) (m : Bool) (a : Addr) (vs : List V) (ds : List D) : Prop := ¬ S a ∧ H a = some (if m then .tup vs else .lst vs) ∧ vs.length ≤ sizeLine ∧ F.rps H S ds vs
theorem AtM.sq {H : Hp} {S : Addr → Prop} {m : Bool} {a : Addr} {vs : List V} {ds : List D} (h : AtM F H S m a vs ds) : SqM m F.K H a vs := by
  cases m with
  | false => exact SqL.of h.2.1
  | true => exact SqT.of h.2.1
/-- the things of a list or tuple -/
def seqOf : D → Option (Bool × List D)
  | .lst xs => some (false, xs)
  | .tup xs => some (true, xs)
  | _ => none
theorem seqOf_at {H : Hp} {S : Addr → Prop} {d : D} {m : Bool} {ds : List D} {v : V} (h : seqOf d = some (m, ds)) (w : F.rp H S d v) : ∃ a vs, v = .ref a ∧ AtM F H S m a vs ds := by
  unfold seqOf at h
  split at h
  · cases h; obtain ⟨a, vs, e, n, z, l, k⟩ := w; exact ⟨a, vs, e, n, z, l, k⟩
  · cases h; obtain ⟨a, vs, e, n, z, l, k⟩ := w; exact ⟨a, vs, e, n, z, l, k⟩
  · cases h
section
variable {C : Ctx} {ρ : En} {g : G} {σ : St} {H : Hp} {m n : Bool} {a a2 : Addr} {vs us : List V} {ds es : List D}
theorem AtM.later (x : R F C ρ g σ H) (h : AtM F H (SO C ρ σ) m a vs ds) {H' : Hp} (e : Ext F.r (restr ρ σ H) H') : SqM m F.K H' a vs ∧ a ≠ F.r := by
  have hr : a ≠ F.r := fun z => h.1 (z ▸ x.so)
  refine ⟨?_, hr⟩
  have no : ¬ OwnA ρ σ a := fun z => h.1 (.inr z)
  cases m with
  | false => exact SqL.of (ext_keep e h.2.1 no hr nt_lst)
  | true => exact SqT.of (ext_keep e h.2.1 no hr nt_tup)
theorem wk_list (x : R F C ρ g σ H) (h : AtM F H (SO C ρ σ) false a vs ds) : Wk F C.S (restr ρ σ H) (Itl F.K a) ds where
  go := fun i H' e hi => by
    rw [h.2.2.2.length] at hi
    exact ⟨vs, vs[i], (h.later x e).1, by simp [hi]⟩
  stop := fun H' e => ⟨vs, (h.later x e).1, by rw [h.2.2.2.length]; exact Nat.le_refl _⟩
  yld := fun i H' v H2 e hi ⟨e2, q⟩ => by
    have q := q vs (h.later x e).1
    obtain ⟨d, h1, _⟩ := Reps.get i h.2.2.2 q
    refine ⟨d, h1, .inl e2, fun S hr hS => ?_⟩
    rw [e2]
    obtain ⟨d', h1', h2'⟩ := Reps.get i (reps_up x h.2.2.2 e hr hS) q
    rw [h1] at h1'; cases h1'
    exact h2'
theorem wk_tup (x : R F C ρ g σ H) (h : AtM F H (SO C ρ σ) true a vs ds) : Wk F C.S (restr ρ σ H) (Itt F.K a) ds where
  go := fun i H' e hi => by
    rw [h.2.2.2.length] at hi
    exact ⟨vs, vs[i], (h.later x e).1, by simp [hi]⟩
  stop := fun H' e => ⟨vs, (h.later x e).1, by rw [h.2.2.2.length]; exact Nat.le_refl _⟩
  yld := fun i H' v H2 e hi ⟨e2, q⟩ => by
    have q := q vs (h.later x e).1
    obtain ⟨d, h1, _⟩ := Reps.get i h.2.2.2 q
    refine ⟨d, h1, .inl e2, fun S hr hS => ?_⟩
    rw [e2]
    obtain ⟨d', h1', h2'⟩ := Reps.get i (reps_up x h.2.2.2 e hr hS) q
    rw [h1] at h1'; cases h1'
    exact h2'
/-- .. with their places -/
def enumD : Nat → List D → List D
  | _, [] => []
  | i, d :: ds => .tup [.int (i : Nat), d] :: enumD (i + 1) ds
theorem enumD_len : ∀ (i : Nat) (ds : List D), (enumD i ds).length = ds.length
  | _, [] => rfl
  | i, d :: ds => by rw [enumD, List.length_cons, enumD_len]; rfl
theorem enumD_get : ∀ (j : Nat) (ds : List D) (i : Nat), (enumD j ds)[i]? = (ds[i]?).map fun d => .tup [.int ((j + i : Nat)), d]
  | _, [], i => by simp [enumD]
  | j, d :: ds, 0 => by simp [enumD]
  | j, d :: ds, i + 1 => by
    rw [enumD, List.getElem?_cons_succ, enumD_get (j + 1) ds i, List.getElem?_cons_succ]
    have : j + 1 + i = j + (i + 1) := by omega
    rw [this]
theorem wk_enum (x : R F C ρ g σ H) (h : AtM F H (SO C ρ σ) m a vs ds) : Wk F C.S (restr ρ σ H) (IteM m F.K a) (enumD 0 ds) where
  go := fun i H' e hi => by
    rw [enumD_len, h.2.2.2.length] at hi
    exact ⟨vs, vs[i], (h.later x e).1, by simp [hi]⟩
  stop := fun H' e => ⟨vs, (h.later x e).1, by rw [enumD_len, h.2.2.2.length]⟩
  yld := fun i H' v H2 e hi ⟨T, y, ev, hT, e2, q⟩ => by
    have q := q vs (h.later x e).1
    obtain ⟨d, h1, _⟩ := Reps.get i h.2.2.2 q
    refine ⟨.tup [.int (i : Nat), d], by rw [enumD_get, h1]; simp, .inr ⟨T, _, hT, e2⟩, fun S hr hS => ?_⟩
    obtain ⟨d', h1', h2'⟩ := Reps.get i (reps_up x h.2.2.2 e hr hS) q
    rw [h1] at h1'; cases h1'
    have nT : ¬ S T := fun z => (hS T z).elim (fun z => e.dom T z.2 hT) fun z => z.2 hT
    rw [e2, ev]
    exact ⟨T, _, rfl, nT, upd_same, by show 2 ≤ sizeLine; decide, _, _, rfl, rfl, _, _, rfl, h2'.agr (agr_new hT), rfl⟩
def zipD : List D → List D → List D
  | d :: ds, e :: es => .tup [d, e] :: zipD ds es
  | _, _ => []
theorem zipD_len : ∀ (ds es : List D), (zipD ds es).length = min ds.length es.length
  | [], _ => by simp [zipD]
  | _ :: _, [] => by simp [zipD]
  | d :: ds, e :: es => by rw [zipD, List.length_cons, zipD_len, List.length_cons, List.length_cons]; omega
theorem zipD_get : ∀ (ds es : List D) (i : Nat) {d e : D}, ds[i]? = some d → es[i]? = some e → (zipD ds es)[i]? = some (.tup [d, e])
  | [], _, _, _, _, h, _ => by simp at h
  | _ :: _, [], _, _, _, _, h => by simp at h
  | d :: ds, e :: es, 0, _, _, h, h' => by simp at h h'; subst h h'; rfl
  | d :: ds, e :: es, i + 1, _, _, h, h' => by
    rw [zipD, List.getElem?_cons_succ]
    exact zipD_get ds es i (by simpa using h) (by simpa using h')
theorem wk_zip (x : R F C ρ g σ H) (h : AtM F H (SO C ρ σ) m a vs ds) (h2 : AtM F H (SO C ρ σ) n a2 us es) : Wk F C.S (restr ρ σ H) (ItzM m n F.K a a2) (zipD ds es) where
  go := fun i H' e hi => by
    rw [zipD_len, h.2.2.2.length, h2.2.2.2.length] at hi
    have l1 : i < vs.length := by omega
    have l2 : i < us.length := by omega
    exact ⟨vs, us, vs[i], us[i], (h.later x e).1, (h2.later x e).1, by simp [l1], by simp [l2]⟩
  stop := fun H' e => ⟨vs, us, (h.later x e).1, (h2.later x e).1, by rw [zipD_len, h.2.2.2.length, h2.2.2.2.length]⟩
  yld := fun i H' v H2 e hi ⟨T, y, z, ev, hT, e2, q, q2⟩ => by
    have q := q vs (h.later x e).1
    have q2 := q2 us (h2.later x e).1
    obtain ⟨d, h1, _⟩ := Reps.get i h.2.2.2 q
    obtain ⟨f, k1, _⟩ := Reps.get i h2.2.2.2 q2
    refine ⟨.tup [d, f], zipD_get ds es i h1 k1, .inr ⟨T, _, hT, e2⟩, fun S hr hS => ?_⟩
    obtain ⟨d', h1', h2'⟩ := Reps.get i (reps_up x h.2.2.2 e hr hS) q
    rw [h1] at h1'; cases h1'
    obtain ⟨f', k1', k2'⟩ := Reps.get i (reps_up x h2.2.2.2 e hr hS) q2
    rw [k1] at k1'; cases k1'
    have nT : ¬ S T := fun z => (hS T z).elim (fun z => e.dom T z.2 hT) fun z => z.2 hT
    rw [e2, ev]
    exact ⟨T, _, rfl, nT, upd_same, by show 2 ≤ sizeLine; decide, _, _, rfl, h2'.agr (agr_new hT), _, _, rfl, k2'.agr (agr_new hT), rfl⟩
/-- lo, lo + 1, .., n of them -/
def rangeD (lo : Int) (n : Nat) : List D := (List.range n).map fun i => .int (lo + (i : Nat))
theorem wk_range {lo : Int} {k : Nat} {B : Hp} {S0 : Addr → Prop} : Wk F S0 B (Itr lo k) (rangeD lo k) where
  go := fun i H' _ hi => by
    have : i < k := by simpa [rangeD] using hi
    exact this
  stop := fun H' _ => by
    show k ≤ (rangeD lo k).length
    simp [rangeD]
  yld := fun i H' v H2 _ hi ⟨e2, ev⟩ => by
    have hk : i < k := by simpa [rangeD] using hi
    refine ⟨.int (lo + i), by simp [rangeD, hk], .inl e2, fun S _ _ => ev⟩
/-- the signs of a text -/
def signsD (s : Str) : List D := s.cps.toList.map fun c => .str ⟨#[c]⟩
theorem wk_str {s : Str} {B : Hp} {S0 : Addr → Prop} : Wk F S0 B (Its s) (signsD s) where
  go := fun i H' _ hi => by
    have : i < s.cps.size := by simpa [signsD] using hi
    exact this
  stop := fun H' _ => by
    show s.cps.size ≤ (signsD s).length
    simp [signsD]
  yld := fun i H' v H2 _ hi ⟨e2, c, hc, ev⟩ => by
    refine ⟨.str ⟨#[c]⟩, ?_, .inl e2, fun S _ _ => ev⟩
    have : s.cps.toList[i]? = some c := by simpa using hc
    simp [signsD, this]
/-- the keys of a dict -/
def keyD : Key → D
  | .inl i => .int i
  | .inr s => .str s
def keysD (kvs : List (Key × D)) : List D := kvs.map fun q => keyD q.1
theorem repK_at {F : Fx} {H : Hp} {S : Addr → Prop} : ∀ {kvs : List (Key × D)} {ws : List (Key × V)} {i : Nat} {k : Key} {v : V}, RepK F.mg H S F.r kvs ws → ws[i]? = some (k, v) → ∃ d, kvs[i]? = some (k, d)
  | [], ws, i, k, v, h, q => by rw [show ws = [] from h] at q; simp at q
  | (k0, d0) :: kvs, ws, i, k, v, ⟨v0, us, e, _, h2⟩, q => by
    rw [e] at q
    cases i with
    | zero => simp at q; exact ⟨d0, by rw [← q.1]; rfl⟩
    | succ i => exact repK_at (kvs := kvs) h2 (by simpa using q)
theorem repK_size {F : Fx} {H : Hp} {S : Addr → Prop} : ∀ {kvs : List (Key × D)} {ws : List (Key × V)}, RepK F.mg H S F.r kvs ws → kvs.length = ws.length
  | [], _, e => by cases (show _ = [] from e); rfl
  | (_, _) :: _, _, ⟨v, ws, e, _, b⟩ => by rw [e]; simp [repK_size b]
theorem wk_keys {o : Obj} {ws : List (Key × V)} {kvs : List (Key × D)} (x : R F C ρ g σ H) (hn : ¬ SO C ρ σ a) (h : H a = some (.frz o (.dK ws))) (k : RepK F.mg H (SO C ρ σ) F.r kvs ws) : Wk F C.S (restr ρ σ H) (Itk a o ws) (keysD kvs) where
  go := fun i H' e hi => by
    have hr : a ≠ F.r := fun z => hn (z ▸ x.so)
    refine ⟨ext_keep e h (fun z => hn (.inr z)) hr nt_frz, ?_⟩
    rw [keysD, List.length_map, repK_size k] at hi
    exact hi
  stop := fun H' e => by
    have hr : a ≠ F.r := fun z => hn (z ▸ x.so)
    refine ⟨ext_keep e h (fun z => hn (.inr z)) hr nt_frz, ?_⟩
    rw [keysD, List.length_map, repK_size k]
    exact Nat.le_refl _
  yld := fun i H' v H2 e hi ⟨e2, k', v', hk, ev⟩ => by
    obtain ⟨d, hd⟩ := repK_at k hk
    refine ⟨keyD k', by rw [keysD, List.getElem?_map, hd]; rfl, .inl e2, fun S _ _ => ?_⟩
    rw [ev]
    cases k' <;> rfl
end
/-! ### what is walked -/
def itSeq (f : SE) : SEs := fun ρ g => (f ρ g).bind fun p => match p.1 with
  | .lst xs => .ok (xs, p.2)
  | .tup xs => .ok (xs, p.2)
  | .dk kvs => .ok (keysD kvs, p.2)
  | .str s => if s.cps.size ≤ sizeLine then .ok (signsD s, p.2) else .bad
  | _ => .bad
def itR1 (f : SE) : SEs := fun ρ g => (f ρ g).bind fun p => match p.1 with
  | .int j => if -(2 ^ 61) ≤ j ∧ j ≤ 16777216 then .ok (rangeD 0 j.toNat, p.2) else .bad
  | _ => .bad
def itR2 (fa fb : SE) : SEs := fun ρ g => (fa ρ g).bind fun p => (fb ρ p.2).bind fun q => match p.1, q.1 with
  | .int i, .int j => if -(2 ^ 61) ≤ i ∧ i < 2 ^ 61 ∧ -(2 ^ 61) ≤ j ∧ j < 2 ^ 61 ∧ j - i ≤ 16777216 then .ok (rangeD i (j - i).toNat, q.2) else .bad
  | _, _ => .bad
def itEnum (f : SE) : SEs := fun ρ g => (f ρ g).bind fun p => match seqOf p.1 with
  | some (_, xs) => .ok (enumD 0 xs, p.2)
  | none => .bad
def itZip (fa fb : SE) : SEs := fun ρ g => (fa ρ g).bind fun p => (fb ρ p.2).bind fun q => match seqOf p.1, seqOf q.1 with
  | some (_, xs), some (_, ys) => .ok (zipD xs ys, q.2)
  | _, _ => .bad
theorem ii_seq (xf : XF X F) (ha : PE X a (T F fa)) : PI X tg a (TIt F (itSeq fa)) :=
  ((pi_list ha).or ((pi_tup ha).or ((pi_str ha).or (pi_keys ha)))).imp fun σ H Q ⟨C, ρ, g, x, h⟩ => by
    unfold itSeq at h
    cases q : fa ρ g with
    | bad => rw [q] at h; exact h.elim
    | exc c d g =>
      rw [q] at h
      refine .inl ⟨C, ρ, _, x, ?_⟩
      rw [q]
      exact h
    | ok p =>
      rw [q] at h
      simp only [Res.bind_ok] at h
      obtain ⟨d, g1⟩ := p
      cases d with
      | lst xs =>
        refine .inl ⟨C, ρ, g, x, ?_⟩
        rw [q]
        intro v H1 e1 x1 ⟨b, vs, ev, n, z, l, k⟩
        refine ⟨b, ev, ⟨vs, SqL.of z⟩, ?_⟩
        rw [xf.K]
        exact h _ H1 e1 x1 (wk_list x1 ⟨n, z, l, k⟩) (by rw [k.length]; exact l)
      | tup xs =>
        refine .inr (.inl ⟨C, ρ, g, x, ?_⟩)
        rw [q]
        intro v H1 e1 x1 ⟨b, vs, ev, n, z, l, k⟩
        refine ⟨b, ev, ⟨vs, SqT.of z⟩, ?_⟩
        rw [xf.K]
        exact h _ H1 e1 x1 (wk_tup x1 ⟨n, z, l, k⟩) (by rw [k.length]; exact l)
      | dk kvs =>
        refine .inr (.inr (.inr ⟨C, ρ, g, x, ?_⟩))
        rw [q]
        intro v H1 e1 x1 ⟨b, vs, ev, n, ⟨od, z⟩, l, k⟩
        exact ⟨b, od, ev, .inl ⟨vs, z, h _ H1 e1 x1 (wk_keys x1 n z k) (by rw [keysD, List.length_map, repK_size k]; exact l)⟩⟩
      | str s =>
        refine .inr (.inr (.inl ⟨C, ρ, g, x, ?_⟩))
        rw [q]
        intro v H1 e1 x1 w1
        by_cases hb : s.cps.size ≤ sizeLine
        · simp only [if_pos hb] at h
          exact ⟨s, w1, h _ H1 e1 x1 wk_str (by simpa [signsD] using hb)⟩
        · simp only [if_neg hb] at h
      | _ => exact h.elim
theorem ii_r1 (xf : XF X F) (ha : PE X a (T F fa)) (hg : Gl X "range" := by rfl) (hs : starEach [a] X.env = [(false, eval a X.env)] := by rfl) : PI X tg (.Call (.Name "range" p) [a] [] pos) (TIt F (itR1 fa)) :=
  (pi_range1 hg (by rw [xf.mg]; exact xf.range) (pa_cons ha pa_nil hs) hs).imp fun σ H Q ⟨C, ρ, g, x, h⟩ => by
    refine ⟨C, ρ, g, x, ?_⟩
    unfold itR1 at h
    cases q : fa ρ g with
    | bad => rw [q] at h; exact h
    | exc c d g => rw [q] at h; exact h
    | ok p =>
      rw [q] at h
      simp only [Res.bind_ok] at h
      obtain ⟨d, g1⟩ := p
      intro v H1 e1 x1 w1
      cases d with
      | int j =>
        by_cases hb : -(2 ^ 61) ≤ j ∧ j ≤ 16777216
        · simp only [if_pos hb] at h
          exact ⟨j, by rw [show v = .int j from w1], by have := hb.1; omega, by have := hb.2; omega, h _ H1 e1 x1 wk_range (by rw [sizeLine_eq]; have := hb.2; simp [rangeD]; omega)⟩
        · simp only [if_neg hb] at h
      | _ => exact h.elim
theorem ii_r2 (xf : XF X F) (ha : PE X a (T F fa)) (hb : PE X b (T F fb)) (hg : Gl X "range" := by rfl) (hs : starEach [a, b] X.env = [(false, eval a X.env), (false, eval b X.env)] := by rfl) (hs2 : starEach [b] X.env = [(false, eval b X.env)] := by rfl) :
    PI X tg (.Call (.Name "range" p) [a, b] [] pos) (TIt F (itR2 fa fb)) :=
  (pi_range2 hg (by rw [xf.mg]; exact xf.range) (pa_cons ha (pa_cons hb pa_nil hs2) (by rw [hs, hs2])) hs hs2).imp fun σ H Q ⟨C, ρ, g, x, h⟩ => by
    refine ⟨C, ρ, g, x, ?_⟩
    unfold itR2 at h
    cases q : fa ρ g with
    | bad => rw [q] at h; exact h
    | exc c d g => rw [q] at h; exact h
    | ok p =>
      rw [q] at h
      simp only [Res.bind_ok] at h
      intro v H1 e1 x1 w1
      refine ⟨C, ρ, p.2, x1, ?_⟩
      cases q2 : fb ρ p.2 with
      | bad => rw [q2] at h; exact h
      | exc c d g => rw [q2] at h; exact h
      | ok p2 =>
        rw [q2] at h
        simp only [Res.bind_ok] at h
        intro u H2 e2 x2 w2
        obtain ⟨d, g1⟩ := p
        obtain ⟨d2, g2⟩ := p2
        cases d with
        | int i =>
          cases d2 with
          | int j =>
            by_cases hb : -(2 ^ 61) ≤ i ∧ i < 2 ^ 61 ∧ -(2 ^ 61) ≤ j ∧ j < 2 ^ 61 ∧ j - i ≤ 16777216
            · simp only [if_pos hb] at h
              exact ⟨i, j, by rw [show v = .int i from w1, show u = .int j from w2], by obtain ⟨b1, b2, b3, b4, b5⟩ := hb; omega, h _ H2 (e1.trans e2) x2 wk_range (by rw [sizeLine_eq]; obtain ⟨b1, b2, b3, b4, b5⟩ := hb; simp [rangeD]; omega)⟩
            · simp only [if_neg hb] at h
          | _ => exact h.elim
        | _ => cases d2 <;> exact h.elim
theorem ii_enum {elts : List Expr} {kk : Nat} {tpos : Pos} (xf : XF X F) (ha : PE X a (T F fa)) (hg : Gl X "enumerate" := by rfl) (hs : starEach [a] X.env = [(false, eval a X.env)] := by rfl) : PI X (.Tuple elts kk tpos) (.Call (.Name "enumerate" p) [a] [] pos) (TIt F (itEnum fa)) :=
  (pi_enumM hg (by rw [xf.mg]; exact xf.enumerate) (pa_cons ha pa_nil hs) hs).imp fun σ H Q ⟨C, ρ, g, x, h⟩ => by
    refine ⟨C, ρ, g, x, ?_⟩
    unfold itEnum at h
    cases q : fa ρ g with
    | bad => rw [q] at h; exact h
    | exc c d g => rw [q] at h; exact h
    | ok p =>
      rw [q] at h
      simp only [Res.bind_ok] at h
      intro v H1 e1 x1 w1
      cases hm : seqOf p.1 with
      | none => rw [hm] at h; exact h.elim
      | some z =>
        obtain ⟨m, xs⟩ := z
        rw [hm] at h
        obtain ⟨b, vs, ev, k⟩ := seqOf_at hm w1
        refine ⟨m, b, vs, by rw [ev], by rw [xf.K]; exact k.sq, ?_⟩
        rw [xf.K]
        exact h _ H1 e1 x1 (wk_enum x1 k) (by rw [enumD_len, k.2.2.2.length]; exact k.2.2.1)
theorem ii_zip {elts : List Expr} {kk : Nat} {tpos : Pos} (xf : XF X F) (ha : PE X a (T F fa)) (hb : PE X b (T F fb)) (hg : Gl X "zip" := by rfl) (hs : starEach [a, b] X.env = (false, eval a X.env) :: starEach [b] X.env := by rfl) (hs2 : starEach [b] X.env = (false, eval b X.env) :: starEach [] X.env := by rfl)
    (hpl : (backTo pos (starEach [b] X.env)).any (·.1) = false := by rfl) : PI X (.Tuple elts kk tpos) (.Call (.Name "zip" p) [a, b] [] pos) (TIt F (itZip fa fb)) :=
  (pi_zipM hg (by rw [xf.mg]; exact xf.zip) (pa_cons ha (pa_cons hb pa_nil hs2) hs) hs hpl).imp fun σ H Q ⟨C, ρ, g, x, h⟩ => by
    refine ⟨C, ρ, g, x, ?_⟩
    unfold itZip at h
    cases q : fa ρ g with
    | bad => rw [q] at h; exact h
    | exc c d g => rw [q] at h; exact h
    | ok p =>
      rw [q] at h
      simp only [Res.bind_ok] at h
      intro v H1 e1 x1 w1
      refine ⟨C, ρ, p.2, x1, ?_⟩
      cases q2 : fb ρ p.2 with
      | bad => rw [q2] at h; exact h
      | exc c d g => rw [q2] at h; exact h
      | ok p2 =>
        rw [q2] at h
        simp only [Res.bind_ok] at h
        intro u H2 e2 x2 w2
        cases hm : seqOf p.1 with
        | none => rw [hm] at h; exact h.elim
        | some z =>
          obtain ⟨m, xs⟩ := z
          cases hn : seqOf p2.1 with
          | none => rw [hm, hn] at h; exact h.elim
          | some z =>
            obtain ⟨n, ys⟩ := z
            rw [hm, hn] at h
            obtain ⟨b1, vs, ev, k⟩ := seqOf_at hm (w1.agr (e2.agr x.so))
            obtain ⟨b2, us, eu, k2⟩ := seqOf_at hn w2
            refine ⟨m, n, b1, b2, vs, us, by rw [ev, eu], by rw [xf.K]; exact k.sq, by rw [xf.K]; exact k2.sq, ?_⟩
            rw [xf.K]
            exact h _ H2 (e1.trans e2) x2 (wk_zip x2 k k2) (by rw [zipD_len]; exact Nat.le_trans (Nat.min_le_left _ _) (by rw [k.2.2.2.length]; exact k.2.2.1))
/-! ### for -/
def forL (t : Tg) (body : SS) : List D → SS
  | [], ρ, g => .ok (.nx, ρ, g)
  | d :: ds, ρ, g => match t d ρ with
    | none => .bad
    | some ρ1 => match body ρ1 g with
      | .ok (.nx, ρ2, g2) => forL t body ds ρ2 g2
      | .ok (.cont, ρ2, g2) => forL t body ds ρ2 g2
      | .ok (.brk, ρ2, g2) => .ok (.nx, ρ2, g2)
      | r => r
def sFor (fi : SEs) (t : Tg) (body : SS) : SS := fun ρ g => (fi ρ g).bind fun p => forL t body p.1 ρ p.2
theorem drop_cons {ds : List D} {i : Nat} (h : i < ds.length) : ∃ d, ds[i]? = some d ∧ ds.drop i = d :: ds.drop (i + 1) := ⟨ds[i], by simp [h], List.drop_eq_getElem_cons h⟩
theorem ss_for {iter : Expr} {body : List Stmt} {t : Tg} {ts : List Nat} {s : SS} (xf : XF X F) (hi : PI X tg iter (TIt F fi)) (hg : PG X tg (GT F ts t)) (hb : PSs X body (TS1 F s)) (hs : ∀ x, foldedSetIterable iter X.env x = pure x := by intro _; rfl) :
    PS X (.For tg iter body [] pos) (TS1 F (sFor fi t s)) := (ps_for xf.po xf.calm hi hg hb hs).imp fun D σ H ⟨C, ρ, g, x, h⟩ => by
  refine ⟨C, ρ, g, x, ?_⟩
  unfold sFor at h
  cases q : fi ρ g with
  | bad => rw [q] at h; exact h
  | exc c d g => rw [q] at h; exact h
  | ok p =>
    rw [q] at h
    simp only [Res.bind_ok] at h
    intro J H1 e1 x1 wk _
    obtain ⟨ds, g1⟩ := p
    refine ⟨fun i m σ' H' => ∃ ρ' g', R F (C.now ρ σ H1) ρ' g' σ' H' ∧ EndS F (C.now ρ σ H1) D (forL t s (ds.drop i) ρ' g') ∧ m + i = ds.length, ⟨ds.length, ρ, g1, x1.now, EndS.now x1 h, by omega⟩, ?_⟩
    rintro i m σ' H' ⟨ρ', g', x', h', hm⟩
    by_cases hi : i < ds.length
    · right
      obtain ⟨d, hd, hdr⟩ := drop_cons hi
      refine ⟨wk.go i H' x'.base hi, fun σ2 H2 => ∃ ρ2 g2, R F (C.now ρ σ H1) ρ2 g2 σ2 H2 ∧ EndS F (C.now ρ σ H1) D (forL t s (ds.drop (i + 1)) ρ2 g2), fun σ2 H2 ⟨ρ2, g2, x2, h2⟩ => ⟨m - 1, by omega, ρ2, g2, x2, h2, by omega⟩, fun v H2 hy => ?_⟩
      obtain ⟨d', hd', hn, hrep⟩ := wk.yld i H' v H2 x'.base hi hy
      rw [hd] at hd'; cases hd'
      have w : F.rp H2 (SO (C.now ρ σ H1) ρ' σ') d v := hrep _ x'.so fun a z => by
        rcases z with z | z
        · exact .inl ⟨z, x'.sd a z⟩
        · obtain ⟨j, f, j1, j2⟩ := z
          obtain ⟨a', k1, k2, k3⟩ := x'.own j f j1
          rw [j2] at k1; cases k1
          obtain ⟨o, ho, _⟩ := k3.there
          exact .inr ⟨k2, by rw [ho]; simp⟩
      have x2 : R F (C.now ρ σ H1) ρ' g' σ' H2 := by
        rcases hn with e | ⟨T, o, hT, e⟩
        · rw [e]; exact x'
        · rw [e]; exact x'.new hT
      rw [hdr] at h'
      unfold forL at h'
      cases q3 : t d ρ' with
      | none => rw [q3] at h'; exact h'.elim
      | some ρ1 =>
        rw [q3] at h'
        refine ⟨C.now ρ σ H1, ρ', g', d, ρ1, x2, w, q3, fun σ3 x3 _ _ => ⟨C.now ρ σ H1, ρ1, g', x3, ?_⟩⟩
        simp only at h'
        cases q4 : s ρ1 g' with
        | bad => rw [q4] at h'; exact h'
        | exc c d g => rw [q4] at h'; exact h'
        | ok r =>
          obtain ⟨fl, ρ4, g4⟩ := r
          rw [q4] at h'
          cases fl with
          | nx => exact fun σ4 H4 x4 => ⟨ρ4, g4, x4, h'⟩
          | cont => exact fun σ4 H4 x4 => ⟨ρ4, g4, x4, h'⟩
          | brk => exact h'
          | ret d => exact h'
    · left
      have hi' : i = ds.length := by omega
      subst hi'
      rw [List.drop_length] at h'
      exact ⟨wk.stop H' x'.base, h' σ' H' x'⟩
/-! ### while -/
def whileL (c : SE) (body : SS) : Nat → SS
  | 0 => fun _ _ => .bad
  | n + 1 => fun ρ g => (c ρ g).bind fun p => match p.1.truth with
    | some true => (match body ρ p.2 with
      | .ok (.nx, ρ2, g2) => whileL c body n ρ2 g2
      | .ok (.cont, ρ2, g2) => whileL c body n ρ2 g2
      | .ok (.brk, ρ2, g2) => .ok (.nx, ρ2, g2)
      | r => r)
    | some false => .ok (.nx, ρ, p.2)
    | none => .bad
theorem ss_while (n : Nat) {body : List Stmt} {s : SS} (xf : XF X F) (hc : PT X c (TQ F fc)) (hb : PSs X body (TS1 F s)) : PS X (.While c body [] pos) (TS1 F (whileL fc s n)) := (ps_while xf.po hc hb).imp fun D σ H ⟨C, ρ, g, x, h⟩ => by
  refine ⟨fun m σ' H' => ∃ ρ' g', R F C ρ' g' σ' H' ∧ EndS F C D (whileL fc s m ρ' g'), ⟨n, ρ, g, x, h⟩, ?_⟩
  rintro m σ' H' ⟨ρ', g', x', h'⟩
  cases m with
  | zero => exact h'.elim
  | succ m =>
    unfold whileL at h'
    refine ⟨C, ρ', g', x', ?_⟩
    cases q : fc ρ' g' with
    | bad => rw [q] at h'; exact h'
    | exc c d g => rw [q] at h'; exact h'
    | ok p =>
      rw [q] at h'
      simp only [Res.bind_ok] at h'
      cases q2 : p.1.truth with
      | none => rw [q2] at h'; exact h'.elim
      | some k =>
        rw [q2] at h'
        refine ⟨k, q2, fun H1 e1 x1 => ?_⟩
        cases k with
        | false => exact h' σ' H1 x1
        | true =>
          refine ⟨fun σ2 H2 => ∃ ρ2 g2, R F C ρ2 g2 σ2 H2 ∧ EndS F C D (whileL fc s m ρ2 g2), fun σ2 H2 ⟨ρ2, g2, x2, h2⟩ => ⟨m, by omega, ρ2, g2, x2, h2⟩, C, ρ', p.2, x1, ?_⟩
          simp only at h'
          cases q4 : s ρ' p.2 with
          | bad => rw [q4] at h'; exact h'
          | exc c d g => rw [q4] at h'; exact h'
          | ok r =>
            obtain ⟨fl, ρ4, g4⟩ := r
            rw [q4] at h'
            cases fl with
            | nx => exact fun σ4 H4 x4 => ⟨ρ4, g4, x4, h'⟩
            | cont => exact fun σ4 H4 x4 => ⟨ρ4, g4, x4, h'⟩
            | brk => exact h'
            | ret d => exact h'
end
end RP
end L2
set_option Elab.async false
set_option linter.all false
set_option maxRecDepth 100000
/-! R14: list comprehensions. -/
namespace L2
namespace RP
open PySem PySem.Spec PyProof.Rows

/-- inside a block nothing is raised -/
abbrev Fx.no (F : Fx) : Fx := { F with E := fun _ _ _ => False }
def wipeD (ρ : En) : List Nat → En
  | [] => ρ
  | v :: vs => (wipeD ρ vs).set v .none
section
variable {F : Fx} {C C' : Ctx} {ρ ρ' : En} {g g' : G} {σ σ' : St} {H H' H1 H2 : Hp} {S S' : Addr → Prop} {d d' : D} {v : V} {a p : Addr} {o u : HO} {i : Nat} {c : Str} {vs : List Nat}
theorem GAt.no (x : GAt F g H) : GAt F.no g H := ⟨x.row, x.tab, x.ns⟩
theorem GAt.unno (x : GAt F.no g H) : GAt F g H := ⟨x.row, x.tab, x.ns⟩
theorem R.no (x : R F C ρ g σ H) : R F.no C ρ g σ H := ⟨x.sr, x.sd, x.sq, x.ne, x.base, x.gl.no, x.len, x.frz, x.own, x.inj⟩
theorem R.unno (x : R F.no C ρ g σ H) : R F C ρ g σ H := ⟨x.sr, x.sd, x.sq, x.ne, x.base, x.gl.unno, x.len, x.frz, x.own, x.inj⟩
theorem wipeD_some {s : Slot} (hs : s ≠ .none) : ∀ {vs : List Nat}, (wipeD ρ vs)[i]? = some s → ρ[i]? = some s ∧ i ∉ vs
  | [], h => ⟨h, by simp⟩
  | v :: vs, h => by
    unfold wipeD at h
    by_cases hi : v = i
    · subst hi
      by_cases hv : v < (wipeD ρ vs).length
      · rw [List.getElem?_set_self hv] at h; cases h; exact absurd rfl hs
      · rw [List.getElem?_eq_none (by simpa using hv)] at h; cases h
    · rw [List.getElem?_set_ne hi] at h
      obtain ⟨h1, h2⟩ := wipeD_some hs h
      exact ⟨h1, by simp only [List.mem_cons, not_or]; exact ⟨fun e => hi e.symm, h2⟩⟩
theorem wipeD_keep : ∀ {vs : List Nat}, i ∉ vs → (wipeD ρ vs)[i]? = ρ[i]?
  | [], _ => rfl
  | v :: vs, h => by
    unfold wipeD
    rw [List.getElem?_set_ne (fun e => h (by simp [e])), wipeD_keep fun z => h (List.mem_cons_of_mem _ z)]
theorem wipe_keep : ∀ {vs : List Nat}, i ∉ vs → (wipe σ vs)[i]? = σ[i]?
  | [], _ => rfl
  | v :: vs, h => by
    unfold wipe
    rw [List.getElem?_set_ne (fun e => h (by simp [e])), wipe_keep fun z => h (List.mem_cons_of_mem _ z)]
theorem wipe_in : ∀ {vs : List Nat}, i ∈ vs → i < σ.length → (wipe σ vs)[i]? = some none
  | [], h, _ => by cases h
  | v :: vs, h, hl => by
    unfold wipe
    by_cases hi : v = i
    · subst hi; rw [List.getElem?_set_self (by rw [wipe_length]; exact hl)]
    · rw [List.getElem?_set_ne hi]
      exact wipe_in ((List.mem_cons.mp h).resolve_left fun e => hi e.symm) hl
theorem wipe_ext {σ2 : St} (hl : σ2.length = σ.length) (h : ∀ j, j ∉ vs → σ2[j]? = σ[j]?) : wipe σ2 vs = wipe σ vs := by
  apply List.ext_getElem?
  intro j
  by_cases hj : j ∈ vs
  · by_cases hl2 : j < σ.length
    · rw [wipe_in hj hl2, wipe_in hj (by rw [hl]; exact hl2)]
    · rw [List.getElem?_eq_none (by rw [wipe_length, hl]; omega), List.getElem?_eq_none (by rw [wipe_length]; omega)]
  · rw [wipe_keep hj, wipe_keep hj, h j hj]
theorem wipe_wipe : wipe (wipe σ vs) vs = wipe σ vs := wipe_ext (wipe_length _ _) fun j hj => wipe_keep hj
theorem wipeD_length : ∀ vs : List Nat, (wipeD ρ vs).length = ρ.length
  | [] => rfl
  | v :: vs => by unfold wipeD; rw [List.length_set, wipeD_length vs]
theorem ownA_wipe (h : OwnA (wipeD ρ vs) (wipe σ vs) a) : OwnA ρ σ a := by
  obtain ⟨i, d, h1, h2⟩ := h
  obtain ⟨k1, k2⟩ := wipeD_some (by simp) h1
  rw [wipe_keep k2] at h2
  exact ⟨i, d, k1, h2⟩
theorem R.wipe (vs : List Nat) (x : R F C ρ g σ H) : R F C (wipeD ρ vs) g (wipe σ vs) H := by
  have sub : ∀ a, SO C (wipeD ρ vs) (L2.wipe σ vs) a → SO C ρ σ a := fun a z => z.elim .inl fun z => .inr (ownA_wipe z)
  refine ⟨x.sr, x.sd, x.sq, x.ne, x.base, x.gl, by rw [wipeD_length, wipe_length, x.len], fun i d h => ?_, fun i d h => ?_, fun i j d e a h1 h2 h3 h4 => ?_⟩
  · obtain ⟨k1, k2⟩ := wipeD_some (by simp) h
    obtain ⟨v, e, w⟩ := x.frz i d k1
    exact ⟨v, by rw [wipe_keep k2]; exact e, w.sub sub⟩
  · obtain ⟨k1, k2⟩ := wipeD_some (by simp) h
    obtain ⟨v, e, n, w⟩ := x.own i d k1
    exact ⟨v, by rw [wipe_keep k2]; exact e, n, w.sub sub⟩
  · obtain ⟨k1, k2⟩ := wipeD_some (by simp) h1
    obtain ⟨l1, l2⟩ := wipeD_some (by simp) h2
    rw [wipe_keep k2] at h3
    rw [wipe_keep l2] at h4
    exact x.inj i j d e a k1 l1 h3 h4
/-- a thing kept apart is changed -/
theorem R.put (x : R F C ρ g σ H) (hp : C.S p) (hr : p ≠ F.r) (hz : p ≠ F.sc ∨ ∀ H, SqL F.K H F.sc (F.ns.map V.int)) (hu : H p = some u) (nt : notTbl u) (ne : ∀ φ, u ≠ .ext φ) :
    R F ⟨C.S, restr ρ σ (L2.upd H p o)⟩ ρ g σ (L2.upd H p o) := by
  have po : ¬ OwnA ρ σ p := fun z => x.own_ne z hp
  have ag : Agr (SO C ρ σ) H (L2.upd H p o) := .of fun a w n q _ => by rw [upd_ne fun e : a = p => n (.inl (by rw [e]; exact hp))]; exact q
  refine ⟨x.sr, fun a z => ?_, ?_, x.ne, ext_restr, ⟨?_, tabs_upd x.gl.tab (.inr ⟨u, hu, nt, ne⟩), x.gl.ns⟩, x.len, fun i d h => ?_, fun i d h => ?_, x.inj⟩
  · show restr ρ σ (L2.upd H p o) a ≠ none
    rw [restr_of fun k => x.own_ne k z]
    by_cases e : a = p
    · rw [e, upd_same]; simp
    · rw [upd_ne e]; exact x.there (.inl z)
  · rcases hz with hz | hz
    · have no : C.H0 F.sc ≠ none → ¬ OwnA ρ σ F.sc := fun k ⟨i, d, h1, h2⟩ => by
        obtain ⟨a', e, n, _⟩ := x.own i d h1
        rw [h2] at e; cases e
        exact k n
      rcases x.ne.symm with hne | hne
      · exact hne _
      rcases x.sq with (h | ⟨ob, h⟩) | h
      · refine .inl (.inl ?_)
        show restr ρ σ (L2.upd H p o) F.sc = _
        rw [restr_of (no (by rw [h]; simp)), upd_ne (Ne.symm hz)]
        exact x.base.keep _ _ h hne nt_lst
      · refine .inl (.inr ⟨ob, ?_⟩)
        show restr ρ σ (L2.upd H p o) F.sc = _
        rw [restr_of (no (by rw [h]; simp)), upd_ne (Ne.symm hz)]
        exact x.base.keep _ _ h hne nt_frz
      · exact .inr h
    · exact hz _
  · rw [upd_ne (Ne.symm hr)]; exact x.gl.row
  · obtain ⟨v, h1, h2⟩ := x.frz i d h
    exact ⟨v, h1, h2.agr ag⟩
  · obtain ⟨a, h1, h2, h3⟩ := x.own i d h
    refine ⟨a, h1, if_pos ⟨i, d, h, h1⟩, h3.agr ag fun w hw _ => ?_⟩
    have : a ≠ p := fun e => po (e ▸ ⟨i, d, h, h1⟩)
    rw [upd_ne this]; exact hw
theorem R.sc_ne (x : R F C ρ g σ H) (hp : H p = none) : p ≠ F.sc ∨ ∀ H, SqL F.K H F.sc (F.ns.map V.int) := by
  rcases x.sqH with (h | ⟨ob, h⟩) | h
  · exact .inl fun e => by rw [e, h] at hp; cases hp
  · exact .inl fun e => by rw [e, h] at hp; cases hp
  · exact .inr fun _ => .inr h
end
section
variable {X : Cx} {F : Fx} {e a b c tg iter elt : Expr} {es ifs : List Expr} {fa fb f fc fe : SE} {fi : SEs} {pos p : Pos}
theorem XF.blk (xf : XF X F) (s : Shared) (H : Hp) (scope : Scope) (env : Env) (fp : List Addr) : XF (X.blk s H scope env fp) F.no :=
  ⟨xf.K, xf.mg, xf.calm, xf.u, takes0, PassesOwn.never, xf.N, xf.len, xf.abs, xf.all, xf.any, xf.bool, xf.dict, xf.enumerate, xf.int, xf.isinstance, xf.list, xf.max, xf.min, xf.range, xf.repr, xf.set, xf.sorted, xf.str, xf.sum, xf.tuple, xf.zip⟩
theorem tq_none : PTs X [] (TQ F (vC (.bl true))) := ⟨fun pins s σ H Q I ⟨C, ρ, g, x, h⟩ => by
  obtain ⟨b, e, k⟩ := h
  cases e
  exact pts_nil.run pins s σ H Q I (k H .refl x)⟩
/-- the new list's things -/
def compL (t : Tg) (fc fe : SE) : List D → En → G → Res (List D × G)
  | [], _, g => .ok ([], g)
  | d :: ds, ρ, g => match t d ρ with
    | none => .bad
    | some ρ1 => match fc ρ1 g with
      | .ok (c, g1) => (match c.truth with
        | some true => (match fe ρ1 g1 with
          | .ok (e, g2) => (match compL t fc fe ds ρ g2 with
            | .ok (es, g3) => .ok (e :: es, g3)
            | _ => .bad)
          | _ => .bad)
        | some false => compL t fc fe ds ρ g1
        | none => .bad)
      | _ => .bad
def notOwn (ρ : En) (i : Nat) : Bool := match ρ[i]? with
  | some (.own _) => false
  | _ => true
def vComp (fi : SEs) (t : Tg) (vs : List Nat) (fc fe : SE) : SE := fun ρ g => (fi ρ g).bind fun p => if vs.all (notOwn ρ) then (match compL t fc fe p.1 (wipeD ρ vs) p.2 with
  | .ok (es, g2) => .ok (.lst es, g2)
  | _ => .bad) else .bad
theorem comp_core {σ : St} {H : Hp} {Q : VK} {t : Tg} {ts vs : List Nat} (hK : X.K = F.K) (hts : ∀ j ∈ ts, j ∈ vs) (h : TO F (vComp fi t vs fc fe) σ H Q) : tLc (TIt F fi) (GT F.no ts t) (TQ F.no fc) (T F.no fe) vs σ H Q := by
  obtain ⟨C, ρ, g, x, h⟩ := h
  refine ⟨C, ρ, g, x, ?_⟩
  unfold vComp at h
  cases q : fi ρ g with
  | bad => rw [q] at h; exact h
  | exc c d g => rw [q] at h; exact h
  | ok p =>
    rw [q] at h
    simp only [Res.bind_ok] at h
    obtain ⟨ds, g1⟩ := p
    by_cases hv : vs.all (notOwn ρ) = true
    · simp only [if_pos hv] at h
      intro J H1 e1 x1 wk hsz D hD
      have no : ∀ i d, ρ[i]? = some (.own d) → i ∉ vs := fun i d h1 h2 => by
        have := List.all_eq_true.mp hv i h2
        unfold notOwn at this
        rw [h1] at this
        cases this
      have ow : ∀ a, OwnA ρ σ a → OwnA (wipeD ρ vs) (wipe σ vs) a := fun a ⟨i, d, h1, h2⟩ => ⟨i, d, by rw [wipeD_keep (no i d h1)]; exact h1, by rw [wipe_keep (no i d h1)]; exact h2⟩
      have hz := x1.sc_ne hD
      have hr : D ≠ F.r := fun e => by
        have := x1.gl.row
        rw [← e, hD] at this; cases this
      have xw := x1.wipe vs
      have y0 := xw.park (d := .lst []) hD (.new hD) (x1.gl.new hD) ⟨[], upd_same, Nat.zero_le _, rfl⟩
      refine ⟨fun i m H' => ∃ g' done vals H0, R F ⟨fun a => C.S a ∨ a = D, H0⟩ (wipeD ρ vs) g' (wipe σ vs) H' ∧ Ext F.r H1 H' ∧ H' D = some (.lst vals) ∧ vals.length ≤ i ∧ F.rps H' (SO ⟨fun a => C.S a ∨ a = D, H0⟩ (wipeD ρ vs) (wipe σ vs)) done vals ∧
          (∃ rest gE, compL t fc fe (ds.drop i) (wipeD ρ vs) g' = .ok (rest, gE) ∧ StepE F (fun H1 d v => ∃ p, v = .ref p ∧ H p = none ∧ RepO F H1 (fun a => SO C ρ σ a ∨ a = p) d p) C ρ σ H (.ok (.lst (done ++ rest), gE)) Q) ∧ m + i = ds.length,
        ⟨ds.length, g1, [], [], _, y0, .new hD, upd_same, Nat.zero_le _, rfl, ?_, by omega⟩, ?_⟩
      · cases q2 : compL t fc fe ds (wipeD ρ vs) g1 with
        | bad => rw [q2] at h; exact h.elim
        | exc c d g => rw [q2] at h; exact h.elim
        | ok r =>
          rw [q2] at h
          exact ⟨r.1, r.2, q2, h⟩
      · rintro i m H' ⟨g', done, vals, H0, x', e', hL, hl, wd, ⟨rest, gE, hc, fin⟩, hm⟩
        by_cases hi : i < ds.length
        · right
          obtain ⟨d, hd, hdr⟩ := drop_cons hi
          have eB : Ext F.r (restr ρ σ H1) H' := ext_restr.trans e'
          rw [hdr] at hc
          unfold compL at hc
          refine ⟨wk.go i H' eB hi, fun H2 => ∃ g2 done2 vals2 H02, R F ⟨fun a => C.S a ∨ a = D, H02⟩ (wipeD ρ vs) g2 (wipe σ vs) H2 ∧ Ext F.r H1 H2 ∧ H2 D = some (.lst vals2) ∧ vals2.length ≤ i + 1 ∧ F.rps H2 (SO ⟨fun a => C.S a ∨ a = D, H02⟩ (wipeD ρ vs) (wipe σ vs)) done2 vals2 ∧
              (∃ rest gE, compL t fc fe (ds.drop (i + 1)) (wipeD ρ vs) g2 = .ok (rest, gE) ∧ StepE F (fun H1 d v => ∃ p, v = .ref p ∧ H p = none ∧ RepO F H1 (fun a => SO C ρ σ a ∨ a = p) d p) C ρ σ H (.ok (.lst (done2 ++ rest), gE)) Q), fun H2 ⟨g2, done2, vals2, H02, k1, k2, k3, k4, k5, k6⟩ => ⟨m - 1, by omega, g2, done2, vals2, H02, k1, k2, k3, k4, k5, k6, by omega⟩, fun v H2 hy => ?_⟩
          obtain ⟨d', hd', hn, hrep⟩ := wk.yld i H' v H2 eB hi hy
          rw [hd] at hd'; cases hd'
          have w : F.rp H2 (SO ⟨fun a => C.S a ∨ a = D, H0⟩ (wipeD ρ vs) (wipe σ vs)) d v := hrep _ x'.so fun a z => by
            rcases z with (z | z) | z
            · exact .inl ⟨z, by rw [restr_of fun k => x1.own_ne k z]; exact x1.there (.inl z)⟩
            · subst z
              right
              refine ⟨?_, by rw [hL]; simp⟩
              unfold restr
              split
              · rfl
              · exact hD
            · refine .inr ⟨if_pos (ownA_wipe z), x'.there (.inr z)⟩
          have e2 : Ext F.r H' H2 := by
            rcases hn with e | ⟨T, o, hT, e⟩
            · rw [e]; exact .refl
            · rw [e]; exact .new hT
          have x2 : R F ⟨fun a => C.S a ∨ a = D, H0⟩ (wipeD ρ vs) g' (wipe σ vs) H2 := by
            rcases hn with e | ⟨T, o, hT, e⟩
            · rw [e]; exact x'
            · rw [e]; exact x'.new hT
          cases q3 : t d (wipeD ρ vs) with
          | none => rw [q3] at hc; cases hc
          | some ρ1 =>
            rw [q3] at hc
            simp only at hc
            refine ⟨⟨fun a => C.S a ∨ a = D, H0⟩, wipeD ρ vs, g', d, ρ1, x2.no, w, q3, fun σ3 x3 sub3 keep3 => ⟨?_, ?_⟩⟩
            · exact (wipe_ext (σ := L2.wipe σ vs) keep3.1 fun j hj => (keep3.2 j fun z => hj (hts j z)).1).trans wipe_wipe
            · have own3 : ∀ a, SO ⟨fun a => C.S a ∨ a = D, H0⟩ (wipeD ρ vs) (wipe σ vs) a → SO ⟨fun a => C.S a ∨ a = D, H0⟩ ρ1 σ3 a := fun a z => z.elim .inl fun ⟨j, f, j1, j2⟩ => by
                have nj := (wipeD_some (by simp) j1).2
                have kk := keep3.2 j fun z => nj (hts j z)
                exact .inr ⟨j, f, by rw [kk.2]; exact j1, by rw [kk.1]; exact j2⟩
              refine ⟨_, ρ1, g', x3, ?_⟩
              cases q4 : fc ρ1 g' with
              | bad => rw [q4] at hc; cases hc
              | exc c d g => rw [q4] at hc; cases hc
              | ok r =>
                obtain ⟨cd, g4⟩ := r
                rw [q4] at hc
                simp only at hc
                cases q5 : cd.truth with
                | none => rw [q5] at hc; cases hc
                | some b =>
                  rw [q5] at hc
                  refine ⟨b, q5, fun H4 e4 x4 => ?_⟩
                  have b4 : R F ⟨fun a => C.S a ∨ a = D, H0⟩ (wipeD ρ vs) g4 (wipe σ vs) H4 := x2.ext e4 x4.gl.unno
                  cases b with
                  | false =>
                    simp only [Bool.false_eq_true, if_false]
                    simp only at hc
                    exact ⟨g4, done, vals, H0, b4, (e'.trans e2).trans e4, (e2.trans e4).keep _ _ hL hr nt_lst, by omega, wd.agr ((e2.trans e4).agr x'.so), rest, gE, hc, fin⟩
                  | true =>
                    simp only [if_true]
                    simp only at hc
                    refine ⟨_, ρ1, g4, x4, ?_⟩
                    cases q6 : fe ρ1 g4 with
                    | bad => rw [q6] at hc; cases hc
                    | exc c d g => rw [q6] at hc; cases hc
                    | ok r =>
                      obtain ⟨ed, g6⟩ := r
                      rw [q6] at hc
                      simp only at hc
                      intro y H5 e5 x5 w5
                      have e25 := (e2.trans e4).trans e5
                      have b5 : R F ⟨fun a => C.S a ∨ a = D, H0⟩ (wipeD ρ vs) g6 (wipe σ vs) H5 := b4.ext e5 x5.gl.unno
                      have hL5 := e25.keep _ _ hL hr nt_lst
                      cases q7 : compL t fc fe (ds.drop (i + 1)) (wipeD ρ vs) g6 with
                      | bad => rw [q7] at hc; cases hc
                      | exc c d g => rw [q7] at hc; cases hc
                      | ok r7 =>
                        obtain ⟨es, g7⟩ := r7
                        rw [q7] at hc
                        cases hc
                        have w6 : F.rps H5 (SO ⟨fun a => C.S a ∨ a = D, H0⟩ (wipeD ρ vs) (wipe σ vs)) (done ++ [ed]) (vals ++ [y]) := (wd.agr (e25.agr x'.so)).app (Reps.one (w5.sub own3))
                        have b6 := b5.put (o := .lst (vals ++ [y])) (.inr rfl) hr hz hL5 nt_lst (fun φ z => by cases z)
                        have ag : Agr (SO ⟨fun a => C.S a ∨ a = D, H0⟩ (wipeD ρ vs) (wipe σ vs)) H5 (upd H5 D (.lst (vals ++ [y]))) := .of fun a w n q _ => by rw [upd_ne fun e => n (.inl (.inr e))]; exact q
                        have eF : Ext F.r H1 H5 := e'.trans e25
                        refine ⟨vals, hL5, by omega, g6, done ++ [ed], vals ++ [y], _, b6, ⟨fun b w h n t => ?_, fun b h => ?_⟩, upd_same, by simp; omega, w6.agr ag, es, gE, q7, by rw [List.append_assoc]; exact fin⟩
                        · rw [upd_ne (ne_of_none h hD)]; exact eF.keep b w h n t
                        · by_cases e : b = D
                          · rw [e, upd_same]; simp
                          · rw [upd_ne e]; exact eF.dom b h
        · left
          have hi' : i = ds.length := by omega
          subst hi'
          rw [List.drop_length] at hc
          unfold compL at hc
          cases hc
          rw [List.append_nil] at fin
          refine ⟨wk.stop H' (ext_restr.trans e'), fin (.ref D) H' (e1.trans e') (x1.ext e' x'.gl) ⟨D, rfl, e1.free hD, vals, hL, by omega, wd.sub fun a z => ?_⟩⟩
          rcases z with (z | z) | z
          · exact .inl (.inl z)
          · exact .inr (ow a z)
          · exact .inl (.inr z)
    · simp only [if_neg hv] at h
      exact h.elim
section
variable {scope : Scope} {own : List (Str × Nat)} {t : Tg} {ts : List Nat}
theorem vo_comp (xf : XF X F) (hi : PI X tg iter (TIt F fi)) (ok : BlkOk X.N X.env.scope scope own)
    (hg : ∀ (s : Shared) (H : Hp) (C : Addr) (cl : List (Str × Addr)) (fp : List Addr), XF (X.blk s H scope (compEnvC scope cl C X.env) fp) F.no → PG (X.blk s H scope (compEnvC scope cl C X.env) fp) tg (GT F.no ts t))
    (ht : ∀ (s : Shared) (H : Hp) (C : Addr) (cl : List (Str × Addr)) (fp : List Addr), XF (X.blk s H scope (compEnvC scope cl C X.env) fp) F.no → PTs (X.blk s H scope (compEnvC scope cl C X.env) fp) ifs (TQ F.no fc))
    (he : ∀ (s : Shared) (H : Hp) (C : Addr) (cl : List (Str × Addr)) (fp : List Addr), XF (X.blk s H scope (compEnvC scope cl C X.env) fp) F.no → PE (X.blk s H scope (compEnvC scope cl C X.env) fp) elt (T F.no fe))
    (hts : ∀ j ∈ ts, j ∈ own.map (·.2) := by decide) (hs : ∀ x, foldedSetIterable iter X.env x = pure x := by intro _; rfl) :
    PE X (.ListComp elt [⟨tg, iter, ifs, 0⟩] scope pos) (TO F (vComp fi t (own.map (·.2)) fc fe)) :=
  (pe_lc xf.calm xf.N hi ok (fun s H C cl fp => hg s H C cl fp (xf.blk ..)) (fun s H C cl fp => ht s H C cl fp (xf.blk ..)) (fun s H C cl fp => he s H C cl fp (xf.blk ..)) hs).imp fun σ H Q h => comp_core xf.K hts h
theorem ss_setC {i : Nat} {y : Str} {py spos : Pos} (xf : XF X F) (hi : PI X tg iter (TIt F fi)) (ok : BlkOk X.N X.env.scope scope own)
    (hg : ∀ (s : Shared) (H : Hp) (C : Addr) (cl : List (Str × Addr)) (fp : List Addr), XF (X.blk s H scope (compEnvC scope cl C X.env) fp) F.no → PG (X.blk s H scope (compEnvC scope cl C X.env) fp) tg (GT F.no ts t))
    (ht : ∀ (s : Shared) (H : Hp) (C : Addr) (cl : List (Str × Addr)) (fp : List Addr), XF (X.blk s H scope (compEnvC scope cl C X.env) fp) F.no → PTs (X.blk s H scope (compEnvC scope cl C X.env) fp) ifs (TQ F.no fc))
    (he : ∀ (s : Shared) (H : Hp) (C : Addr) (cl : List (Str × Addr)) (fp : List Addr), XF (X.blk s H scope (compEnvC scope cl C X.env) fp) F.no → PE (X.blk s H scope (compEnvC scope cl C X.env) fp) elt (T F.no fe))
    (hts : ∀ j ∈ ts, j ∈ own.map (·.2) := by decide) (hy : X.N[i]? = some y := by rfl) (hyl : X.env.scope.names.lookup y = some .local := by rfl)
    (hsw : swapsWith (.ListComp elt [⟨tg, iter, ifs, 0⟩] scope pos) (some (.Name y py)) spos.line X.env = pure true := by exact sw_true rfl rfl rfl rfl) (hs : ∀ x, foldedSetIterable iter X.env x = pure x := by intro _; rfl) :
    PS X (.Assign [.Name y py] (.ListComp elt [⟨tg, iter, ifs, 0⟩] scope pos) spos) (TS1 F (sSet i (vComp fi t (own.map (·.2)) fc fe))) :=
  (ps_setLc xf.calm xf.N hy hyl hsw hi ok (fun s H C cl fp => hg s H C cl fp (xf.blk ..)) (fun s H C cl fp => ht s H C cl fp (xf.blk ..)) (fun s H C cl fp => he s H C cl fp (xf.blk ..)) hs).imp fun D σ H h => comp_core xf.K hts (t_toL (fun ρ g d g1 q => by
    unfold vComp at q
    cases q1 : fi ρ g with
    | bad => rw [q1] at q; cases q
    | exc c d g => rw [q1] at q; cases q
    | ok r =>
      rw [q1] at q
      simp only [Res.bind_ok] at q
      split at q
      · split at q
        · cases q; rfl
        · cases q
      · cases q) (set_T h))
theorem ss_ownC {i : Nat} {y : Str} {py spos : Pos} (xf : XF X F) (hi : PI X tg iter (TIt F fi)) (ok : BlkOk X.N X.env.scope scope own)
    (hg : ∀ (s : Shared) (H : Hp) (C : Addr) (cl : List (Str × Addr)) (fp : List Addr), XF (X.blk s H scope (compEnvC scope cl C X.env) fp) F.no → PG (X.blk s H scope (compEnvC scope cl C X.env) fp) tg (GT F.no ts t))
    (ht : ∀ (s : Shared) (H : Hp) (C : Addr) (cl : List (Str × Addr)) (fp : List Addr), XF (X.blk s H scope (compEnvC scope cl C X.env) fp) F.no → PTs (X.blk s H scope (compEnvC scope cl C X.env) fp) ifs (TQ F.no fc))
    (he : ∀ (s : Shared) (H : Hp) (C : Addr) (cl : List (Str × Addr)) (fp : List Addr), XF (X.blk s H scope (compEnvC scope cl C X.env) fp) F.no → PE (X.blk s H scope (compEnvC scope cl C X.env) fp) elt (T F.no fe))
    (hts : ∀ j ∈ ts, j ∈ own.map (·.2) := by decide) (hy : X.N[i]? = some y := by rfl) (hyl : X.env.scope.names.lookup y = some .local := by rfl)
    (hsw : swapsWith (.ListComp elt [⟨tg, iter, ifs, 0⟩] scope pos) (some (.Name y py)) spos.line X.env = pure true := by exact sw_true rfl rfl rfl rfl) (hs : ∀ x, foldedSetIterable iter X.env x = pure x := by intro _; rfl) :
    PS X (.Assign [.Name y py] (.ListComp elt [⟨tg, iter, ifs, 0⟩] scope pos) spos) (TS1 F (sOwn i (vComp fi t (own.map (·.2)) fc fe))) :=
  (ps_setLc xf.calm xf.N hy hyl hsw hi ok (fun s H C cl fp => hg s H C cl fp (xf.blk ..)) (fun s H C cl fp => ht s H C cl fp (xf.blk ..)) (fun s H C cl fp => he s H C cl fp (xf.blk ..)) hs).imp fun D σ H h => comp_core xf.K hts (own_T h)
end
end
end RP
end L2
set_option Elab.async false
set_option linter.all false
set_option maxRecDepth 100000
/-! R15: a def from its body. -/
namespace L2
namespace RP
open PySem PySem.Spec PyProof.Rows

/-- none of the built-in names that are used is hidden -/
structure Bi (mg : Str → Option Value) : Prop where
  len : mg "len" = none
  abs : mg "abs" = none
  all : mg "all" = none
  any : mg "any" = none
  bool : mg "bool" = none
  dict : mg "dict" = none
  enumerate : mg "enumerate" = none
  int : mg "int" = none
  isinstance : mg "isinstance" = none
  list : mg "list" = none
  max : mg "max" = none
  min : mg "min" = none
  range : mg "range" = none
  repr : mg "repr" = none
  set : mg "set" = none
  sorted : mg "sorted" = none
  str : mg "str" = none
  sum : mg "sum" = none
  tuple : mg "tuple" = none
  zip : mg "zip" = none
def startD (n : Nat) (ds : List D) : En := ds.map Slot.frz ++ List.replicate (n - ds.length) Slot.none
/-- what a def computes whose body is s, its frame of nN names -/
def runF (nN : Nat) (s : SS) : FS := fun ds g => match s (startD nN ds) g with
  | .ok (.nx, _, g1) => .ok (.non, g1)
  | .ok (.ret d, _, g1) => .ok (d, g1)
  | .ok _ => .bad
  | .exc c d g1 => .exc c d g1
  | .bad => .bad
section
variable {F : Fx} {C : Ctx} {ρ : En} {g : G} {σ : St} {H : Hp} {S : Addr → Prop}
theorem startD_own {n : Nat} {ds : List D} {i : Nat} {d : D} (h : (startD n ds)[i]? = some (.own d)) : False := by
  unfold startD at h
  by_cases hi : i < ds.length
  · rw [List.getElem?_append_left (by simpa using hi), List.getElem?_map] at h
    cases e : ds[i]? with
    | none => rw [e] at h; cases h
    | some a => rw [e] at h; cases h
  · rw [List.getElem?_append_right (by simpa using hi), List.getElem?_replicate] at h
    split at h <;> cases h
theorem startD_frz {n : Nat} {ds : List D} {vs : List V} {i : Nat} {d : D} (hl : ds.length = vs.length) (N : List Str) (hN : N.length = n) (h : (startD n ds)[i]? = some (.frz d)) : ds[i]? = some d ∧ (L2.start N vs)[i]? = (vs[i]?).map some ∧ i < vs.length := by
  unfold startD at h
  by_cases hi : i < ds.length
  · rw [List.getElem?_append_left (by simpa using hi), List.getElem?_map] at h
    refine ⟨?_, ?_, by omega⟩
    · cases e : ds[i]? with
      | none => rw [e] at h; cases h
      | some a => rw [e] at h; cases h; rfl
    · unfold L2.start
      rw [List.getElem?_append_left (by simp; omega), List.getElem?_map]
  · rw [List.getElem?_append_right (by simpa using hi), List.getElem?_replicate] at h
    split at h <;> cases h
theorem r_start {N : List Str} {n : Nat} {ds : List D} {vs : List V} (hn : N.length = n) (hl : vs.length ≤ n) (sr : S F.r) (sd : ∀ a, S a → H a ≠ none) (sq : SqL F.K H F.sc (F.ns.map V.int)) (ne : F.scOk) (gl : GAt F g H) (w : F.rps H S ds vs) :
    R F ⟨S, H⟩ (startD n ds) g (L2.start N vs) H := by
  have no : ∀ a, ¬ OwnA (startD n ds) (L2.start N vs) a := fun a ⟨i, d, h1, _⟩ => startD_own h1
  refine ⟨sr, sd, sq, ne, .refl, gl, ?_, fun i d h => ?_, fun i d h => (startD_own h).elim, fun i j d e a h => (startD_own h).elim⟩
  · unfold startD L2.start
    have := w.length
    simp; omega
  · obtain ⟨h1, h2, h3⟩ := startD_frz w.length N hn h
    have h4 : vs[i]? = some vs[i] := by simp [h3]
    obtain ⟨d', h5, h6⟩ := Reps.get i w h4
    rw [h1] at h5; cases h5
    exact ⟨vs[i], by rw [h2, h4]; rfl, h6.sub fun a z => z.elim id fun z => (no a z).elim⟩
/-- a promise, from inside -/
theorem spf_start {K : PySem.W.Frag} {mg : Str → Option Value} {T : List (Addr × Str)} {n nN : Nat} {s : SS} {vs : List V} {Q : VK} {E : XK} {N : List Str} (hN : N.length = nN) (hn : n ≤ nN) (h : SpF K mg T n (runF nN s) vs H Q E) :
    ∃ F : Fx, F.K = K ∧ F.mg = mg ∧ F.T = T ∧ F.E = E ∧ TS1 F s { nx := fun _ H' => Q .non H', rt := Q } (L2.start N vs) H := by
  obtain ⟨F, S, ds, g, e1, e2, e3, e4, hl, sr, sd, sq, ne, gl, w, h⟩ := h
  refine ⟨F, e1, e2, e3, e4, ⟨S, H⟩, startD nN ds, g, r_start hN (by omega) sr sd sq ne gl w, ?_⟩
  unfold runF at h
  cases q : s (startD nN ds) g with
  | bad => rw [q] at h; exact h
  | exc c d g1 => rw [q] at h; exact h
  | ok r =>
    obtain ⟨fl, ρ1, g1⟩ := r
    rw [q] at h
    cases fl with
    | nx => exact fun σ' H' x => h .non H' x.base x.gl rfl
    | ret d => exact fun v H' e gl' r => h v H' e gl' r
    | brk => exact h.elim
    | cont => exact h.elim
theorem spf_len {K : PySem.W.Frag} {mg : Str → Option Value} {T : List (Addr × Str)} {n : Nat} {fs : FS} {vs : List V} {Q : VK} {E : XK} (h : SpF K mg T n fs vs H Q E) : vs.length = n := by
  obtain ⟨F, S, ds, g, e1, e2, e3, e4, hl, _⟩ := h
  exact hl
end
section
variable {P : Program} {w : World} {K : PySem.W.Frag} {mg : Str → Option Value} {base : Heap} {T : List (Addr × Str)}
theorem xf_cx {N : List Str} {qual : Str} {sc : Scope} {f : Addr} {cdv : Value} {A : Around} {outer : List Env} {s : Shared} {H : Hp} {k : Nat} {F : Fx} (b : Bi mg) (nd : N.Nodup) (hr : Room k (A.deeper (envOfC qual sc s.heap.objs.size f cdv))) (e1 : F.K = K) (e2 : F.mg = mg) :
    XF (cxOf (L2.CX P w) P w K mg base N qual sc f cdv A outer s H F.E) F where
  K := e1.symm
  mg := e2.symm
  calm := rfl
  u := by have := hr.un; show (A.deeper _).units + 100 < _; omega
  tk := takes_of rfl rfl rfl rfl
  po := passes_of rfl
  N := nd
  len := e2 ▸ b.len
  abs := e2 ▸ b.abs
  all := e2 ▸ b.all
  any := e2 ▸ b.any
  bool := e2 ▸ b.bool
  dict := e2 ▸ b.dict
  enumerate := e2 ▸ b.enumerate
  int := e2 ▸ b.int
  isinstance := e2 ▸ b.isinstance
  list := e2 ▸ b.list
  max := e2 ▸ b.max
  min := e2 ▸ b.min
  range := e2 ▸ b.range
  repr := e2 ▸ b.repr
  set := e2 ▸ b.set
  sorted := e2 ▸ b.sorted
  str := e2 ▸ b.str
  sum := e2 ▸ b.sum
  tuple := e2 ▸ b.tuple
  zip := e2 ▸ b.zip
/-- the context of a def's body -/
abbrev cxD (P : Program) (w : World) (K : PySem.W.Frag) (mg : Str → Option Value) (base : Heap) (N : List Str) (qual : Str) (sc : Scope) (f : Addr) (cdv : Value) (A : Around) (outer : List Env) (s : Shared) (H : Hp) (E : XK) : Cx :=
  cxOf (L2.CX P w) P w K mg base N qual sc f cdv A outer s H E
/-- THE RULE for a def without defaults -/
theorem fn_ok {x qual : Str} {params : Arguments} {body : List Stmt} {sc : Scope} {f : Addr} {fd : FuncData} {N ps : List Str} {k n nN : Nat} {sem : SS} (Fd : FunD K x qual params body sc [] [] f fd) (Sc : FnScope N ps sc) (b : Bi mg) (hn : ps.length = n) (hN : N.length = nN) (hle : n ≤ nN)
    (hbody : ∀ (F : Fx) (cdv : Value) (A : Around) (outer : List Env) (s : Shared) (H : Hp), F.K = K → F.mg = mg → F.T = T → Room k (A.deeper (envOfC qual sc s.heap.objs.size f cdv)) →
      XF (cxD P w K mg base N qual sc f cdv A outer s H F.E) F → PSs (cxD P w K mg base N qual sc f cdv A outer s H F.E) body (TS1 F sem)) :
    FnOk P w K mg base (L2.CX P w) (k + 1) f fd ps (SpF K mg T n (runF nN sem)) :=
  Fd.ok Sc (fun vs H Q E h => (spf_len h).trans hn.symm) fun cdv A outer s H vs Q E hr h => by
    obtain ⟨F, e1, e2, e3, e4, h2⟩ := spf_start (N := N) hN hle h
    subst e4
    exact ⟨_, hbody F cdv A outer s H e1 e2 e3 hr (xf_cx b Sc.nd hr e1 e2), h2⟩
end
end RP
end L2
set_option Elab.async false
set_option linter.all false
set_option maxRecDepth 100000
/-! R16: isinstance. -/
namespace L2
namespace RP
open PySem PySem.Spec PyProof.Rows

inductive BT where
  | int | bool | list | tuple | dict | str
deriving DecidableEq
def BT.nm : BT → String
  | .int => "int" | .bool => "bool" | .list => "list" | .tuple => "tuple" | .dict => "dict" | .str => "str"
/-- cs: the own classes that are known -/
def D.isBT (cs : List Str) (t : BT) : D → Option Bool
  | .non => some false
  | .bl _ => some (decide (t = .bool) || decide (t = .int))
  | .int _ => some (decide (t = .int))
  | .str _ => some (decide (t = .str))
  | .tup _ => some (decide (t = .tuple))
  | .lst _ => some (decide (t = .list))
  | .dk _ => some (decide (t = .dict))
  | .ins c _ => if c ∈ cs then some false else none
  | _ => none
def D.isOwn (cs : List Str) (c : Str) : D → Option Bool
  | .non => some false
  | .bl _ => some false
  | .int _ => some false
  | .str _ => some false
  | .tup _ => some false
  | .lst _ => some false
  | .dk _ => some false
  | .ins c' _ => if c' ∈ cs then some (decide (c' = c)) else none
  | _ => none
def D.isBTd (cs : List Str) (t : BT) (d : D) : Option D := D.bOf (d.isBT cs t)
def D.isOwnd (cs : List Str) (c : Str) (d : D) : Option D := D.bOf (d.isOwn cs c)
structure IsA (K : PySem.W.Frag) (mg : Str → Option Value) (cs : List Str) : Prop where
  obj : ∀ c ∈ cs, ∀ C, mg c = some (.ref C) → Cls K C ∧ PySem.W.findIn K (.ref C) "__class__" = some (some (.builtin "object.__class__")) ∧ PySem.W.mroIn K C (.type "object") = some true ∧ ∀ t : BT, PySem.W.kitOne K (.ref C) (.type t.nm) = some false
  gs : PySem.W.specialIn K (.builtin "object.__class__") "__get__" = some (some (.builtin "getset_descriptor.__get__"))
  tk : PySem.W.takesIn K (.builtin "object.__class__") = some true
  two : ∀ c ∈ cs, ∀ c' ∈ cs, ∀ C C', mg c = some (.ref C) → mg c' = some (.ref C') → PySem.W.kitOne K (.ref C) (.ref C') = some (decide (c = c'))
  bt : ∀ c ∈ cs, ∀ C, mg c = some (.ref C) → ∀ t ∈ ["NoneType", "bool", "int", "str", "tuple", "list", "dict"], PySem.W.kitOne K (.type t) (.ref C) = some false
section
variable {X : Cx} {F : Fx} {cs : List Str} {e a : Expr} {es : List Expr} {fa : SE} {pos p p2 : Pos}
theorem kit7 {K : PySem.W.Frag} (n : String) (f : BT → Bool) (h : n ∈ ["NoneType", "bool", "int", "str", "tuple", "list", "dict"]) (hf : ∀ t : BT, kitB n t.nm = some (f t)) (t : BT) : PySem.W.kitOne K (.type n) (.type t.nm) = some (f t) := kit_ty (hf t)
theorem ty_rb {C : Ctx} {ρ : En} {σ : St} {H : Hp} {d : D} {v : V} (ia : IsA F.K F.mg cs) (w : RB F H (SO C ρ σ) d v) (hd : (d.isOwn cs "").isSome = true) : ∃ t, TyX F.K H v t ∧ (∀ b r, d.isBT cs b = some r → PySem.W.kitOne F.K t (.type b.nm) = some r) ∧
    ∀ c r, c ∈ cs → d.isOwn cs c = some r → ∀ A, F.mg c = some (.ref A) → PySem.W.kitOne F.K t (.ref A) = some r := by
  cases d with
  | non =>
    rw [show v = .non from w]
    refine ⟨_, .base .non, fun b r h => ?_, fun c r hc h A hA => ?_⟩
    · cases h; cases b <;> exact kit_ty (by decide +kernel)
    · cases h; exact ia.bt c hc A hA _ (by decide)
  | bl x =>
    rw [show v = .bl _ from w]
    refine ⟨_, .base (.bl _), fun b r h => ?_, fun c r hc h A hA => ?_⟩
    · cases h; cases b <;> exact kit_ty (by decide +kernel)
    · cases h; exact ia.bt c hc A hA _ (by decide)
  | int x =>
    rw [show v = .int _ from w]
    refine ⟨_, .base (.int _), fun b r h => ?_, fun c r hc h A hA => ?_⟩
    · cases h; cases b <;> exact kit_ty (by decide +kernel)
    · cases h; exact ia.bt c hc A hA _ (by decide)
  | str x =>
    rw [show v = .str _ from w]
    refine ⟨_, .base (.str _), fun b r h => ?_, fun c r hc h A hA => ?_⟩
    · cases h; cases b <;> exact kit_ty (by decide +kernel)
    · cases h; exact ia.bt c hc A hA _ (by decide)
  | tup xs =>
    obtain ⟨a, vs, e, _, z, _⟩ := w
    rw [e]
    refine ⟨_, .base (.tup z), fun b r h => ?_, fun c r hc h A hA => ?_⟩
    · cases h; cases b <;> exact kit_ty (by decide +kernel)
    · cases h; exact ia.bt c hc A hA _ (by decide)
  | lst xs =>
    obtain ⟨a, vs, e, _, z, _⟩ := w
    rw [e]
    refine ⟨_, .base (.lst z), fun b r h => ?_, fun c r hc h A hA => ?_⟩
    · cases h; cases b <;> exact kit_ty (by decide +kernel)
    · cases h; exact ia.bt c hc A hA _ (by decide)
  | dk xs =>
    obtain ⟨a, vs, e, _, z, _⟩ := w
    rw [e]
    have ty : TyX F.K H (.ref a) (.type "dict") := z.elim (fun z => .base (.dK z)) fun ⟨o, z⟩ => .fDict z
    refine ⟨_, ty, fun b r h => ?_, fun c r hc h A hA => ?_⟩
    · cases h; cases b <;> exact kit_ty (by decide +kernel)
    · cases h; exact ia.bt c hc A hA _ (by decide)
  | ins c fs =>
    obtain ⟨a, A, dx, ws, e, _, m, z, _⟩ := w
    rw [e]
    have hc : c ∈ cs := by
      have hd' : (if c ∈ cs then some (decide (c = ("" : Str))) else none).isSome = true := hd
      split at hd'
      · assumption
      · cases hd'
    obtain ⟨o1, o2, o3, o4⟩ := ia.obj c hc A m
    refine ⟨_, .base (.ins z o1 o2 ia.gs ia.tk o3), fun b r h => ?_, fun c' r hc' h A' hA => ?_⟩
    · unfold D.isBT at h
      simp only [if_pos hc] at h
      cases h
      exact o4 b
    · unfold D.isOwn at h
      simp only [if_pos hc] at h
      cases h
      exact ia.two c hc c' hc' A A' m hA
  | _ => cases hd
theorem isOwn_some {d : D} {c c' : Str} (h : (d.isOwn cs c).isSome = true) : (d.isOwn cs c').isSome = true := by
  cases d with
  | ins k fs =>
    unfold D.isOwn at h ⊢
    simp only at h ⊢
    split
    · rfl
    · rw [if_neg ‹_›] at h; exact h
  | _ => exact h
theorem isBT_own {d : D} {t : BT} {r : Bool} (h : d.isBT cs t = some r) : (d.isOwn cs "").isSome = true := by
  cases d with
  | ins k fs =>
    unfold D.isBT at h
    unfold D.isOwn
    simp only at h ⊢
    split
    · rfl
    · rw [if_neg ‹_›] at h; cases h
  | _ => first | rfl | cases h
/-- isinstance(a, T), T a built-in type -/
theorem ve_isBT (t : BT) {x : Str} (xf : XF X F) (ia : IsA F.K F.mg cs) (ha : PE X a (TB F fa)) (hx : x = Str.ofString t.nm) (hg : Gl X "isinstance" := by rfl) (hg2 : Gl X x := by rfl) (hm : F.mg x = none) (hv : bootBuiltins x = some (.type t.nm)) (hn : x ≠ "__name__" := by decide) (hd : (x == ("__debug__" : Str)) = false := by decide)
    (he : starEach [a, .Name x p2] X.env = (false, eval a X.env) :: starEach [.Name x p2] X.env := by rfl) (he2 : starEach [.Name x p2] X.env = (false, eval (.Name x p2) X.env) :: starEach [] X.env := by rfl) (hpl : (backTo pos (starEach [.Name x p2] X.env)).any (·.1) = false := by rfl) :
    PE X (.Call (.Name "isinstance" p) [a, .Name x p2] [] pos) (T F (v1 (pureK1 (D.isBTd cs t)) fa)) :=
  (pe_callB call_isi hg (by rw [xf.mg]; exact xf.isinstance) boot_isinstance (pa_cons ha (pa_cons (pe_bltn (v := .ty t.nm) hg2 (by rw [xf.mg]; exact hm) hv rfl hn hd) pa_nil he2) he) (he := he) (hpl := hpl)).imp fun σ H Q ⟨C, ρ, g, x, h⟩ => by
    refine one_tb x h fun d g v H1 e1 x1 w1 st => ?_
    unfold pureK1 D.isBTd D.bOf at st
    cases q : d.isBT cs t with
    | none => rw [q] at st; exact st.elim
    | some r =>
      rw [q] at st
      obtain ⟨ty, h1, h2, h3⟩ := ty_rb ia w1 (isBT_own q)
      refine ⟨v, .ty t.nm, ty, _, r, rfl, .ty _, ?_, ?_, st.here x1 rfl⟩
      · rw [xf.K]; exact h1
      · rw [xf.K]; exact h2 _ _ q
/-- isinstance(a, C), C an own class -/
theorem ve_isOwn {c : Str} (xf : XF X F) (ia : IsA F.K F.mg cs) (ha : PE X a (TB F fa)) (hc : c ∈ cs) (hm : ∃ A, F.mg c = some (.ref A)) (hg : Gl X "isinstance" := by rfl) (hg2 : Gl X c := by rfl) (hd : (c == ("__debug__" : Str)) = false := by decide)
    (he : starEach [a, .Name c p2] X.env = (false, eval a X.env) :: starEach [.Name c p2] X.env := by rfl) (he2 : starEach [.Name c p2] X.env = (false, eval (.Name c p2) X.env) :: starEach [] X.env := by rfl) (hpl : (backTo pos (starEach [.Name c p2] X.env)).any (·.1) = false := by rfl) :
    PE X (.Call (.Name "isinstance" p) [a, .Name c p2] [] pos) (T F (v1 (pureK1 (D.isOwnd cs c)) fa)) := by
  obtain ⟨A, hA⟩ := hm
  exact (pe_callB call_isi hg (by rw [xf.mg]; exact xf.isinstance) boot_isinstance (pa_cons ha (pa_cons (pe_glob (v := .ref A) hg2 (by rw [xf.mg]; exact hA) rfl hd) pa_nil he2) he) (he := he) (hpl := hpl)).imp fun σ H Q ⟨C, ρ, g, x, h⟩ => by
    refine one_tb x h fun d g v H1 e1 x1 w1 st => ?_
    unfold pureK1 D.isOwnd D.bOf at st
    cases q : d.isOwn cs c with
    | none => rw [q] at st; exact st.elim
    | some r =>
      rw [q] at st
      obtain ⟨ty, h1, h2, h3⟩ := ty_rb ia w1 (isOwn_some (c := c) (by rw [q]; rfl))
      refine ⟨v, .ref A, ty, _, r, rfl, .own _, ?_, ?_, st.here x1 rfl⟩
      · rw [xf.K]; exact h1
      · rw [xf.K]; exact h3 _ _ hc q _ hA
def D.isBT2 (cs : List Str) (t u : BT) (d : D) : Option D := match d.isBT cs t, d.isBT cs u with
  | some a, some b => some (.bl (a || b))
  | _, _ => none
/-- isinstance(a, (T, U)), built-in types -/
theorem ve_isBT2 (t u : BT) {x y : Str} {k : Nat} {q1 q2 q3 : Pos} (xf : XF X F) (ia : IsA F.K F.mg cs) (ha : PE X a (TB F fa)) (hg : Gl X "isinstance" := by rfl) (hg2 : Gl X x := by rfl) (hg3 : Gl X y := by rfl) (hm : F.mg x = none) (hm2 : F.mg y = none) (hv : bootBuiltins x = some (.type t.nm)) (hv2 : bootBuiltins y = some (.type u.nm))
    (hn : x ≠ "__name__" := by decide) (hd : (x == ("__debug__" : Str)) = false := by decide) (hn2 : y ≠ "__name__" := by decide) (hd2 : (y == ("__debug__" : Str)) = false := by decide)
    (he : starEach [a, .Tuple [.Name x q1, .Name y q2] k q3] X.env = (false, eval a X.env) :: starEach [.Tuple [.Name x q1, .Name y q2] k q3] X.env := by rfl) (he2 : starEach [.Tuple [.Name x q1, .Name y q2] k q3] X.env = (false, eval (.Tuple [.Name x q1, .Name y q2] k q3) X.env) :: starEach [] X.env := by rfl)
    (h3 : starEach [.Name x q1, .Name y q2] X.env = (false, eval (.Name x q1) X.env) :: starEach [.Name y q2] X.env := by rfl) (h4 : starEach [.Name y q2] X.env = (false, eval (.Name y q2) X.env) :: starEach [] X.env := by rfl)
    (hpl : (backTo pos (starEach [.Tuple [.Name x q1, .Name y q2] k q3] X.env)).any (·.1) = false := by rfl) :
    PE X (.Call (.Name "isinstance" p) [a, .Tuple [.Name x q1, .Name y q2] k q3] [] pos) (T F (v1 (pureK1 (D.isBT2 cs t u)) fa)) :=
  (pe_callB call_isiT hg (by rw [xf.mg]; exact xf.isinstance) boot_isinstance (pa_cons ha (pa_cons (pe_tup (pa_cons (pe_bltn (v := .ty t.nm) hg2 (by rw [xf.mg]; exact hm) hv rfl hn hd) (pa_cons (pe_bltn (v := .ty u.nm) hg3 (by rw [xf.mg]; exact hm2) hv2 rfl hn2 hd2) pa_nil h4) h3)) pa_nil he2) he) (he := he) (hpl := hpl)).imp fun σ H Q ⟨C, ρ, g, x, h⟩ => by
    refine one_tb x h fun d g v H1 e1 x1 w1 st => ?_
    unfold pureK1 D.isBT2 at st
    cases q : d.isBT cs t with
    | none => rw [q] at st; exact st.elim
    | some r =>
      cases q2 : d.isBT cs u with
      | none => rw [q, q2] at st; exact st.elim
      | some r2 =>
        rw [q, q2] at st
        refine ⟨by show 2 ≤ sizeLine; decide, fun p hp => ?_⟩
        obtain ⟨ty, h1, h2, h3⟩ := ty_rb (H := L2.upd H1 p (.tup [.ty t.nm, .ty u.nm])) ia (w1.ext x1.so (.new hp)) (isBT_own q)
        refine ⟨v, p, _, ty, [.type t.nm, .type u.nm], r || r2, rfl, upd_same, .cons (.ty _) (.cons (.ty _) .nil), ?_, ?_, st.new x1 hp rfl⟩
        · rw [xf.K]; exact h1
        · rw [xf.K]
          refine kitAny_cons (h2 _ _ q) (fun z => ?_) fun z => by rw [z]; rfl
          subst z
          refine kitAny_cons (h2 _ _ q2) (fun z => ?_) fun z => by rw [z]; rfl
          subst z
          rfl
end
end RP
end L2
set_option Elab.async false
set_option linter.all false
set_option maxRecDepth 100000
/-! R17: repr of a tuple. -/
namespace L2
namespace RP
open PySem PySem.Spec PyProof.Rows

def sized (t : Str) : Option Str := if t.length ≤ sizeLine then some t else none
def D.reprT : D → Option Str
  | .tup [.str s, .dk []] => sized (PyData.shown (.tuple [.str s, .dict []]))
  | .tup xs => if D.dats xs 59 = true ∧ (PyData.tuple (D.pys xs)).showable = true then sized (PyData.shown (.tuple (D.pys xs))) else none
  | _ => none
def D.reprD (d : D) : Option D := d.reprT.map D.str
section
variable {X : Cx} {F : Fx} {a : Expr} {fa : SE} {pos p : Pos}
theorem dict0 {P : Program} {w : World} {H : Hp} {h : Heap} {b : Addr} (o : HOk P w H h) (r : Rd H b (.dK [])) : ∃ as, (sysModules ∉ as) ∧ Reads h (.ref b) (.dict []) as := by
  have k : ObjOk P w H h b (.dK []) := by
    rcases r with r | ⟨ob, r⟩
    · exact o _ _ r
    · exact (o _ _ r).2
  obtain ⟨_, n, vs, kv, ob, es, ep, e1, e2, e3, _, e5, _⟩ := k
  cases kv
  have z : es.toList = [] := by
    cases q : es.toList with
    | nil => rfl
    | cons x xs => rw [q] at e5; cases e5
  refine ⟨_, ?_, .dict e1 e2.1 e3 (kvs := []) (as := []) (bs := []) (by rw [z]; exact .nil) (by rw [z]; exact .nil)⟩
  intro hm
  have : sysModules = b := by simpa using hm
  rw [← this] at n
  simp at n
theorem call_reprT {S : Addr → Prop} (hK : X.K = F.K) (gd : X.A.guards = some []) (hu : X.A.units + 100 < cLine) : CallR X (.builtin "repr") (fun xs H Q => ∃ (d : D) (v : V) (t : Str), xs = [v] ∧ RB F H S d v ∧ d.reprT = some t ∧ Q (.str t) H) := by
  intro pins s σ H xs us Q I r h
  obtain ⟨d, v, t, rfl, w, ht, q⟩ := h
  obtain ⟨u, rfl, ru⟩ := vals1 r
  have fin : ∀ (D0 : PyData) (a : Addr) (as : List Addr), Reads s.heap (.ref a) D0 as → D0.showable = true → (D0.hasDict = true → sysModules ∉ as) → D0.depth ≤ 70 → sized D0.shown = some t → u = .ref a → wpAny (model X.prog X.w) X.A (call (.builtin "repr") [u]) (EP X pins σ Q) X.xe s := fun D0 a as rd hs hm hd hz e => by
    subst e
    unfold sized at hz
    split at hz
    · cases hz
      exact repr_of_reads' rd hs hm gd (by omega) (fun _ _ e => e) (fun h' u tk hk => ⟨.str _, H, I.kept hk, ⟨_, rfl⟩, q⟩) ‹_›
    · cases hz
  unfold D.reprT at ht
  split at ht
  · rename_i x
    obtain ⟨a, vs, e, _, z, _, v1, ws1, e1, w1, v2, ws2, e2, w2, e3⟩ := w
    obtain ⟨b, ws, e4, _, z2, _, e5⟩ := w2
    subst e
    subst e3 e2 e1 e4
    rw [show v1 = V.str x from w1] at z
    cases (show ws = [] from e5)
    cases (show u = Value.ref a from ru)
    obtain ⟨its, rv, ⟨o, ho, hc, n, hd⟩, _⟩ := I.tuple (SqT.of z)
    obtain ⟨u1, u2, rfl, r1, r2⟩ := vals2 rv
    obtain ⟨tk, rfl⟩ := (show ∃ t, u1 = Value.str x t from r1)
    cases (show u2 = Value.ref b from r2)
    obtain ⟨as, hn, hr⟩ := dict0 I.hok z2.rd
    refine fin (.tuple [.str x, .dict []]) a _ (.tuple ho hc hd (.cons (.str _ _) (.cons hr .nil))) (by simp [PyData.showable, PyData.showableAll, PyData.showableKv]) (fun _ hm => hn (by simpa using hm)) (by simp [PyData.depth, PyData.depthAll, PyData.depthKv]) ht rfl
  · rename_i xs _
    split at ht
    · rename_i hc
      obtain ⟨hd, hs⟩ := hc
      have dp : Dp F.K H v (PyData.tuple (D.pys xs)) := rb_dp (d := .tup xs) (n := 60) hd w
      obtain ⟨a, vs, e, _⟩ := w
      subst e
      cases (show u = Value.ref a from ru)
      rw [← hK] at dp
      obtain ⟨as, rd⟩ := Dp.reads I _ _ _ dp rfl
      obtain ⟨l1, l2⟩ := dat_shape (.tup xs) 60 hd
      exact fin _ a as rd hs (PyData.noDict_hsm (PyData.hasDict_of_canLay _ l1)) (Nat.le_trans l2 (by decide)) ht rfl
    · cases ht
  · cases ht
theorem ve_repr (xf : XF X F) (gd : X.A.guards = some []) (ha : PE X a (TB F fa)) (hg : Gl X "repr" := by rfl) (he : starEach [a] X.env = (false, eval a X.env) :: starEach [] X.env := by rfl) : PE X (.Call (.Name "repr" p) [a] [] pos) (T F (v1 (pureK1 D.reprD) fa)) :=
  ⟨fun pins s σ H Q I h => by
    obtain ⟨C, ρ, g, x, h⟩ := h
    refine (pe_callB (call_reprT (F := F) (S := SO C ρ σ) xf.K.symm.symm gd xf.u) hg (by rw [xf.mg]; exact xf.repr) boot_repr (pa_cons ha pa_nil he) (he := he)).run pins s σ H Q I ?_
    show TB F fa σ H _
    refine one_tb x h fun d g v H1 e1 x1 w1 st => ?_
    unfold pureK1 D.reprD at st
    cases q : d.reprT with
    | none => rw [q] at st; exact st.elim
    | some t =>
      rw [q] at st
      exact ⟨d, v, t, rfl, w1, q, st.here x1 rfl⟩⟩
end
end RP
end L2
set_option Elab.async false
set_option linter.all false
set_option maxRecDepth 100000
/-! R18: try with several clauses, each with the same name for the error. -/
namespace L2
namespace RP
open PySem PySem.Spec PyProof.Rows

abbrev Cl : Type := Value × (Addr → Value → Option Addr → TS)
/-- at a clause's end the name in slot i is gone -/
def Ends.gone (D : Ends) (i : Nat) : Ends := { nx := fun σ' H' => D.nx (σ'.set i none) H', rt := D.rt, bk := fun σ' H' => D.bk (σ'.set i none) H', ct := fun σ' H' => D.ct (σ'.set i none) H' }
def wClauses (K : PySem.W.Frag) (Wout : WX) (D : Ends) (i : Nat) : List Cl → WX
  | [] => Wout
  | q :: r => fun cls d σ H => ∃ b, PySem.W.exmOne K cls q.1 = some b ∧ (b = true → ∀ a, H a = none → q.2 a cls d (Ends.gone D i) (σ.set i (some (.ref a))) H) ∧ (b = false → wClauses K Wout D i r cls d σ H)
inductive ClausesOk (X : Cx) (n : Str) : List ExceptHandler → List Cl → Prop
  | nil : ClausesOk X n [] []
  | cons {x : Str} {q : Cl} {st : Stmt} {sts : List Stmt} {np hp : Pos} {hs : List ExceptHandler} {l : List Cl} (hc : Names X x q.1)
      (hb : ∀ (a : Addr) (ob : Obj) (cls : Value) (d : Option Addr) (pn : List (Addr × Obj)), Zc cls d ob → (∃ vs, ob.data = .fields vs) → PSs (X.suite a ((a, ob) :: pn)) (st :: sts) (q.2 a cls d)) (r : ClausesOk X n hs l) :
      ClausesOk X n (.ExceptHandler (some (.Name x np)) (some n) (st :: sts) hp :: hs) (q :: l)
section
variable {X : Cx} {n : Str} {i : Nat} {body : List Stmt} {h₁ : ExceptHandler} {hs : List ExceptHandler} {l : List Cl} {pos : Pos} {tb : WX → TS} {Wout : WX}
theorem ps_try_named (hst : X.stack = X.env :: X.outer) (hfr : X.env.frame = some X.env.locals) (nd : X.N.Nodup) (hi : X.N[i]? = some n) (hn : X.env.kindOf n = some .local) (tk : Takes X Wout)
    (hbody : ∀ (W : WX) (pn : List (Addr × Obj)) (xe : Value → Shared → Prop), Takes (X.tr pn xe) W → PassesOwn (model X.prog X.w) X.A X.env xe → PSs (X.tr pn xe) body (tb W))
    (hh : ClausesOk X n (h₁ :: hs) l) : PS X (.Try body (h₁ :: hs) [] [] pos) (fun D σ H => tb (wClauses X.K Wout D i l) D σ H) := by
  refine ⟨fun pins s σ H D I hyp => ?_⟩
  have fine := I.ok
  have frm : X.A.frames = some (X.env :: X.outer) := by rw [fine.frames, hst]
  have lcl : Loc X.env.scope n := .inl hn
  refine wpAny_Try_except ?_
  have caught : ∀ (u : Value) (s' : Shared), XE (X.tr (X.pn ++ pins) (fun e s₁ => wpAny (model X.prog X.w) X.A (noteFrame e X.env) (fun _ s₂ => wpAny (model X.prog X.w) X.A (setFlight e none) (fun _ s₃ =>
      wpAny (model X.prog X.w) X.A (handleBy e X.env (h₁ :: hs)) (SP X pins D) X.xe s₃) X.xe s₂) X.xe s₁)) (wClauses X.K Wout D i l) u s' →
      wpAny (model X.prog X.w) X.A (noteFrame u X.env) (fun _ s₂ => wpAny (model X.prog X.w) X.A (setFlight u none) (fun _ s₃ => wpAny (model X.prog X.w) X.A (handleBy u X.env (h₁ :: hs)) (SP X pins D) X.xe s₃) X.xe s₂) X.xe s' := by
    intro u s' xx
    obtain ⟨a, B, sI, pins', σ', H', cls, d, rfl, Jt, nb, up, sky, na, os, ag, wish⟩ := xx
    have J : Inv X pins σ' H' sI := Jt.ofTry fine
    have sky' : Sky B (X.env :: X.outer) a (Zc cls d) X.env.locals s'.heap := by rw [← hst]; exact sky
    refine Sky.land Zc.steady frm hfr sky' fun h3 fl3 up3 => ?_
    have J3 : Inv X pins σ' H' { s' with heap := h3 } := J.landed nb fl3.1 (up.trans up3) os ag
    obtain ⟨oe3, vs3, he3, hz3, hd3⟩ := fl3.there
    have nfr : a ∉ frs (X.env :: X.outer) := fun hm => by
      obtain ⟨_, o', e', hnf⟩ := fl3.2.2.1.mem hm
      rw [he3] at e'
      cases e'
      exact hnf _ hd3
    have nL : a ≠ X.env.locals := fun z => nfr (List.mem_filterMap.mpr ⟨X.env, List.mem_cons_self, by rw [hfr, z]⟩)
    have nF : a ∉ X.fs := fun hm => by
      obtain ⟨e, he, q⟩ := List.mem_filterMap.mp hm
      exact nfr (List.mem_filterMap.mpr ⟨e, List.mem_cons_of_mem _ he, q⟩)
    have S3 := J3.suite he3 hd3 na nL nF
    have run : ∀ {hs' : List ExceptHandler} {l' : List Cl}, ClausesOk X n hs' l' → wClauses X.K Wout D i l' cls d σ' H' →
        wpAny (model X.prog X.w) X.A (handleBy (.ref a) X.env hs') (SP X pins D) X.xe { s' with heap := h3 } := by
      intro hs' l' hk
      induction hk with
      | nil =>
        intro wish
        refine wpAny_handleBy_nil ?_
        obtain ⟨k1, k2, k3, oe, vs, T, oT, ts', he, hz, hd, h1, hr⟩ := id fl3
        unfold PySem.passOn
        refine wpAny_bind (wpAny_field he hd h1 ?_)
        rw [if_neg (show ¬ ((Value.ref T == Value.none) = true) from by simp)]
        have up' : wpAny (model X.prog X.w) X.A (setFlight (.ref a) X.env.frame) (fun _ s4 => wpAny (model X.prog X.w) X.A (throw (.ref a) : Sem Flow) (SP X pins D) X.xe s4) X.xe { s' with heap := h3 } := by
          rw [hfr]
          refine HandSPX.setFlight_upZ fl3 fun h4 hh4 up4 => wpAny_throw (tk _ _ ⟨a, B, sI, pins, σ', H', cls, d, rfl, J, nb, (up.trans up3).trans up4, .inr (.inr (by rw [hst]; exact hh4)), na, os, ag, wish⟩)
        first
          | exact wpAny_bind (wpAny_pure (wpAny_bind up'))
          | exact wpAny_bind up'
      | @cons x q st sts np hp hs2 l2 hc hb r ih =>
        intro wish
        obtain ⟨b, hb1, yes, no⟩ := wish
        refine wpAny_handleBy_cons (codeAny_handlers_test ?_) (by intro q; cases q)
        have LT : PySem.W.Looks (model X.prog X.w) h3 (typeOf (.ref a)) cls := fun A Q E s k q => wpAny_typeOf_ref (k _ _ he3) (by rw [hz3.1]; exact q)
        have LM := PySem.W.exm_one (M := model X.prog X.w) J3.kIn LT hb1
        have asked : ∀ {Q : Value → Shared → Prop} {E : Value → Shared → Prop}, Q q.1 { s' with heap := h3 } → wpAny (model X.prog X.w) (X.A.mark (some (.ref a))) (eval (.Name x np) X.env) Q E { s' with heap := h3 } := fun {Q E} qq => by
          obtain ⟨hg, hdbg, hm | ⟨hm, hv, hnn⟩⟩ := hc
          · exact ld_glob (X := X.suite a ((a, oe3) :: (X.pn ++ pins))) S3 hg hm qq hdbg
          · exact ld_blt (X := X.suite a ((a, oe3) :: (X.pn ++ pins))) S3 hg hm hv qq hnn hdbg
        refine asked (LM.here ?_)
        cases b with
        | false => exact ih (no rfl)
        | true =>
          refine codeAny_handlers_suite_as ?_
          refine HandSPX.lands_againZ fl3 fun h4 fl4 up4 => ?_
          have J4 : Inv X pins σ' H' { s' with heap := h4 } := J.landed nb fl4.1 ((up.trans up3).trans up4) os ag
          obtain ⟨oe4, vs4, he4, hz4, hd4⟩ := fl4.there
          have S4 := J4.suite he4 hd4 na nL nF
          refine store_ok (X := X.suite a ((a, oe4) :: (X.pn ++ pins))) (v := .ref a) S4 nd hi lcl rfl (fun s5 S5 => ?_) (.inr hn)
          refine wpAny_mono ((hb a oe4 cls d (X.pn ++ pins) hz4 ⟨_, hd4⟩).run [] s5 _ H' _ S5 (yes rfl a na)) (fun f s6 hsp => ?_) (fun _ _ z => False.elim z)
          have shut : ∀ {σ6 : St} {H6 : Hp} {Q : Shared → Prop}, Inv (X.suite a ((a, oe4) :: (X.pn ++ pins))) [] σ6 H6 s6 → (∀ s7, Inv X pins (σ6.set i none) H6 s7 → Q s7) →
              wpAny (model X.prog X.w) X.A (do bindName X.env n .none; unbindBehindTheSuite X.env n hp) (fun _ s7 => Q s7) X.xe s6 := fun {σ6 H6 Q} S6 hq => gone_ok (S6.unsuite fine) nd hi hn hq
          cases f with
          | ret u =>
            obtain ⟨v6, σ6, H6, S6, r6, q6⟩ := hsp
            exact shut S6 fun s7 J7 => ⟨_, _, _, J7, r6, q6⟩
          | next => obtain ⟨σ6, H6, S6, q6⟩ := hsp; exact shut S6 fun s7 J7 => ⟨_, _, J7, q6⟩
          | brk => obtain ⟨σ6, H6, S6, q6⟩ := hsp; exact shut S6 fun s7 J7 => ⟨_, _, J7, q6⟩
          | cont => obtain ⟨σ6, H6, S6, q6⟩ := hsp; exact shut S6 fun s7 J7 => ⟨_, _, J7, q6⟩
    exact run hh wish
  refine wpAny_mono ((hbody (wClauses X.K Wout D i l) (X.pn ++ pins) _ caught PassesOwn.looking).run [] s σ H D (I.toTry _) hyp) (fun f s1 hsp => ?_) (fun e s1 he => he)
  cases f with
  | ret u =>
    obtain ⟨v, σ', H', J', r, q⟩ := hsp
    exact ⟨v, σ', H', J'.ofTry fine, r, q⟩
  | next => obtain ⟨σ', H', J', q⟩ := hsp; exact wpAny_execs_nil ⟨σ', H', J'.ofTry fine, q⟩
  | brk => obtain ⟨σ', H', J', q⟩ := hsp; exact ⟨σ', H', J'.ofTry fine, q⟩
  | cont => obtain ⟨σ', H', J', q⟩ := hsp; exact ⟨σ', H', J'.ofTry fine, q⟩
end
end RP
end L2
set_option Elab.async false
set_option linter.all false
set_option maxRecDepth 100000
/-! R19: a lambda is made; what is called with it. -/
namespace L2
namespace RP
open PySem PySem.Spec PyProof.Rows LamX

section
variable {X : Cx} {pins : List (Addr × Obj)} {σ : L2.St} {H : Hp} {s : Shared}
/-- as the library's rule; told besides: what was there is there -/
theorem lam_made {T : List (Addr × Str)} {c P : Addr} {params : Arguments} {body : Expr} {scope : Scope} {pos : Pos} {E : Value → Shared → Prop} {Q : Value → Shared → Prop} (I : Inv X pins σ H s) (TB : TabB X.base X.mg c P) (hcode : X.env.code = .ref c)
    (hm : (P, X.env.qual ++ "<lambda>") ∈ T) (hu : ∀ p ∈ T, p.1 = P → p.2 = X.env.qual ++ "<lambda>") (hT : Tabs T H) (hdef : defaultsOf params X.env = ([], [])) (hfree : ∀ y ∈ scope.names, y.2 = .free → ∃ c, X.env.cells.lookup y.1 = some c)
    (h : ∀ (f c' : Addr) (pm ctv : Value) (H1 : Hp) (s' : Shared), Inv X pins σ H1 s' → ExtN H H1 → (∀ b, H b ≠ none → H1 b ≠ none) → Tabs T H1 →
      s'.heap.get? f = some (PySem.W.kla_obj "<lambda>" (X.env.qual ++ "<lambda>") params body scope (cloFrom X.env.cells scope.names []) pm c' ctv) → H1 f = none → f ∉ frs X.stack → H1 c' = some (CodeO c' (X.env.qual ++ "<lambda>")) → Q (.ref f) s') :
    wpAny (model X.prog X.w) X.A (eval (.Lambda params body scope pos) X.env) Q E s := by
  obtain ⟨ps, tblP, trip, among⟩ := hT _ hm
  have bmP : s.heap.BuiltinsAt X.mg P := TB.bm.keeps I.bk
  have atP : s.heap.get? P = some { cls := .none, data := .fields ps } := I.hok P _ tblP
  have apart : ∀ f, s.heap.objs.size ≤ f → f ∉ frs X.stack := fun f hf z => by
    rcases List.mem_cons.mp (I.stkSub _ z) with e | e
    · have l1 := I.lt
      exact absurd (Nat.lt_of_lt_of_le (e ▸ l1) hf) (Nat.lt_irrefl _)
    · exact I.nofs hf e
  refine PySem.W.kla_eval hdef ?_
  cases hc : codeAmong pos ps.toList with
  | some cv =>
    obtain ⟨c', e, hco⟩ := among pos cv hc
    subst e
    refine PySem.W.kla_makeFunctionHit (mg := X.mg) (c := c) (P := P) (ps := ps) (closure_ok hfree) I.ok.glob (I.mod.glob.keeps I.bk) hcode (TB.code.keeps I.bk) atP trip hc bmP fun ctv h' tk hx hsz => ?_
    have J : Inv X pins σ H { s with heap := h'.push (PySem.W.kla_obj "<lambda>" (X.env.qual ++ "<lambda>") params body scope (cloFrom X.env.cells scope.names []) ((X.mg "__name__").getD .none) c' ctv), toks := tk } := I.kept fun b o e => Heap.get?_push_of_some _ (hx b o e)
    exact h h'.objs.size c' ((X.mg "__name__").getD .none) ctv H _ J (ExtN.refl H) (fun _ z => z) hT (Heap.get?_push_size _ rfl) (I.hok.fresh hsz) (apart _ hsz) hco
  | none =>
    refine PySem.W.kla_makeFunction (mg := X.mg) (c := c) (P := P) (ps := ps) (closure_ok hfree) I.ok.glob (I.mod.glob.keeps I.bk) hcode (TB.code.keeps I.bk) atP trip hc TB.gP bmP fun c' ctv h' tk hx hge hlt hrec htb => ?_
    obtain ⟨c2, oc, vs, t, e2, hoc, hd, hv⟩ := hrec
    cases e2
    have big : s.heap.objs.size ≤ h'.objs.size := by omega
    have newC : H c' = none := I.hok.fresh hge
    have J := inv_table (t' := tk) (more := #[rawInt pos.line, rawInt pos.col, .ref c']) (h' := h'.push (PySem.W.kla_obj "<lambda>" (X.env.qual ++ "<lambda>") params body scope (cloFrom X.env.cells scope.names []) ((X.mg "__name__").getD .none) c' ctv)) I tblP
      (fun b o hb e => Heap.get?_push_of_some _ (hx b o hb e)) (Heap.get?_push_of_some _ htb) hge ⟨oc, vs, t, Heap.get?_push_of_some _ hoc, hd, hv⟩
    have stays : ExtN H (L2.upd (L2.upd H P (.tbl (ps ++ #[rawInt pos.line, rawInt pos.col, .ref c']))) c' (CodeO c' (X.env.qual ++ "<lambda>"))) := fun b o e n => by
      rw [upd_ne (ne_of_none e newC), upd_ne (fun z => n ps (Option.some.inj (e.symm.trans (by rw [z]; exact tblP))))]
      exact e
    have asList : (ps ++ #[rawInt pos.line, rawInt pos.col, .ref c']).toList = ps.toList ++ [rawInt pos.line, rawInt pos.col, .ref c'] := by simp
    refine h h'.objs.size c' ((X.mg "__name__").getD .none) ctv _ _ J stays (fun b hb => ?_) (fun p hp => ?_) (Heap.get?_push_size _ rfl) ?_ (apart _ big) upd_same
    · by_cases h1 : b = c'
      · rw [h1, upd_same]; simp
      · rw [upd_ne h1]
        by_cases h2 : b = P
        · rw [h2, upd_same]; simp
        · rw [upd_ne h2]; exact hb
    · by_cases hb : p.1 = P
      · rw [hu p hp hb, hb]
        refine ⟨_, by rw [upd_ne (ne_of_none tblP newC), upd_same], by rw [asList]; exact PySem.TriplesOk_snoc _ _ _ _ trip, fun p' cv hcv => ?_⟩
        rw [asList] at hcv
        rcases among_app _ trip hcv with z | z
        · obtain ⟨c0, e1, e2⟩ := among p' cv z
          exact ⟨c0, e1, stays _ _ e2 codeO_ne⟩
        · exact ⟨c', z, upd_same⟩
      · obtain ⟨ps', a1, a2, a3⟩ := hT p hp
        refine ⟨ps', by rw [upd_ne (ne_of_none a1 newC), upd_ne hb]; exact a1, a2, fun p' cv hcv => ?_⟩
        obtain ⟨c0, e1, e2⟩ := a3 p' cv hcv
        exact ⟨c0, e1, stays _ _ e2 codeO_ne⟩
    · have n1 : h'.objs.size ≠ c' := by omega
      have n2 : h'.objs.size ≠ P := Nat.ne_of_gt (Nat.lt_of_lt_of_le (Heap.lt_size atP) big)
      rw [upd_ne n1, upd_ne n2]
      exact I.hok.fresh big
end
/-! ### what a def makes of a lambda that is handed to it -/
/-- the class of an own error as one that is caught -/
structure ExA (K : PySem.W.Frag) (mg : Str → Option Value) (excs : List Str) : Prop where
  xf : ∀ c ∈ excs, ∀ A, mg c = some (.ref A) → XfC K A ∧ PySem.W.findIn K (.ref A) "value" = some none
  there : ∀ c ∈ excs, ∃ A, mg c = some (.ref A)
  one : ∀ c ∈ excs, ∀ x ∈ excs, ∀ A B, mg c = some (.ref A) → mg x = some (.ref B) → PySem.W.exmOne K (.ref A) (.ref B) = some (decide (c = x)) ∧ (c = x → A = B)
/-- except x as e: return (tag, e.value), for each of l -/
inductive Told : List (Str × Str) → List ExceptHandler → Prop
  | nil : Told [] []
  | cons {x tag : Str} {l : List (Str × Str)} {hs : List ExceptHandler} {p1 p2 p3 p4 p5 p6 p7 : Pos} {j k : Nat} (r : Told l hs) :
      Told ((x, tag) :: l) (.ExceptHandler (some (.Name x p1)) (some "e") [.Return (some (.Tuple [.Constant (.str tag) j p2, .Attribute (.Name "e" p3) "value" p4] k p5)) p6] p7 :: hs)
def tagOf (l : List (Str × Str)) (c : Str) : Option Str := (l.find? fun q => decide (c = q.1)).map (·.2)
/-- what is told of a computation: its error's tag and value, or '' and None -/
def vRef (excs : List Str) (l : List (Str × Str)) (fb : SE) : SE := fun ρ g => match fb (ρ.map fun s => match s with | .own _ => .none | s => s) g with
  | .ok (_, g1) => .ok (.tup [.str "", .non], g1)
  | .exc c d g1 => (if c ∈ excs then (match tagOf l c with
    | some tag => .ok (.tup [.str tag, d], g1)
    | none => .bad) else .bad)
  | .bad => .bad
abbrev notNow (ρ : En) : En := ρ.map fun s => match s with | .own _ => .none | s => s
section
variable {F : Fx} {C : Ctx} {ρ : En} {g : G} {σ : St} {H H1 : Hp} {E : XK}
/-- the frame as a lambda sees it -/
theorem R.lam (x : R F C ρ g σ H) : R { F with E := E } ⟨SO C ρ σ, H⟩ (notNow ρ) g σ H := by
  have at_ : ∀ {i : Nat} {s : Slot}, (notNow ρ)[i]? = some s → s ≠ .none → ρ[i]? = some s ∧ ∀ d, s ≠ .own d := fun {i s} h hn => by
    rw [List.getElem?_map] at h
    cases q : ρ[i]? with
    | none => rw [q] at h; cases h
    | some t =>
      rw [q] at h
      cases t with
      | own d => cases h; exact absurd rfl hn
      | none => cases h; exact absurd rfl hn
      | frz d => cases h; exact ⟨rfl, fun _ z => by cases z⟩
  have no : ∀ a, ¬ OwnA (notNow ρ) σ a := fun a ⟨i, d, h1, _⟩ => (at_ h1 (by simp)).2 d rfl
  exact ⟨x.so, fun a z => x.there z, x.sqH, x.ne, .refl, ⟨x.gl.row, x.gl.tab, x.gl.ns⟩, by simp [x.len], fun i d h => by
    obtain ⟨v, h1, h2⟩ := x.frz i d (at_ h (by simp)).1
    exact ⟨v, h1, h2.sub fun a z => z.elim id fun z => (no a z).elim⟩, fun i d h => ((at_ h (by simp)).2 d rfl).elim, fun i j d e a h => ((at_ h (by simp)).2 d rfl).elim⟩
theorem ext_of (e : ExtN H H1) (d : ∀ b, H b ≠ none → H1 b ≠ none) {r : Addr} : Ext r H H1 := ⟨fun b o h _ n => e b o h n, d⟩
theorem R.lamd (x : R F C ρ g σ H) (e : ExtN H H1) (d : ∀ b, H b ≠ none → H1 b ≠ none) (t : Tabs F.T H1) : R F C ρ g σ H1 := x.ext (ext_of e d) ⟨e _ _ x.gl.row G.obj_nt, t, x.gl.ns⟩
end
/-- the clauses as readings -/
def clOf (B : Str → Addr) (l : List (Str × Str)) : List Cl := l.map fun q => (.ref (B q.1), fun a cls d => tRet (tTup (tCons (tC (.str q.2)) (tCons (tXf a cls d (B q.1) "value" (tVar 1)) tNil))))
theorem told_ok {X : Cx} {excs : List Str} {B : Str → Addr} (hB : ∀ x ∈ excs, X.mg x = some (.ref (B x))) (ea : ExA X.K X.mg excs) (hN : X.N[1]? = some ("e" : Str)) (hv : Vis X.env.scope "e") (hg : ∀ x ∈ excs, Gl X x ∧ (x == ("__debug__" : Str)) = false)
    (hs : ∀ (e : Expr) (es : List Expr), starEach (e :: es) X.env = (false, eval e X.env) :: starEach es X.env ∨ True) :
    ∀ {l : List (Str × Str)} {hds : List ExceptHandler}, Told l hds → (∀ q ∈ l, q.1 ∈ excs) → ClausesOk X "e" hds (clOf B l)
  | _, _, .nil, _ => .nil
  | _, _, .cons (x := x) (tag := tag) r, hl => by
    have hx : x ∈ excs := hl _ List.mem_cons_self
    obtain ⟨k1, k2⟩ := ea.xf x hx _ (hB x hx)
    refine .cons ⟨(hg x hx).1, (hg x hx).2, .inl (hB x hx)⟩ (fun a ob cls d pn hz hf => ?_) (told_ok hB ea hN hv hg hs r fun q hq => hl q (List.mem_cons_of_mem _ hq))
    exact pss_one (ps_ret (pe_tup (pa_cons pe_str (pa_cons (pe_xf k1 k2 hz hf (pe_var hN hv)) pa_nil))))
end RP
end L2
set_option Elab.async false
set_option linter.all false
set_option maxRecDepth 100000
/-! R20: a lambda handed to the def that tells how it ends. -/
namespace L2
namespace RP
open PySem PySem.Spec PyProof.Rows LamX

/-- try: ask() / except x as e: return (tag, e.value) .. / return ('', None) -/
structure RefB (l : List (Str × Str)) (bg : List Stmt) : Prop where
  ex : ∃ (h : ExceptHandler) (hs : List ExceptHandler) (p1 p2 p3 p4 p5 p6 p7 p8 : Pos) (j1 j2 k : Nat), Told l (h :: hs) ∧
    bg = [.Try [.Expr (.Call (.Name "ask" p1) [] [] p2) p3] (h :: hs) [] [] p4, .Return (some (.Tuple [.Constant (.str "") j1 p5, .Constant .none j2 p6] k p7)) p8]
section
variable {X : Cx} {F : Fx}
theorem xf_lam (xf : XF X F) {A : Around} {outer : List Env} {s : Shared} {H : Hp} {E : XK} {scope : Scope} {f c' : Addr} {k : Nat} (hr : Room k (A.deeper (lamEnv X scope s.heap.objs.size f c'))) : XF (lamCx X A outer s H E scope f c') { F with E := E } :=
  ⟨xf.K, xf.mg, rfl, by have := hr.un; show (A.deeper _).units + 100 < _; omega, L2.takes_of rfl rfl rfl rfl, passes_of rfl, xf.N, xf.len, xf.abs, xf.all, xf.any, xf.bool, xf.dict, xf.enumerate, xf.int, xf.isinstance, xf.list, xf.max, xf.min, xf.range, xf.repr, xf.set, xf.sorted, xf.str, xf.sum, xf.tuple, xf.zip⟩
theorem takes_len {X : Cx} {W : WX} {n : Nat} (tk : Takes X W) (hn : X.N.length = n) : Takes X (fun cls d σ H => σ.length = n → W cls d σ H) := fun u s' ⟨a, B, sI, pins, σ, H, cls, d, e, I, nb, up, sky, na, os, ag, w⟩ =>
  tk u s' ⟨a, B, sI, pins, σ, H, cls, d, e, I, nb, up, sky, na, os, ag, w (I.len.trans hn)⟩
/-- what the clauses make of an own error -/
theorem clauses_take {K : PySem.W.Frag} {mg : Str → Option Value} {excs : List Str} {B : Str → Addr} (hB : ∀ x ∈ excs, mg x = some (.ref (B x))) (ea : ExA K mg excs) {c tag : Str} {A dd : Addr} {v : V} {D : Ends} {σ : L2.St} {H : Hp} (hc : c ∈ excs) (hA : mg c = some (.ref A)) (hσ : σ.length = 2)
    (hd : H dd = some (.xd [(("value" : Str), v)])) (hq : ∀ p, H p = none → D.rt (.ref p) (upd H p (.tup [.str tag, v]))) :
    ∀ {l : List (Str × Str)}, (∀ q ∈ l, q.1 ∈ excs) → tagOf l c = some tag → wClauses K (fun _ _ _ _ => False) D 1 (clOf B l) (.ref A) (some dd) σ H
  | [], _, h => by cases h
  | (x, t) :: l, hl, h => by
    have hx : x ∈ excs := hl _ List.mem_cons_self
    obtain ⟨o1, o2⟩ := ea.one c hc x hx A (B x) hA (hB x hx)
    refine ⟨_, o1, fun hb a _ => ?_, fun hb => ?_⟩
    · have e : c = x := of_decide_eq_true hb
      have et : t = tag := by
        unfold tagOf at h
        rw [List.find?_cons_of_pos (by exact decide_eq_true e)] at h
        exact Option.some.inj h
      subst et
      have s1 : (σ.set 1 (some (V.ref a)))[1]? = some (some (V.ref a)) := List.getElem?_set_self (by omega)
      exact ⟨.ref a, s1, rfl, by rw [o2 e], dd, [(("value" : Str), v)], v, rfl, hd, by rfl, by show 2 ≤ sizeLine; decide, hq⟩
    · have e : ¬ c = x := of_decide_eq_false hb
      refine clauses_take hB ea hc hA hσ hd hq (fun q hm => hl q (List.mem_cons_of_mem _ hm)) ?_
      unfold tagOf at h ⊢
      rw [List.find?_cons_of_neg (by simpa using e)] at h
      exact h
def tbRef (F : Fx) (fb : SE) (σ0 : L2.St) (f c' : Addr) (q : Str) : WX → TS := fun W D σz Hz => ∃ Ech : XK, (∀ cls d σ' H', Ech cls d H' → σ'.length = 2 → W cls d σ' H') ∧ σz[0]? = some (some (V.ref f)) ∧ Hz c' = some (CodeO c' q) ∧ T { F with E := Ech } fb σ0 Hz fun _ H' => D.nx σz H'
theorem ve_refused {excs : List Str} {l : List (Str × Str)} {B : Str → Addr} {a x : Str} {g c P : Addr} {k j : Nat} {pg : Arguments} {bg : List Stmt} {sg : Scope} {fdg : FuncData} {params : Arguments} {body : Expr} {scope : Scope} {fb : SE} {p lpos pos : Pos} (xf : XF X F) (hB : ∀ x ∈ excs, F.mg x = some (.ref (B x)))
    (ea : ExA F.K F.mg excs) (hl : ∀ q ∈ l, q.1 ∈ excs) (hx : Gl X x) (hm : F.mg x = some (.ref g)) (Fd : FunD F.K x x pg bg sg [] [] g fdg) (Sg : FnScope ["ask", "e"] ["ask"] sg) (rb : RefB l bg) (va : Vis sg "ask") (ve : sg.names.lookup ("e" : Str) = some .local)
    (hgl : ∀ y ∈ excs, sg.names.lookup y = some .globalImplicit ∧ (y == ("__debug__" : Str)) = false) (hbn : Binds F.K fdg ["ask"] []) (TB : TabB X.base X.mg c P) (hcode : X.env.code = .ref c) (hmT : (P, X.env.qual ++ "<lambda>") ∈ F.T) (hu : ∀ p ∈ F.T, p.1 = P → p.2 = X.env.qual ++ "<lambda>")
    (hr : Room j X.A) (hk : k + 2 ≤ j) (L : LamS X.env.scope scope) (hdef : defaultsOf params X.env = ([], [])) (hbind : ∀ (q : Str) (cl : List (Str × Addr)) (pm cv ctv : Value), bindArgs (PySem.W.kla_fn "<lambda>" q params body scope cl pm cv ctv) ⟨[], []⟩ = pure [])
    (hbody : ∀ (A : Around) (outer : List Env) (s : Shared) (H : Hp) (E : XK) (f c' : Addr), Room k (A.deeper (lamEnv X scope s.heap.objs.size f c')) → XF (lamCx X A outer s H E scope f c') { F with E := E } → PE (lamCx X A outer s H E scope f c') body (T { F with E := E } fb))
    (hdb : (x == ("__debug__" : Str)) = false := by decide) : PE X (.Call (.Name x p) [.Lambda params body scope lpos] [] pos) (T F (vRef excs l fb)) := by
  refine ⟨fun pins s σ H Q I h => ?_⟩
  obtain ⟨C, ρ, g0, x0, h⟩ := h
  obtain ⟨oc, od, dV, kV, doc, pm, an, cdv, ct, osl, efd, lk, hcd, _⟩ := Fd.ex
  have kp := Fd.kp
  subst efd
  rw [← xf.K] at lk hcd hbn ea kp
  rw [← xf.mg] at hB ea hm
  refine wpAny_Call_Name_kw (ld_glob I hx hm ?_ hdb)
  refine PySem.W.callWith_K (h₀ := X.base) I.ok.mod.kin kp ?_ (by rfl) (by rfl)
  show wpAny _ _ (spliced ((false, eval (.Lambda params body scope lpos) X.env) :: backTo pos (starEach [] X.env))) _ _ s
  refine Calls.spliced_cons (lam_made I TB hcode hmT hu x0.gl.tab hdef (L.has I.ok) fun f c' pm' ctv H1 s' I1 eN dm T1 hf hfn hfr hco => ?_)
  refine Calls.spliced_nil ⟨I1.kIn, ?_⟩
  have x1 := x0.lamd eN dm T1
  have hr2 : Room (k + 2) X.A := hr.mono hk
  have rc : codeAny (model X.prog X.w) X.A (.call (.ref g) ⟨[.ref f], []⟩) (CR C8.CX0 X.stack X.prog X.w H1 s' Q C8.E0) s' := by
    refine run_ofS (N := ["ask", "e"]) (ps := ["ask"]) (us := [.ref f]) (vs := [.ref f]) lk hcd Sg hr2 I1.env0 (hbn s' [.ref f] I1.kIn rfl) (.cons rfl .nil) rfl fun hr' => ?_
    obtain ⟨h1, hs, p1, p2, p3, p4, p5, p6, p7, p8, j1, j2, kk, told, eb⟩ := rb.ex
    subst eb
    have zn : PSs (cxOf C8.CX0 X.prog X.w X.K X.mg X.base ["ask", "e"] x sg g cdv X.A X.stack s' H1 C8.E0).nox
        [.Try [.Expr (.Call (.Name "ask" p1) [] [] p2) p3] (h1 :: hs) [] [] p4, .Return (some (.Tuple [.Constant (.str "") j1 p5, .Constant .none j2 p6] kk p7)) p8]
        (tSeq (fun D σz Hz => tbRef F fb σ f c' (X.env.qual ++ "<lambda>")
          (wClauses X.K (fun _ _ _ _ => False) D 1 (clOf B l)) D σz Hz) (tRet (tTup (tCons (tC (.str "")) (tCons (tC .non) tNil))))) := by
      refine pss_cons (ps_try_named (X := (cxOf C8.CX0 X.prog X.w X.K X.mg X.base ["ask", "e"] x sg g cdv X.A X.stack s' H1 C8.E0).nox) (i := 1) (tb := tbRef F fb σ f c' (X.env.qual ++ "<lambda>")) (l := clOf B l) rfl rfl Sg.nd rfl ve L2.takes0 (fun W pn xe tk _ => ?_) ?_) (pss_one (ps_ret (pe_tup (pa_cons pe_str (pa_cons pe_non pa_nil)))))
      · refine ⟨fun pins' s2 σ2 H2 D2 I2 h2 => ?_⟩
        obtain ⟨Ech, hW, a1, a2, a3⟩ := h2
        have hp := pe_act (CXg := C8.CX0) (Eg := C8.E0) (Ng := ["ask", "e"]) (i := 0) (W := fun cls d σ H => σ.length = 2 → W cls d σ H) (E := Ech) (p1 := p1) (p2 := p2) I1 L hf hfn hfr (hbind _ _ _ _ _) (takes_len tk rfl) hW hr' (fun A outer s H hr3 => hbody A outer s H Ech f c' hr3 (xf_lam xf hr3)) (a := "ask") rfl va
        exact (pss_one (ps_expr (pos := p3) hp)).run pins' s2 σ2 H2 D2 I2 ⟨a1, a2, a3⟩
      · exact told_ok (X := (cxOf C8.CX0 X.prog X.w X.K X.mg X.base ["ask", "e"] x sg g cdv X.A X.stack s' H1 C8.E0).nox) (excs := excs) hB ea rfl (.inl ve) (fun y hy => ⟨(hgl y hy).1, (hgl y hy).2⟩) (fun _ _ => .inr trivial) told hl
    refine ⟨_, zn.nox, ?_⟩
    refine ⟨fun cls d H' => ∀ σ' : L2.St, σ'.length = 2 → wClauses X.K (fun _ _ _ _ => False) _ 1 (clOf B l) cls d σ' H', fun cls d σ' H' e hσ => e σ' hσ, rfl, hco, ⟨SO C ρ σ, H1⟩, notNow ρ, g0, x1.lam, ?_⟩
    unfold vRef at h
    cases q : fb (notNow ρ) g0 with
    | bad => rw [q] at h; exact h
    | ok r =>
      rw [q] at h
      intro v H' e2 x2 _
      have y : R F C ρ r.2 σ H' := x1.ext e2 ⟨x2.gl.row, x2.gl.tab, x2.gl.ns⟩
      refine ⟨by show 2 ≤ sizeLine; decide, fun p hp => ?_⟩
      refine h (.ref p) _ ((ext_of eN dm).trans (e2.trans (.new hp))) (y.new hp) ?_
      exact ⟨p, _, rfl, y.nso hp, upd_same, by show 2 ≤ sizeLine; decide, _, _, rfl, rfl, _, _, rfl, rfl, rfl⟩
    | exc ce de ge =>
      rw [q] at h
      simp only at h
      split at h
      · rename_i hce
        split at h
        · rename_i tag ht
          intro A dx v H' hA e2 gl2 hn hx w σ' hσ
          refine clauses_take hB ea hce (by rw [xf.mg]; exact hA) hσ hx (fun p hp => ?_) hl ht
          have y : R F C ρ ge σ H' := x1.ext e2 ⟨gl2.row, gl2.tab, gl2.ns⟩
          refine h (.ref p) _ ((ext_of eN dm).trans (e2.trans (.new hp))) (y.new hp) ?_
          exact ⟨p, _, rfl, y.nso hp, upd_same, by show 2 ≤ sizeLine; decide, _, _, rfl, rfl, _, _, rfl, w.agr (agr_new hp), rfl⟩
        · exact h.elim
      · exact h.elim
  refine wpAny_call (codeAny_mono rc fun r s2 hq => ?_)
  cases r with
  | error e => exact (show False from hq).elim
  | ok fl =>
    cases fl with
    | ret u => exact I1.after hq
    | next => exact False.elim hq
    | brk => exact False.elim hq
    | cont => exact False.elim hq
end
end RP
end L2
set_option Elab.async false
set_option linter.all false
set_option maxRecDepth 100000
/-! R21: objects of own classes are made. -/
namespace L2
namespace RP
open PySem PySem.Spec PyProof.Rows

/-- the fields that are written last: their values, whatever else goes on -/
inductive Flds (ρ : En) : List (Str × SE) → List (Str × D) → Prop
  | nil : Flds ρ [] []
  | cons {f : Str} {e : SE} {d : D} {fl : List (Str × SE)} {fs : List (Str × D)} (h : ∀ g, e ρ g = .ok (d, g)) (r : Flds ρ fl fs) : Flds ρ ((f, e) :: fl) ((f, d) :: fs)
theorem Flds.uniq {ρ : En} : ∀ {fl : List (Str × SE)} {fs fs' : List (Str × D)}, Flds ρ fl fs → Flds ρ fl fs' → fs = fs'
  | _, _, _, .nil, .nil => rfl
  | _, _, _, .cons h r, .cons h' r' => by
    have e := (h ⟨0, 0, 0, none, []⟩).symm.trans (h' _)
    cases e
    rw [Flds.uniq r r']
def endsMe (ρ1 : En) : Prop := ρ1[0]? = some (Slot.frz .row)
/-- what a class makes of its arguments -/
def Made (nN : Nat) (s : SS) (fl : List (Str × SE)) (ds : List D) (g : G) (fs : List (Str × D)) : Prop :=
  ∀ M, ∃ ρ1, s (Slot.frz .row :: startD (nN - 1) ds) { g with me := some M } = .ok (.nx, ρ1, { g with me := some M }) ∧ endsMe ρ1 ∧ Flds ρ1 fl fs
def NotMade (nN : Nat) (s : SS) (ds : List D) (g : G) (q : Str × D) : Prop := ∀ M, s (Slot.frz .row :: startD (nN - 1) ds) { g with me := some M } = .exc q.1 q.2 { g with me := some M }
open Classical in
noncomputable def mkF (c : Str) (nN : Nat) (s : SS) (fl : List (Str × SE)) : FS := fun ds g =>
  if h : ∃ fs, Made nN s fl ds g fs then .ok (.ins c h.choose, g)
  else if h : ∃ q, NotMade nN s ds g q then .exc h.choose.1 h.choose.2 g else .bad
theorem mkF_ok {c : Str} {nN : Nat} {s : SS} {fl : List (Str × SE)} {ds : List D} {g : G} {fs : List (Str × D)} (h : Made nN s fl ds g fs) : mkF c nN s fl ds g = .ok (.ins c fs, g) := by
  have hx : ∃ fs, Made nN s fl ds g fs := ⟨fs, h⟩
  unfold mkF
  rw [dif_pos hx]
  obtain ⟨ρ1, e1, _, f1⟩ := hx.choose_spec (0, 0, [])
  obtain ⟨ρ2, e2, _, f2⟩ := h (0, 0, [])
  rw [e1] at e2
  cases e2
  rw [f1.uniq f2]
theorem mkF_exc {c : Str} {nN : Nat} {s : SS} {fl : List (Str × SE)} {ds : List D} {g : G} {q : Str × D} (h : NotMade nN s ds g q) : mkF c nN s fl ds g = .exc q.1 q.2 g := by
  have hn : ¬ ∃ fs, Made nN s fl ds g fs := fun ⟨fs, k⟩ => by
    obtain ⟨ρ1, e1, _⟩ := k (0, 0, [])
    rw [h] at e1
    cases e1
  have hx : ∃ q, NotMade nN s ds g q := ⟨q, h⟩
  unfold mkF
  rw [dif_neg hn, dif_pos hx]
  have e := (hx.choose_spec (0, 0, [])).symm.trans (h _)
  obtain ⟨a, b⟩ := q
  have : hx.choose = (a, b) := by
    have e1 : hx.choose.1 = a := by injection e
    have e2 : hx.choose.2 = b := by injection e
    rw [← e1, ← e2]
  rw [this]
/-- the promise of an __init__ -/
def SpI (K : PySem.W.Frag) (mg : Str → Option Value) (T : List (Addr × Str)) (n nN : Nat) (s : SS) (fl : List (Str × SE)) : Sp := fun vs H Q E => ∃ (F : Fx) (S : Addr → Prop) (ds : List D) (g : G) (A dx : Addr) (ws : List V), F.K = K ∧ F.mg = mg ∧ F.T = T ∧ F.E = E ∧ vs = .ref F.r :: ws ∧ vs.length = n ∧
  S F.r ∧ (∀ a, S a → H a ≠ none) ∧ SqL F.K H F.sc (F.ns.map V.int) ∧ F.scOk ∧ GAt F g H ∧ g.me = some (A, dx, []) ∧ F.rps H S ds ws ∧
  Cls F.K A ∧ (∀ q ∈ fl, NoAttr F.K A q.1) ∧ match s (Slot.frz .row :: startD (nN - 1) ds) g with
  | .ok (.nx, ρ1, g1) => endsMe ρ1 ∧ g1 = g ∧ ∃ fs, Flds ρ1 fl fs ∧ ∀ H' ws, Ext F.r H H' → H' F.r = some (.ins A dx ws) → RepF F.mg H' S F.r fs ws → LamX.Tabs F.T H' → Q .non H'
  | .exc c d g1 => ExcEnd F ⟨S, H⟩ c d g1
  | _ => False
/-- how a thing is being made -/
def TSI (F : Fx) (s : SS) (fl : List (Str × SE)) : TS := fun D σ H => ∃ C ρ g, R F C ρ g σ H ∧ match s ρ g with
  | .ok (.nx, ρ1, g1) => endsMe ρ1 ∧ ∃ A dx fs, g1.me = some (A, dx, []) ∧ Cls F.K A ∧ (∀ q ∈ fl, NoAttr F.K A q.1) ∧ Flds ρ1 fl fs ∧
      ∀ σ' H' ws, Ext F.r C.H0 H' → H' F.r = some (.ins A dx ws) → RepF F.mg H' C.S F.r fs ws → LamX.Tabs F.T H' → D.nx σ' H'
  | .exc c d g1 => ExcEnd F C c d g1
  | _ => False
/-- the tail: ws stand already -/
def TSJ (F : Fx) (fl : List (Str × SE)) : TS := fun D σ H => ∃ C ρ g A dx fs ws fs', R F C ρ g σ H ∧ g.me = some (A, dx, ws) ∧ RepF F.mg H (SO C ρ σ) F.r fs ws ∧ ws.length + fl.length < 900 ∧ endsMe ρ ∧ Cls F.K A ∧ (∀ q ∈ fl, NoAttr F.K A q.1 ∧ q.1 ∉ fs.map (·.1)) ∧ (fl.map (·.1)).Nodup ∧ Flds ρ fl fs' ∧
  ∀ σ' H' ws, Ext F.r C.H0 H' → H' F.r = some (.ins A dx ws) → RepF F.mg H' C.S F.r (fs ++ fs') ws → LamX.Tabs F.T H' → D.nx σ' H'
theorem repF_names {mg H S r} : ∀ {fs : List (Str × D)} {ws : List (Str × V)}, RepF mg H S r fs ws → ws.map (·.1) = fs.map (·.1)
  | [], _, e => by rw [show _ = [] from e]; rfl
  | (k, d) :: fs, _, ⟨v, ws, e, _, b⟩ => by rw [e]; simp [repF_names b]
theorem repF_app {mg H S r} : ∀ {fs gs : List (Str × D)} {ws us : List (Str × V)}, RepF mg H S r fs ws → RepF mg H S r gs us → RepF mg H S r (fs ++ gs) (ws ++ us)
  | [], _, _, _, e, q => by rw [show _ = [] from e]; exact q
  | (k, d) :: fs, _, _, _, ⟨v, ws, e, a, b⟩, q => by subst e; exact ⟨v, _, rfl, a, repF_app b q⟩
theorem putF_new {f : Str} {v : V} : ∀ {ws : List (Str × V)}, f ∉ ws.map (·.1) → putF f v ws = ws ++ [(f, v)]
  | [], _ => rfl
  | (g, x) :: ws, h => by
    have h1 : g ≠ f := fun e => h (by simp [e])
    have h2 : f ∉ ws.map (·.1) := fun z => h (List.mem_cons_of_mem _ z)
    show (if g = f then (g, v) :: ws else (g, x) :: putF f v ws) = _
    rw [if_neg h1, putF_new h2]
    rfl
theorem ext_me {r : Addr} {H : Hp} {o : HO} : Ext r H (L2.upd H r o) := ⟨fun b u h n _ => by rw [upd_ne n]; exact h, fun b h => by
  by_cases e : b = r
  · rw [e, upd_same]; simp
  · rw [upd_ne e]; exact h⟩
section
variable {X : Cx} {F : Fx} {e : Expr} {fa : SE} {st : Stmt} {rest : List Stmt} {s t : SS} {fl : List (Str × SE)} {pos p p2 : Pos}
theorem si_cons (h1 : PS X st (TS1 F s)) (h2 : PSs X rest (TSI F t fl)) : PSs X (st :: rest) (TSI F (sSeq s t) fl) := (pss_cons h1 h2).imp fun D σ H ⟨C, ρ, g, x, h⟩ => by
  refine ⟨C, ρ, g, x, ?_⟩
  unfold sSeq at h
  cases q : s ρ g with
  | bad => rw [q] at h; exact h
  | exc c d g => rw [q] at h; exact h
  | ok r =>
    obtain ⟨fl, ρ1, g1⟩ := r
    rw [q] at h
    cases fl with
    | nx =>
      dsimp only at h
      exact fun σ' H' x' => ⟨C, ρ1, g1, x', h⟩
    | brk => exact h.elim
    | cont => exact h.elim
    | ret d => exact h.elim
theorem si_tail (h : PSs X rest (TSJ F fl)) (hn : (fl.map (·.1)).Nodup) (hl : fl.length < 900) : PSs X rest (TSI F sNil fl) := h.imp fun D σ H ⟨C, ρ, g, x, h⟩ => by
  obtain ⟨h1, A, dx, fs, h2, h3, h4, h5, h6⟩ := h
  exact ⟨C, ρ, g, A, dx, [], [], fs, x, h2, rfl, by simpa using hl, h1, h3, fun q hq => ⟨h4 q hq, by simp⟩, hn, h5, by simpa using h6⟩
theorem sj_nil : PSs X [] (TSJ F []) := pss_nil.imp fun D σ H ⟨C, ρ, g, A, dx, fs, ws, fs', x, h1, h2, h3, h4, h5, h6, h7, h8, h9⟩ => by
  cases h8
  have e : g.obj F.sc = .ins A dx ws := by unfold G.obj; rw [h1]
  refine h9 σ H ws x.base (by rw [x.gl.row, e]) ?_ x.gl.tab
  rw [List.append_nil]
  exact RepF.sub (fun a z => .inl z) h2
theorem sj_cons {f self : Str} {p1 p2 : Pos} (xf : XF X F) (he : PE X e (T F fa)) (hr : PSs X rest (TSJ F fl)) (hN : X.N[0]? = some self) (hv : Vis X.env.scope self) (hd : (self == ("__debug__" : Str)) = false := by decide) (hc : (self == ("__classdict__" : Str)) = false := by decide)
    (hs : swapsWith e (some (.Attribute (.Name self p1) f p2)) pos.line X.env = pure false := by rfl) : PSs X (.Assign [.Attribute (.Name self p1) f p2] e pos :: rest) (TSJ F ((f, fa) :: fl)) :=
  (pss_cons (ps_fld (pe_var hN hv hd hc) he hs) hr).imp fun D σ H ⟨C, ρ, g, A, dx, fs, ws, fs', x, h1, h2, h3, h4, h5, h6, h7, h8, h9⟩ => by
    cases h8 with
    | @cons _ _ d _ fs1 hp r =>
      obtain ⟨v0, s0, w0⟩ := x.frz 0 _ h4
      have w0 : v0 = .ref F.r := w0
      subst w0
      refine ⟨C, ρ, g, x, ?_⟩
      rw [hp g]
      intro v H1 e1 x1 w1
      have eo : g.obj F.sc = .ins A dx ws := by unfold G.obj; rw [h1]
      have hme : H1 F.r = some (.ins A dx ws) := by rw [x1.gl.row, eo]
      have hno : f ∉ ws.map (·.1) := by rw [repF_names h2]; exact (h6 _ List.mem_cons_self).2
      refine ⟨.ref F.r, s0, F.r, A, dx, ws, rfl, hme, by rw [xf.K]; exact h5, by rw [xf.K]; exact (h6 _ List.mem_cons_self).1, by simp at h3; omega, ?_⟩
      have g2 : GAt F { g with me := some (A, dx, ws ++ [(f, v)]) } (L2.upd H1 F.r (.ins A dx (putF f v ws))) :=
        ⟨by rw [upd_same, putF_new hno]; rfl, tabs_upd x1.gl.tab (.inr ⟨_, hme, nt_ins, fun _ z => by cases z⟩), x1.gl.ns⟩
      have ag : Agr (SO C ρ σ) H1 (L2.upd H1 F.r (.ins A dx (putF f v ws))) := ext_me.agr x1.so
      obtain ⟨n1, n2⟩ := List.nodup_cons.mp h7
      refine ⟨C, ρ, _, A, dx, fs ++ [(f, d)], ws ++ [(f, v)], fs1, x1.ext ext_me g2, rfl, repF_app ((RepF.agr (e1.agr x.so) h2).agr ag) ⟨v, [], rfl, w1.agr ag, rfl⟩, by simp at h3 ⊢; omega, h4, h5, fun q hq => ⟨(h6 q (List.mem_cons_of_mem _ hq)).1, fun z => ?_⟩, n2, r, by simpa using h9⟩
      rw [List.map_append, List.mem_append] at z
      rcases z with z | z
      · exact (h6 q (List.mem_cons_of_mem _ hq)).2 z
      · have z : q.1 = f := by simpa using z
        exact n1 (by show f ∈ _; rw [← z]; exact List.mem_map_of_mem hq)
end
end RP
end L2
set_option Elab.async false
set_option linter.all false
set_option maxRecDepth 100000
/-! R22: an __init__ from its body; C(..). -/
namespace L2
namespace RP
open PySem PySem.Spec PyProof.Rows

mutual
/-- the draw row is no part of it -/
def D.noRow : D → Bool
  | .tup xs => D.noRows xs
  | .lst xs => D.noRows xs
  | .dk kvs => D.noRowK kvs
  | .dt kvs => D.noRowT kvs
  | .ins _ fs => D.noRowF fs
  | .row => false
  | _ => true
def D.noRows : List D → Bool
  | [] => true
  | d :: ds => d.noRow && D.noRows ds
def D.noRowK : List (Key × D) → Bool
  | [] => true
  | (_, d) :: ds => d.noRow && D.noRowK ds
def D.noRowT : List (List Key × D) → Bool
  | [] => true
  | (_, d) :: ds => d.noRow && D.noRowT ds
def D.noRowF : List (Str × D) → Bool
  | [] => true
  | (_, d) :: ds => d.noRow && D.noRowF ds
end
section
variable {mg : Str → Option Value} {H : Hp} {S : Addr → Prop} {r r' : Addr}
mutual
theorem Rep.rr : ∀ {d : D} {v : V}, d.noRow = true → Rep mg H S r d v → Rep mg H S r' d v
  | .non, _, _, e => e
  | .bl _, _, _, e => e
  | .int _, _, _, e => e
  | .str _, _, _, e => e
  | .tup _, _, h, ⟨a, vs, e, n, q, z, k⟩ => ⟨a, vs, e, n, q, z, Reps.rr h k⟩
  | .lst _, _, h, ⟨a, vs, e, n, q, z, k⟩ => ⟨a, vs, e, n, q, z, Reps.rr h k⟩
  | .dk _, _, h, ⟨a, vs, e, n, q, z, k⟩ => ⟨a, vs, e, n, q, z, RepK.rr h k⟩
  | .dt _, _, h, ⟨a, vs, e, n, q, z, k⟩ => ⟨a, vs, e, n, q, z, RepT.rr h k⟩
  | .ins _ _, _, h, ⟨a, C, dx, ws, e, n, m, q, k⟩ => ⟨a, C, dx, ws, e, n, m, q, RepF.rr h k⟩
  | .fn _, _, _, e => e
  | .row, _, h, _ => by cases h
theorem Reps.rr : ∀ {ds : List D} {vs : List V}, D.noRows ds = true → Reps mg H S r ds vs → Reps mg H S r' ds vs
  | [], _, _, e => e
  | _ :: _, _, h, ⟨v, ws, e, a, b⟩ => ⟨v, ws, e, Rep.rr (Bool.and_eq_true_iff.mp h).1 a, Reps.rr (Bool.and_eq_true_iff.mp h).2 b⟩
theorem RepK.rr : ∀ {ds : List (Key × D)} {vs : List (Key × V)}, D.noRowK ds = true → RepK mg H S r ds vs → RepK mg H S r' ds vs
  | [], _, _, e => e
  | (_, _) :: _, _, h, ⟨v, ws, e, a, b⟩ => ⟨v, ws, e, Rep.rr (Bool.and_eq_true_iff.mp h).1 a, RepK.rr (Bool.and_eq_true_iff.mp h).2 b⟩
theorem RepT.rr : ∀ {ds : List (List Key × D)} {vs : List (List Key × V)}, D.noRowT ds = true → RepT mg H S r ds vs → RepT mg H S r' ds vs
  | [], _, _, e => e
  | (_, _) :: _, _, h, ⟨v, ws, e, a, b⟩ => ⟨v, ws, e, Rep.rr (Bool.and_eq_true_iff.mp h).1 a, RepT.rr (Bool.and_eq_true_iff.mp h).2 b⟩
theorem RepF.rr : ∀ {ds : List (Str × D)} {vs : List (Str × V)}, D.noRowF ds = true → RepF mg H S r ds vs → RepF mg H S r' ds vs
  | [], _, _, e => e
  | (_, _) :: _, _, h, ⟨v, ws, e, a, b⟩ => ⟨v, ws, e, Rep.rr (Bool.and_eq_true_iff.mp h).1 a, RepF.rr (Bool.and_eq_true_iff.mp h).2 b⟩
end
end
section
variable {P : Program} {w : World} {K : PySem.W.Frag} {mg : Str → Option Value} {base : Heap} {T : List (Addr × Str)}
theorem startD_cons {nN : Nat} {d : D} {ds : List D} : startD nN (d :: ds) = Slot.frz d :: startD (nN - 1) ds := by
  unfold startD
  have e : nN - (d :: ds).length = nN - 1 - ds.length := by simp; omega
  rw [e]
  rfl
theorem init_ok {x qual : Str} {params : Arguments} {body : List Stmt} {sc : Scope} {dvs : List V} {kws : List (Str × V)} {f : Addr} {fd : FuncData} {N ps : List Str} {k n nN : Nat} {sem : SS} {fl : List (Str × SE)} (Fd : FunD K x qual params body sc dvs kws f fd) (Sc : FnScope N ps sc) (b : Bi mg) (hn : ps.length = n) (hN : N.length = nN) (hle : n ≤ nN)
    (hbody : ∀ (F : Fx) (cdv : Value) (A : Around) (outer : List Env) (s : Shared) (H : Hp), F.K = K → F.mg = mg → F.T = T → Room k (A.deeper (envOfC qual sc s.heap.objs.size f cdv)) →
      XF (cxD P w K mg base N qual sc f cdv A outer s H F.E) F → PSs (cxD P w K mg base N qual sc f cdv A outer s H F.E) body (TSI F sem fl)) :
    FnOk P w K mg base (L2.CX P w) (k + 1) f fd ps (SpI K mg T n nN sem fl) :=
  Fd.ok Sc (fun vs H Q E h => by
    obtain ⟨F, S, ds, g, A, dx, ws, e1, e2, e3, e4, e5, hl, _⟩ := h
    exact hl.trans hn.symm) fun cdv A outer s H vs Q E hr h => by
    obtain ⟨F, S, ds, g, A', dx, ws, e1, e2, e3, e4, e5, hl, sr, sd, sq, ne, gl, hme, w1, hc, ha, h⟩ := h
    subst e4
    refine ⟨_, hbody F cdv A outer s H e1 e2 e3 hr (xf_cx b Sc.nd hr e1 e2), ⟨S, H⟩, Slot.frz .row :: startD (nN - 1) ds, g, ?_, ?_⟩
    · rw [← startD_cons]
      exact r_start hN (by omega) sr sd sq ne gl ⟨_, ws, e5, rfl, w1⟩
    · cases q : sem (Slot.frz .row :: startD (nN - 1) ds) g with
      | bad => rw [q] at h; exact h
      | exc c d g1 => rw [q] at h; exact h
      | ok r =>
        obtain ⟨fl', ρ1, g1⟩ := r
        rw [q] at h
        cases fl' with
        | nx =>
          obtain ⟨h1, h2, fs, h3, h4⟩ := h
          subst h2
          exact ⟨h1, A', dx, fs, hme, hc, ha, h3, fun σ' H' ws' e q r t => h4 H' ws' e q r t⟩
        | brk => exact h
        | cont => exact h
        | ret d => exact h
/-- a class that is made -/
structure Mak (P : Program) (w : World) (K : PySem.W.Frag) (mg : Str → Option Value) (base : Heap) (T : List (Addr × Str)) (k : Nat) (c : Str) (n nN : Nat) (s : SS) (fl : List (Str × SE)) : Prop where
  ex : ∃ (A fI : Addr) (fd : FuncData) (ps : List Str), mg c = some (.ref A) ∧ Mk K A fI ∧ FnOk P w K mg base (L2.CX P w) k fI fd ps (SpI K mg T n nN s fl) ∧ Binds K fd ps [] ∧ Cls K A ∧ ∀ q ∈ fl, NoAttr K A q.1
end
def vMake (fs : FS) (fr : SEs) : SE := fun ρ g => (fr ρ g).bind fun p => if D.noRows p.1 then (match fs p.1 p.2 with
  | .ok (d, g1) => if d.noRow then .ok (d, g1) else .bad
  | .exc c d g1 => if d.noRow then .exc c d g1 else .bad
  | .bad => .bad) else .bad
section
variable {X : Cx} {F : Fx} {a e : Expr} {es : List Expr} {fr : SEs} {pos p : Pos}
theorem ext_made {r x dx : Addr} {H1 Hx H' : Hp} {o o' : HO} (hx : H1 x = none) (hd : H1 dx = none) (eq : Hx = L2.upd (L2.upd H1 dx o) x o') (e : Ext x Hx H') : Ext r H1 H' ∧ ∀ b u, H1 b = some u → notTbl u → H' b = some u := by
  have k : ∀ b u, H1 b = some u → Hx b = some u ∧ b ≠ x := fun b u h => by
    have n1 := ne_of_none h hx
    have n2 := ne_of_none h hd
    exact ⟨by rw [eq, upd_ne n1, upd_ne n2]; exact h, n1⟩
  have keep : ∀ b u, H1 b = some u → notTbl u → H' b = some u := fun b u h n => e.keep b u (k b u h).1 (k b u h).2 n
  refine ⟨⟨fun b u h _ n => keep b u h n, fun b h => e.dom b ?_⟩, keep⟩
  cases q : H1 b with
  | none => exact absurd q h
  | some u => rw [(k b u q).1]; simp
theorem ve_make {k j n nN : Nat} {c : Str} {s : SS} {fl : List (Str × SE)} (xf : XF X F) (m : Mak X.prog X.w X.K X.mg X.base F.T k c (n + 1) nN s fl) (hr : Room j X.A) (hk : k + 1 ≤ j) (ha : PA X (a :: es) (TAs F fr)) (hl : ∀ ρ g ds g1, fr ρ g = .ok (ds, g1) → ds.length = n)
    (hg : Gl X c := by rfl) (hdb : (c == ("__debug__" : Str)) = false := by decide) (he : starEach (a :: es) X.env = (false, eval a X.env) :: starEach es X.env := by rfl) (hpl : (backTo pos (starEach es X.env)).any (·.1) = false := by rfl) :
    PE X (.Call (.Name c p) (a :: es) [] pos) (TO F (vMake (mkF c nN s fl) fr)) := by
  obtain ⟨A, fI, fd, ps, hm, M, Fn, b, hc, hno⟩ := m.ex
  refine (pe_make M Fn (hr.mono hk) hg hm b .nil (passes_call xf.tk fun _ _ _ _ z => z) ha hdb he hpl).imp fun σ H Q ⟨C, ρ, g, x, h⟩ => ?_
  refine ⟨C, ρ, g, x, ?_⟩
  unfold vMake at h
  cases q : fr ρ g with
  | bad => rw [q] at h; exact h
  | exc c d g => rw [q] at h; exact h
  | ok pr =>
    obtain ⟨ds, g1⟩ := pr
    rw [q] at h
    simp only [Res.bind_ok] at h
    intro vs H1 e1 x1 w1 y dx hy hd hne
    rw [List.append_nil, xf.K, xf.mg]
    have hdy : (L2.upd H1 dx (.own y)) y = none := by rw [upd_ne (fun z => hne z.symm)]; exact hy
    have eX : Ext F.r H1 (L2.upd (L2.upd H1 dx (.own y)) y (.ins A dx [])) := (Ext.new hd).trans (.new hdy)
    have x2 : R F C ρ g1 σ (L2.upd (L2.upd H1 dx (.own y)) y (.ins A dx [])) := (x1.new hd).new hdy
    have ry : F.r ≠ y := ne_of_none x1.gl.row hy
    have hnr : D.noRows ds = true := by
      cases z : D.noRows ds with
      | true => rfl
      | false => rw [z] at h; exact h.elim
    rw [hnr] at h
    simp only [if_true] at h
    have scOk : ({ F with r := y } : Fx).scOk := (x1.sc_ne hy).elim (fun z => .inl fun e => z e.symm) .inr
    have gl2 : GAt { F with r := y } { g1 with me := some (A, dx, []) } (L2.upd (L2.upd H1 dx (.own y)) y (.ins A dx [])) := ⟨by rw [upd_same]; rfl, x2.gl.tab, x1.gl.ns⟩
    have backG : ∀ {H' : Hp}, Ext y (L2.upd (L2.upd H1 dx (.own y)) y (.ins A dx [])) H' → LamX.Tabs F.T H' → GAt F g1 H' := fun e t => ⟨(ext_made (r := F.r) hy hd rfl e).2 _ _ x1.gl.row G.obj_nt, t, x1.gl.ns⟩
    have sup : ∀ b, (SO C ρ σ b ∨ b = y) → SO C ρ σ b ∨ H1 b = none := fun b z => z.elim .inl fun z => .inr (z ▸ hy)
    have w2 : Reps F.mg (L2.upd (L2.upd H1 dx (.own y)) y (.ins A dx [])) (fun b => SO C ρ σ b ∨ b = y) y ds vs := Reps.rr hnr (Reps.agr (eX.agr (.inl x1.so)) (Reps.sup sup w1))
    refine ⟨{ F with r := y }, fun b => SO C ρ σ b ∨ b = y, ds, { g1 with me := some (A, dx, []) }, A, dx, vs, rfl, rfl, rfl, rfl, rfl, by simp [← w1.length, hl _ _ _ _ q], .inr rfl, fun b z => ?_, x2.sqH, scOk, gl2, rfl, w2, by rw [← xf.K]; exact hc, fun q hq => by rw [← xf.K]; exact hno q hq, ?_⟩
    · rcases z with z | z
      · exact x2.there z
      · rw [z, upd_same]; simp
    · by_cases hM : ∃ fs, Made nN s fl ds g1 fs
      · obtain ⟨fs, hM⟩ := hM
        rw [mkF_ok hM] at h
        dsimp only at h
        obtain ⟨ρ1, r1, r2, r3⟩ := hM (A, dx, [])
        rw [r1]
        refine ⟨r2, rfl, fs, r3, fun H' ws e hme rep t => ⟨rfl, ?_⟩⟩
        obtain ⟨e3, _⟩ := ext_made (r := F.r) hy hd rfl e
        have hfr : D.noRow (.ins c fs) = true := by
          cases z : D.noRow (.ins c fs) with
          | true => rfl
          | false => rw [z] at h; exact h.elim
        rw [hfr] at h
        refine h (.ref y) H' (e1.trans e3) (x1.ext e3 (backG e t)) ⟨y, rfl, e1.free hy, A, dx, ws, by rw [← xf.mg]; exact hm, hme, RepF.rr hfr rep⟩
      · by_cases hN : ∃ q, NotMade nN s ds g1 q
        · obtain ⟨qe, hN⟩ := hN
          rw [mkF_exc hN] at h
          dsimp only at h
          rw [hN (A, dx, [])]
          have hfr : qe.2.noRow = true := by
            cases z : qe.2.noRow with
            | true => rfl
            | false => simp only [z] at h; exact h.elim
          simp only [hfr, if_true] at h
          intro A' z v H' hA e gl' hz hxd rep
          obtain ⟨e3, _⟩ := ext_made (r := F.r) hy hd rfl e
          exact h A' z v H' hA (x1.base.trans e3) (backG e gl'.tab) (x1.base.free (eX.free hz)) hxd (Rep.rr hfr (rep.sub fun b z => .inl (.inl z)))
        · have : mkF c nN s fl ds g1 = .bad := by
            unfold mkF
            rw [dif_neg hM, dif_neg hN]
          rw [this] at h
          exact h.elim
end
end RP
end L2
set_option Elab.async false
set_option linter.all false
set_option maxRecDepth 100000
/-! R23: own errors. -/
namespace L2
namespace RP
open PySem PySem.Spec PyProof.Rows

def spErr (C : Addr) : Sp := fun vs H Q _ => ∃ (a : Addr) (v : V), vs = [.ref a, v] ∧ H a = some (exo a C none) ∧ ∀ d, H d = none → d ≠ a → Q .non (upd (upd H d (exd d [(("value" : Str), v)])) a (exo a C (some d)))
section
variable {P : Program} {w : World} {K : PySem.W.Frag} {mg : Str → Option Value} {base : Heap}
theorem err_ok {qual : Str} {params : Arguments} {body : List Stmt} {sc : Scope} {dvs : List V} {f C : Addr} {fd : FuncData} {k : Nat} {p1 p2 p3 p4 : Pos} (Fd : FunD K "__init__" qual params body sc dvs [] f fd) (Sc : FnScope ["self", "value"] ["self", "value"] sc)
    (hb : body = [.Assign [.Attribute (.Name "self" p1) "value" p2] (.Name "value" p3) p4]) (v0 : Vis sc "self") (v1 : Vis sc "value") (T : OexC K C) (hno : PySem.W.findIn K (.ref C) "value" = some none) : FnOk P w K mg base (L2.CX P w) (k + 1) f fd ["self", "value"] (spErr C) :=
  Fd.ok Sc (fun vs H Q E h => by
    obtain ⟨a, v, rfl, _⟩ := h
    rfl) fun cdv A outer s H vs Q E hr h => by
    obtain ⟨a, v, rfl, ha, hq⟩ := h
    subst hb
    refine ⟨_, pss_one (ps_ost (pe_var (i := 0) rfl v0) (pe_var (i := 1) rfl v1)), ?_⟩
    refine ⟨v, rfl, .ref a, rfl, a, C, rfl, T, hno, ?_⟩
    exact .inl ⟨ha, fun d hd hne => hq d hd hne⟩
/-- an own error class of the module -/
theorem errC {X : Cx} {F : Fx} {c : Str} {C fI : Addr} {fd : FuncData} {k : Nat} (hm : F.mg c = some (.ref C)) (T : OexC F.K C) (iC : PySem.W.findIn F.K (.ref C) "__init__" = some (some (.ref fI))) (tI : PySem.W.typeIn F.K (.ref fI) = some (.type "function"))
    (b : Binds F.K fd ["self", "value"] []) (Fn : FnOk X.prog X.w F.K F.mg X.base (L2.CX X.prog X.w) k fI fd ["self", "value"] (spErr C)) : ErrC X F k c := ⟨C, fI, fd, _, hm, T, iC, tI, b, Fn⟩
end
/-! ### facts as Bools -/
def oexB (K : PySem.W.Frag) (C fI : Addr) : Bool :=
  (match K.lookup C with
  | some ⟨.type "type", _, .cls cd, sl⟩ => (match cd.mro, sl.toList with
    | .ref C' :: bm, [_, _, _, _, some (.builtin n), _] => C' == C && n == "ValueError.__new__" && !cd.hasDel && cd.hasDict && PySem.HandSPX.refsVE bm
    | _, _ => false)
  | _ => false) && (He.eqO (PySem.W.findIn K (.ref C) "__setattr__") (some (some (.builtin "object.__setattr__"))) && (decide (PySem.W.subIn K (.ref C) (.type "BaseException") = some true) && (decide (PySem.W.typeIn K (.ref C) = some (.type "type")) && (PySem.W.keepIn K (.ref C) &&
    (He.eqO (PySem.W.findIn K (.ref C) "__init__") (some (some (.ref fI))) && (decide (PySem.W.typeIn K (.ref fI) = some (.type "function")) && (He.eqO (PySem.W.findIn K (.ref C) "value") (some none) && xfB K C)))))))
theorem oexB_ok {K : PySem.W.Frag} {C fI : Addr} (h : oexB K C fI = true) : OexC K C ∧ PySem.W.findIn K (.ref C) "__init__" = some (some (.ref fI)) ∧ PySem.W.typeIn K (.ref fI) = some (.type "function") ∧ PySem.W.findIn K (.ref C) "value" = some none ∧ XfC K C := by
  unfold oexB at h
  obtain ⟨h1, h⟩ := He.ba h
  obtain ⟨h2, h⟩ := He.ba h
  obtain ⟨h3, h⟩ := He.ba h
  obtain ⟨h4, h⟩ := He.ba h
  obtain ⟨h5, h⟩ := He.ba h
  obtain ⟨h6, h⟩ := He.ba h
  obtain ⟨h7, h⟩ := He.ba h
  obtain ⟨h8, h9⟩ := He.ba h
  refine ⟨⟨?_, He.eqO_ok h2, of_decide_eq_true h3, of_decide_eq_true h4, h5⟩, He.eqO_ok h6, of_decide_eq_true h7, He.eqO_ok h8, xfB_ok h9⟩
  split at h1
  · rename_i dd cd sl ho
    split at h1
    · rename_i C' bm k0 k1 k2 k3 n k5 hm hs
      simp only [Bool.and_eq_true, beq_iff_eq, Bool.not_eq_true'] at h1
      obtain ⟨⟨⟨⟨rfl, rfl⟩, hdel⟩, hdct⟩, ht⟩ := h1
      obtain ⟨nm, bs, mro, ns, qn, hd, sn, sub, ab, col, del⟩ := cd
      dsimp only at hm hdel hdct
      subst hm hdel hdct
      have hsl : sl = #[k0, k1, k2, k3, some (.builtin "ValueError.__new__"), k5] := by
        obtain ⟨l⟩ := sl
        simp only at hs
        rw [hs]
      subst hsl
      exact ⟨nm, qn, ns, bs, bm, sn, sub, ab, col, dd, k0, k1, k2, k3, k5, ho, ht⟩
    · cases h1
  · cases h1
end RP
end L2
set_option Elab.async false
set_option linter.all false
set_option maxRecDepth 100000
set_option maxHeartbeats 1000000
/-! R24: defs that ask for repr (no guard stands around them); the law's own end. -/
namespace L2
namespace RP
open PySem PySem.Spec PyProof.Rows LamX

/-- a def's promise where no guard of repr stands around -/
structure FnG (P : Program) (w : World) (K : PySem.W.Frag) (mg : Str → Option Value) (base : Heap) (k : Nat) (f : Addr) (fd : FuncData) (ps : List Str) (sp : Sp) : Prop where
  len : ∀ vs H Q E, sp vs H Q E → vs.length = ps.length
  run : ∀ (A : Around) (outer : List Env) (s : Shared) (H : Hp) (args : Args) (us : List Value) (vs : List V) (Q : VK) (E : XK), A.guards = some [] → Room k A → Env0 P w K mg base A outer s H → BindsTo s fd args (ps.zip us) → Vals vs us → sp vs H Q E →
    codeAny (model P w) A (.call (.ref f) args) (CR (L2.CX P w) outer P w H s Q E) s
structure CalG (P : Program) (w : World) (K : PySem.W.Frag) (mg : Str → Option Value) (base : Heap) (T : List (Addr × Str)) (k : Nat) (x : Str) (n : Nat) (fs : FS) : Prop where
  ex : ∃ (f : Addr) (fd : FuncData) (ps : List Str), mg x = some (.ref f) ∧ FnG P w K mg base k f fd ps (SpF K mg T n fs) ∧ PySem.W.keepIn K (.ref f) = true ∧ Binds K fd ps []
section
variable {X : Cx} {F : Fx} {a e : Expr} {es : List Expr} {fr : SEs} {fa : SE} {pos p : Pos}
theorem guards_deeper {A : Around} {env : Env} (h : A.guards = some []) : (A.deeper env).guards = some [] := h
theorem ve_callG {k j n : Nat} {x : Str} {fs : FS} (xf : XF X F) (gd : X.A.guards = some []) (c : CalG X.prog X.w X.K X.mg X.base F.T k x n fs) (hr : Room j X.A) (hk : k ≤ j) (ha : PA X (a :: es) (TAs F fr)) (hl : ∀ ρ g ds g1, fr ρ g = .ok (ds, g1) → ds.length = n)
    (hg : Gl X x := by rfl) (hdb : (x == ("__debug__" : Str)) = false := by decide) (he : starEach (a :: es) X.env = (false, eval a X.env) :: starEach es X.env := by rfl) (hpl : (backTo pos (starEach es X.env)).any (·.1) = false := by rfl) :
    PE X (.Call (.Name x p) (a :: es) [] pos) (T F (vCall fs fr)) := by
  obtain ⟨f, fd, ps, hm, Fn, kp, b⟩ := c.ex
  refine ⟨fun pins s σ H Q I h => ?_⟩
  refine wpAny_Call_Name_kw (ld_glob I hg hm ?_ hdb)
  obtain ⟨C, ρ, g, x0, h⟩ := h
  have ht : TAs F fr σ H (fun vs H1 => SpF X.K X.mg F.T n fs vs H1 Q F.E) := by
    refine ⟨C, ρ, g, x0, ?_⟩
    unfold vCall at h
    cases q : fr ρ g with
    | bad => rw [q] at h; exact h
    | exc c d g => rw [q] at h; exact h
    | ok p =>
      rw [q] at h
      intro vs H1 e1 x1 w1
      rw [xf.K, xf.mg]
      exact spf_of x1 w1 (by rw [← w1.length]; exact hl _ _ _ _ q) (StepE.ext h e1)
  refine PySem.W.callWith_K (h₀ := X.base) I.ok.mod.kin kp (thn (ha.run pos pins s σ H _ I ht) fun us s1 ⟨vs, H1, I1, r, q⟩ => ⟨I1.kIn, ?_⟩) he hpl
  have hlen : (us ++ []).length = ps.length := by rw [List.append_nil, ← r.length]; exact Fn.len _ _ _ _ q
  have bt := b s1 us I1.kIn hlen
  rw [List.append_nil] at bt
  refine wpAny_call (codeAny_mono (Fn.run X.A X.stack s1 H1 ⟨us, []⟩ us vs Q F.E gd (hr.mono hk) I1.env0 bt r q) fun r' s' hq => ?_)
  cases r' with
  | error e => exact passes_call xf.tk (fun _ _ _ _ z => z) pins σ H1 s1 e s' I1 hq
  | ok fl =>
    cases fl with
    | ret u => exact I1.after hq
    | next => exact False.elim hq
    | brk => exact False.elim hq
    | cont => exact False.elim hq
end
section
variable {P : Program} {w : World} {K : PySem.W.Frag} {mg : Str → Option Value} {base : Heap} {T : List (Addr × Str)}
/-- such a def from its body, whatever its promise -/
theorem fng_of {x qual : Str} {params : Arguments} {body : List Stmt} {sc : Scope} {f : Addr} {fd : FuncData} {N ps : List Str} {k : Nat} {sp : Sp} (Fd : FunD K x qual params body sc [] [] f fd) (Sc : FnScope N ps sc) (len : ∀ vs H Q E, sp vs H Q E → vs.length = ps.length)
    (hbody : ∀ (cdv : Value) (A : Around) (outer : List Env) (s : Shared) (H : Hp) (vs : List V) (Q : VK) (E : XK), fd.code = cdv → A.guards = some [] → Room k (A.deeper (envOfC qual sc s.heap.objs.size f cdv)) → sp vs H Q E →
      ∃ t, PSs (cxD P w K mg base N qual sc f cdv A outer s H E) body t ∧ t { nx := fun _ H' => Q .non H', rt := Q } (L2.start N vs) H) : FnG P w K mg base (k + 1) f fd ps sp := by
  obtain ⟨oc, od, dV, kV, doc, pm, an, cdv, ct, osl, efd, lk, hcd, _⟩ := Fd.ex
  subst efd
  exact ⟨len, fun A outer s H args us vs Q E gd hr e0 hb r h => run_ofS lk hcd Sc hr e0 hb r (len _ _ _ _ h) fun hr2 => hbody cdv A outer s H vs Q E rfl gd hr2 h⟩
theorem fng_ok {x qual : Str} {params : Arguments} {body : List Stmt} {sc : Scope} {f : Addr} {fd : FuncData} {N ps : List Str} {k n nN : Nat} {sem : SS} (Fd : FunD K x qual params body sc [] [] f fd) (Sc : FnScope N ps sc) (b : Bi mg) (hn : ps.length = n) (hN : N.length = nN) (hle : n ≤ nN)
    (hbody : ∀ (F : Fx) (cdv : Value) (A : Around) (outer : List Env) (s : Shared) (H : Hp), fd.code = cdv → A.guards = some [] → F.K = K → F.mg = mg → F.T = T → Room k (A.deeper (envOfC qual sc s.heap.objs.size f cdv)) →
      XF (cxD P w K mg base N qual sc f cdv A outer s H F.E) F → PSs (cxD P w K mg base N qual sc f cdv A outer s H F.E) body (TS1 F sem)) :
    FnG P w K mg base (k + 1) f fd ps (SpF K mg T n (runF nN sem)) :=
  fng_of Fd Sc (fun vs H Q E h => (spf_len h).trans hn.symm) fun cdv A outer s H vs Q E hc gd hr h => by
    obtain ⟨F, e1, e2, e3, e4, h2⟩ := spf_start (N := N) hN hle h
    subst e4
    exact ⟨_, hbody F cdv A outer s H hc gd e1 e2 e3 hr (xf_cx b Sc.nd hr e1 e2), h2⟩
end
/-! ### the law's end -/
section
variable {P : Program} {w : World} {K : PySem.W.Frag} {mg mb : Str → Option Value} {k : Nat} {fa a : Addr} {cs : List (Addr × Addr)} {fd : FuncData} {x : Str} {sp : Sp} {s₁ : Shared} {vs : List Value} {ns : List Int}
open Classical in
/-- what is known at the law's call: the tables, the script if it is none of the module's objects -/
noncomputable def atCall (K : PySem.W.Frag) (cs : List (Addr × Addr)) (a : Addr) (o : Obj) (ns : List Int) : Hp := fun b => if b ∈ cs.map (·.2) then some (.tbl #[]) else if b = a ∧ K.lookup a = none then some (.frz o (.lst (ns.map V.int))) else none
theorem law_endG (KX : K.In s₁.heap) (hns : s₁.heap.Ns mainGlobals mg) (hb : s₁.heap.Ns builtinsNs mb) (hbb : ∀ x : Str, x ≠ "__name__" → mb x = bootBuiltins x) (hlim : s₁.heap.NoLimit) (hg : s₁.gens = #[])
    (hT : ∀ p ∈ cs, s₁.heap.get? p.2 = some { cls := .none, data := .fields #[] }) (nT : ∀ p ∈ cs, K.lookup p.2 = none) (CH : ∀ p ∈ cs, PySem.W.CodeHd s₁.heap p.1 p.2)
    (hbm : ∃ (bm : Addr) (ob : Obj), mg "__builtins__" = some (.ref bm) ∧ bm ≠ builtinsNs ∧ s₁.heap.get? bm = some ob ∧ ob.cls = .type "module" ∧ ob.dict = some builtinsNs ∧ ob.data = .plain)
    (ha : s₁.heap.get? a = some { cls := .type "list", data := .seq vs.toArray }) (hi : IntsAre vs ns) (hl : ns.length ≤ sizeLine) (hr : Room k callerA)
    (Fn : ∀ base : Heap, K.In base → base.Ns mainGlobals mg → (∀ p ∈ cs, TabB base mg p.1 p.2) → FnG P w K mg base k fa fd [x] sp) (hbind : ∀ (s : Shared) (u : Value), BindsTo s fd ⟨[u], []⟩ [(x, u)])
    (hsp : ∀ H : Hp, (∀ p ∈ cs, H p.2 = some (.tbl #[])) → SqL K H a (ns.map V.int) → sp [.ref a] H (fun v _ => v = .bl true) fun _ _ _ => False)
    (hCX : ∀ H e s', L2.CX P w [] H s₁ (fun _ _ _ => False) e s' → False) :
    codeAny (model P w) callerA (.call (.ref fa) ⟨[.ref a], []⟩) (fun r s' => r = .ok (.ret (.bool true)) ∧ OldK s₁.heap s'.heap ∧ s'.os = s₁.os ∧ AllBare s'.gens) s₁ := by
  have rv := vals_ints hi
  have lenV := hi.length
  generalize hob : ({ cls := .type "list", data := .seq vs.toArray } : Obj) = ob at ha
  have inT : ∀ p ∈ cs, p.2 ∈ cs.map (·.2) := fun p hp => List.mem_map_of_mem hp
  have isT : ∀ b, b ∈ cs.map (·.2) → s₁.heap.get? b = some { cls := .none, data := .fields #[] } := fun b hb => by
    obtain ⟨p, hp, e⟩ := List.mem_map.mp hb
    rw [← e]; exact hT p hp
  have aT : a ∉ cs.map (·.2) := fun z => by
    have q := isT a z
    rw [ha, ← hob] at q
    cases q
  have tabAt : ∀ b, b ∈ cs.map (·.2) → atCall K cs a ob ns b = some (.tbl #[]) := fun b hb => if_pos hb
  have outside : ∀ b, b ∉ cs.map (·.2) → ¬ (b = a ∧ K.lookup a = none) → atCall K cs a ob ns b = none := fun b h1 h2 => by
    unfold atCall
    rw [if_neg h1, if_neg h2]
  have scriptAt : K.lookup a = none → atCall K cs a ob ns a = some (.frz ob (.lst (ns.map V.int))) := fun q => by
    unfold atCall
    rw [if_neg aT, if_pos ⟨rfl, q⟩]
  have cases3 : ∀ b, b ∈ cs.map (·.2) ∨ (b = a ∧ K.lookup a = none) ∨ atCall K cs a ob ns b = none := fun b => by
    by_cases h1 : b ∈ cs.map (·.2)
    · exact .inl h1
    · by_cases h2 : b = a ∧ K.lookup a = none
      · exact .inr (.inl h2)
      · exact .inr (.inr (outside b h1 h2))
  have scriptOk : ObjOk P w (atCall K cs a ob ns) s₁.heap a (.frz ob (.lst (ns.map V.int))) := ⟨ha, by rw [List.length_map]; exact hl, vs, _, rv, by rw [ha, ← hob]⟩
  have hok : HOk P w (atCall K cs a ob ns) s₁.heap := fun b u e => by
    rcases cases3 b with h | ⟨h, h'⟩ | h
    · rw [tabAt b h] at e; cases e; exact isT b h
    · subst h
      rw [scriptAt h'] at e; cases e; exact scriptOk
    · rw [h] at e; cases e
  have hS : SqL K (atCall K cs a ob ns) a (ns.map V.int) := by
    cases q : K.lookup a with
    | none => exact .inl (.inr ⟨ob, scriptAt q⟩)
    | some o =>
      have e := KX a o q
      rw [ha] at e
      cases e
      subst hob
      exact .inr ⟨_, vs.toArray, _, q, rfl, rfl, rfl, by rw [List.size_toArray, lenV]; exact hl, by simpa using rv⟩
  -- objects of other kinds are not tracked
  have free : ∀ {b : Addr} {o : Obj}, s₁.heap.get? b = some o → (∀ vs n, o.data ≠ .seq vs n) → o.data ≠ .fields #[] → atCall K cs a ob ns b = none := fun {b o} e h1 h2 => by
    rcases cases3 b with h | ⟨h, _⟩ | h
    · rw [isT b h] at e; cases e; exact (h2 rfl).elim
    · subst h
      rw [ha, ← hob] at e; cases e; exact (h1 _ _ rfl).elim
    · exact h
  have toB : ∀ {b : Addr} {o : Obj}, s₁.heap.get? b = some o → atCall K cs a ob ns b = none → (hidT s₁.heap (atCall K cs a ob ns)).get? b = some o := fun e n => hidT_get e n
  have freeD : ∀ {b : Addr} {o : Obj} {es : Array DictEntry} {ep : Nat}, s₁.heap.get? b = some o → o.data = .dict es ep → atCall K cs a ob ns b = none := fun {b o es ep} e d => free e (fun _ _ z => by rw [d] at z; cases z) (fun z => by rw [d] at z; cases z)
  have nsB : ∀ {b : Addr} {m : Str → Option Value}, s₁.heap.Ns b m → (hidT s₁.heap (atCall K cs a ob ns)).Ns b m := fun ⟨o, es, ep, e, d, r⟩ => ⟨o, es, ep, toB e (freeD e d), d, r⟩
  have KB : K.In (hidT s₁.heap (atCall K cs a ob ns)) := fun b o e => toB (KX b o e) (by
    rcases cases3 b with h | ⟨h, h'⟩ | h
    · obtain ⟨p, hp, ep⟩ := List.mem_map.mp h
      rw [← ep, nT p hp] at e; cases e
    · rw [h, h'] at e; cases e
    · exact h)
  have md : L2.Mod K mg (hidT s₁.heap (atCall K cs a ob ns)) := ⟨KB, nsB hns, ⟨mb, nsB hb, hbb⟩, let ⟨mc, h1, h2⟩ := hlim; ⟨mc, nsB h1, h2⟩⟩
  have TB : ∀ p ∈ cs, TabB (hidT s₁.heap (atCall K cs a ob ns)) mg p.1 p.2 := fun p hp => by
    refine ⟨?_, ?_, fun z => ?_⟩
    · obtain ⟨o, us, file, tf, flags, tg, inF, text, tt, e1, r1, r2, r3, r⟩ := CH p hp
      exact ⟨o, us, file, tf, flags, tg, inF, text, tt, toB e1 (free e1 (fun _ _ z => by rw [r2] at z; cases z) (fun z => by rw [r2] at z; cases z; simp at r3)), r1, r2, r3, r⟩
    · obtain ⟨bm, om, b1, b2, b3, b4, b5, b6⟩ := hbm
      refine ⟨bm, om, b1, b2, fun q => ?_, fun q => ?_, toB b3 (free b3 (fun _ _ z => by rw [b6] at z; cases z) (fun z => by rw [b6] at z; cases z)), b4, b5, b6⟩
      · obtain ⟨o, es, ep, e, hd, _⟩ := hns
        rw [q, e] at b3
        cases b3
        rw [hd] at b6; cases b6
      · rw [q, hT p hp] at b3
        cases b3
        cases b6
    · obtain ⟨o, es, ep, e, hd, _⟩ := hns
      rw [z, hT p hp] at e
      cases e
      cases hd
  have e0 : Env0 P w K mg (hidT s₁.heap (atCall K cs a ob ns)) callerA [] s₁ (atCall K cs a ob ns) := ⟨rfl, md, fun b o e => of_hidT e, Nat.le_of_eq (hidT_size _ _), trivial, fun b hb => absurd (show b ∈ ([] : List Addr) from hb) (by simp), hok, .of_eq hg⟩
  refine codeAny_mono ((Fn _ KB (nsB hns) TB).run callerA [] s₁ _ ⟨[.ref a], []⟩ [.ref a] [.ref a] _ _ rfl hr e0 (hbind s₁ (.ref a)) (.cons rfl .nil) (hsp _ (fun p hp => tabAt _ (inT p hp)) hS)) fun r s' h => ?_
  cases r with
  | error e => exact (hCX _ e s' h).elim
  | ok fl =>
    cases fl with
    | next => exact False.elim h
    | brk => exact False.elim h
    | cont => exact False.elim h
    | ret u =>
      obtain ⟨v, H', os, bare, un, hok', r', q⟩ := h
      have q' : v = .bl true := q
      subst q'
      obtain rfl : u = Value.bool true := r'
      have stays : ∀ b o, b ∉ cs.map (·.2) → s₁.heap.get? b = some o → s'.heap.get? b = some o := fun b o nb e => by
        rcases cases3 b with h | ⟨h, h'⟩ | h
        · exact absurd h nb
        · subst h
          have z2 := un.frzs b ob _ (scriptAt h')
          obtain ⟨e2, _⟩ := hok' b _ z2
          rw [ha] at e; cases e
          exact e2
        · exact un.keep b o e h (fun z => absurd (show b ∈ ([] : List Addr) from z) (by simp)) (by simp)
      have grew : ∀ p ∈ cs, ∃ more : Array Value, s'.heap.get? p.2 = some { cls := .none, data := .fields more } := fun p hp => by
        obtain ⟨more, z⟩ := un.tbls p.2 #[] (tabAt _ (inT p hp))
        exact ⟨_, hok' p.2 _ z⟩
      refine ⟨rfl, ⟨fun b o e => ?_, fun b o e => ?_⟩, os, bare⟩
      · by_cases hb : b ∈ cs.map (·.2)
        · obtain ⟨p, hp, ep⟩ := List.mem_map.mp hb
          obtain ⟨more, hm⟩ := grew p hp
          rw [← ep] at e ⊢
          rw [hT p hp] at e
          cases e
          exact .inr (.inl ⟨((CH p hp).tab (hT p hp)).isCodeTable, rfl, #[], more, rfl, by rw [Array.empty_append]; exact hm⟩)
        · exact .inl (stays b o hb e)
      · by_cases hb : b ∈ cs.map (·.2)
        · obtain ⟨p, hp, ep⟩ := List.mem_map.mp hb
          obtain ⟨more, hm⟩ := grew p hp
          rw [← ep]; exact ⟨_, hm⟩
        · exact ⟨o, stays b o hb e⟩
/-- what is to be shown of the law's def at the head's heap h -/
def LawG (l : PySem.W.OpenLaw) (w : World) (K : PySem.W.Frag) (k n : Nat) (x : Str) (mg : Str → Option Value) (fa : Addr) (h : Heap) : Prop :=
  ∃ (fd : FuncData) (cs : List (Addr × Addr)) (sp : Sp), (∀ p ∈ cs, h.get? p.2 = some { cls := .none, data := .fields #[] }) ∧ (∀ p ∈ cs, K.lookup p.2 = none) ∧ (∀ p ∈ cs, PySem.W.CodeHd h p.1 p.2) ∧ (∀ (s : Shared) (u : Value), BindsTo s fd ⟨[u], []⟩ [(x, u)]) ∧
    (∀ (H : Hp) (a : Addr) (ns : List Int), ns.length ≤ n → (∀ z ∈ ns, Builtin.Int.intBits z ≤ 1048576) → (∀ p ∈ cs, H p.2 = some (.tbl #[])) → SqL K H a (ns.map V.int) → sp [.ref a] H (fun v _ => v = .bl true) fun _ _ _ => False) ∧
    ∀ base : Heap, K.In base → base.Ns mainGlobals mg → (∀ p ∈ cs, TabB base mg p.1 p.2) → FnG l.prog w K mg base k fa fd [x] sp
theorem walk_G {l : PySem.W.OpenLaw} {n k : Nat} {q : Program} {loose : List Str} {XP : (Str → Option Value) → Heap → Prop} {YP : World → Heap → Prop} {d : DefRec} {x : Str}
    (hn : l.most = some n) (hn2 : n ≤ sizeLine) (hdf : d.params.defaults = []) (hr : Room k callerA)
    (F : ∀ (w : World) (mg : Str → Option Value) (fa : Addr) (h : Heap), YP w h → h.Ns mainGlobals mg → mg d.name = some (.ref fa) → ∃ K : PySem.W.Frag, K.In h ∧ LawG l w K k n x mg fa h)
    (hCX : ∀ (w : World) (H : Hp) (s : Shared) (e : Value) (s' : Shared), L2.CX l.prog w [] H s (fun _ _ _ => False) e s' → False) :
    PySem.W.WalkO q loose XP YP l.row.toRowW d [] (fun f vs => PySem.call f vs) := by
  refine Att.attach_callB hn hdf fun w s₀ s₁ mg mb fa o pm cd doc a vs ns Gr Y ho hd hcd hmg hobj hints hlen hbits hg => ?_
  obtain ⟨K, KX, fd, cs, sp, hT, nT, C, hb, hsp, hF⟩ := F w mg fa _ Y Gr.T.g hmg
  exact law_endG KX Gr.T.g Gr.T.b Gr.T.builtins Gr.T.nolimit hg hT nT C Gr.T.bmain hobj hints (Nat.le_trans hlen hn2) hr hF hb (fun H hH hS => hsp H a ns hlen hbits hH hS) fun H e s' => hCX w H s₁ e s'
end
end RP
end L2
set_option Elab.async false
set_option linter.all false
set_option maxRecDepth 100000
/-! R25: the draw row. -/
namespace L2
namespace RP
open PySem PySem.Spec PyProof.Rows

def rowGet (g : G) : Int → Option Int
  | 1 => some g.a
  | 2 => some g.b
  | 3 => some g.c
  | _ => none
def rowSet (g : G) (v : Int) : Int → Option G
  | 1 => some { g with a := v }
  | 2 => some { g with b := v }
  | 3 => some { g with c := v }
  | _ => none
def isRow (ρ : En) (g : G) (r : Nat) : Prop := ρ[r]? = some (.frz .row) ∧ g.me = none
instance {ρ g r} : Decidable (isRow ρ g r) := by
  unfold isRow
  have d1 : Decidable (ρ[r]? = some (Slot.frz .row)) := by
    match ρ[r]? with
    | some (.frz .row) => exact isTrue rfl
    | none => exact isFalse (by simp)
    | some .none => exact isFalse (by simp)
    | some (.own d) => exact isFalse (by simp)
    | some (.frz .non) => exact isFalse (by simp)
    | some (.frz (.bl _)) => exact isFalse (by simp)
    | some (.frz (.int _)) => exact isFalse (by simp)
    | some (.frz (.str _)) => exact isFalse (by simp)
    | some (.frz (.tup _)) => exact isFalse (by simp)
    | some (.frz (.lst _)) => exact isFalse (by simp)
    | some (.frz (.dk _)) => exact isFalse (by simp)
    | some (.frz (.dt _)) => exact isFalse (by simp)
    | some (.frz (.ins _ _)) => exact isFalse (by simp)
    | some (.frz (.fn _)) => exact isFalse (by simp)
  have d2 : Decidable (g.me = none) := by
    match g.me with
    | none => exact isTrue rfl
    | some _ => exact isFalse (by simp)
  exact inferInstance
def vRow (r : Nat) (i : Int) : SE := fun ρ g => if isRow ρ g r then (match rowGet g i with
  | some v => .ok (.int v, g)
  | none => .bad) else .bad
def vRowLen (r : Nat) : SE := fun ρ g => if isRow ρ g r then .ok (.int (g.ns.length : Nat), g) else .bad
def vRowCell (r : Nat) (fi : SE) : SE := fun ρ g => if isRow ρ g r then (fi ρ g).bind fun p => match p.1 with
  | .int i => (match atI p.2.ns i with
    | some v => .ok (.int v, p.2)
    | none => .bad)
  | _ => .bad else .bad
def sRowPut (r : Nat) (i : Int) (f : SE) : SS := fun ρ g => (f ρ g).bind fun p => if isRow ρ p.2 r then (match p.1 with
  | .int v => (match rowSet p.2 v i with
    | some g1 => .ok (.nx, ρ, g1)
    | none => .bad)
  | _ => .bad) else .bad
section
variable {X : Cx} {F : Fx} {e : Expr} {f fi : SE} {r : Nat} {x : Str} {i : Int} {j : Nat} {p1 p2 p3 p4 p5 pos : Pos}
theorem R.rowAt {C : Ctx} {ρ : En} {g : G} {σ : St} {H : Hp} (x : R F C ρ g σ H) (h : isRow ρ g r) : σ[r]? = some (some (.ref F.r)) ∧ H F.r = some (.lst [.ref F.sc, .int g.a, .int g.b, .int g.c]) := by
  obtain ⟨v, h1, h2⟩ := x.frz r _ h.1
  have h2 : v = .ref F.r := h2
  subst h2
  refine ⟨h1, ?_⟩
  have := x.gl.row
  unfold G.obj at this
  rw [h.2] at this
  exact this
theorem ve_row (xf : XF X F) (hN : X.N[r]? = some x := by rfl) (hv : Vis X.env.scope x := by first | exact Or.inl rfl | exact Or.inr (Or.inl rfl) | exact Or.inr (Or.inr rfl)) (hd : (x == ("__debug__" : Str)) = false := by decide) (hc : (x == ("__classdict__" : Str)) = false := by decide) :
    PE X (.Subscript (.Name x p1) (.Constant (.int i) j p2) p3) (T F (vRow r i)) := (pe_ix ix_seq (pe_var hN hv hd hc) pe_int (fun _ _ => rfl)).imp fun σ H Q ⟨C, ρ, g, x, h⟩ => by
  unfold vRow at h
  split at h
  · rename_i hr
    obtain ⟨h1, h2⟩ := x.rowAt hr
    cases q : rowGet g i with
    | none => rw [q] at h; exact h.elim
    | some v =>
      rw [q] at h
      refine ⟨_, h1, .inl ⟨F.r, _, i, .int v, rfl, rfl, SqL.of h2, ?_, h.here x rfl⟩⟩
      unfold rowGet at q
      split at q
      all_goals first | (cases q; rfl) | cases q
  · exact h.elim
theorem ve_rowlen (xf : XF X F) (hN : X.N[r]? = some x := by rfl) (hv : Vis X.env.scope x := by first | exact Or.inl rfl | exact Or.inr (Or.inl rfl) | exact Or.inr (Or.inr rfl)) (hd : (x == ("__debug__" : Str)) = false := by decide) (hc : (x == ("__classdict__" : Str)) = false := by decide) (hg : Gl X "len" := by rfl)
    (he : starEach [.Subscript (.Name x p1) (.Constant (.int 0) j p2) p3] X.env = (false, eval (.Subscript (.Name x p1) (.Constant (.int 0) j p2) p3) X.env) :: starEach [] X.env := by rfl) :
    PE X (.Call (.Name "len" p4) [.Subscript (.Name x p1) (.Constant (.int 0) j p2) p3] [] pos) (T F (vRowLen r)) :=
  (pe_callB call_len_seq hg (by rw [xf.mg]; exact xf.len) PySem.boot_len (pa_cons (pe_ix ix_seq (pe_var hN hv hd hc) pe_int (fun _ _ => rfl)) pa_nil he) (he := he)).imp fun σ H Q ⟨C, ρ, g, x, h⟩ => by
    unfold vRowLen at h
    split at h
    · rename_i hr
      obtain ⟨h1, h2⟩ := x.rowAt hr
      refine ⟨_, h1, .inl ⟨F.r, _, 0, .ref F.sc, rfl, rfl, SqL.of h2, rfl, ⟨F.sc, F.ns.map V.int, rfl, .inl ?_, ?_⟩⟩⟩
      · rw [xf.K]; exact x.sqH
      · rw [List.length_map, ← x.gl.ns]; exact h.here x rfl
    · exact h.elim
theorem ve_rowcell (xf : XF X F) (ha : PE X e (T F fi)) (hN : X.N[r]? = some x := by rfl) (hv : Vis X.env.scope x := by first | exact Or.inl rfl | exact Or.inr (Or.inl rfl) | exact Or.inr (Or.inr rfl)) (hd : (x == ("__debug__" : Str)) = false := by decide) (hc : (x == ("__classdict__" : Str)) = false := by decide) (hs : PlainIx e := by intro _ _; rfl) :
    PE X (.Subscript (.Subscript (.Name x p1) (.Constant (.int 0) j p2) p3) e pos) (T F (vRowCell r fi)) := (pe_ix ix_seq (pe_ix ix_seq (pe_var hN hv hd hc) pe_int (fun _ _ => rfl)) ha hs).imp fun σ H Q ⟨C, ρ, g, x, h⟩ => by
  unfold vRowCell at h
  split at h
  · rename_i hr
    obtain ⟨h1, h2⟩ := x.rowAt hr
    refine ⟨_, h1, .inl ⟨F.r, _, 0, .ref F.sc, rfl, rfl, SqL.of h2, rfl, C, ρ, g, x, ?_⟩⟩
    cases q : fi ρ g with
    | bad => rw [q] at h; exact h
    | exc c d g => rw [q] at h; exact h
    | ok p =>
      rw [q] at h
      simp only [Res.bind_ok] at h
      intro v H1 e1 x1 w1
      split at h
      · rename_i k hk
        cases q2 : atI p.2.ns k with
        | none => rw [q2] at h; exact h.elim
        | some n =>
          rw [q2] at h
          rw [hk] at w1
          refine .inl ⟨F.sc, F.ns.map V.int, k, .int n, rfl, w1, ?_, ?_, h _ H1 e1 x1 rfl⟩
          · rw [xf.K]; exact x1.sqH
          · rw [← x1.gl.ns]
            unfold atI at q2 ⊢
            rw [List.length_map]
            cases q3 : ixN p.2.ns.length k with
            | none => rw [q3] at q2; cases q2
            | some m =>
              rw [q3] at q2
              have q2 : p.2.ns[m]? = some n := q2
              show (p.2.ns.map V.int)[m]? = _
              rw [List.getElem?_map, q2]; rfl
      · exact h.elim
  · exact h.elim
theorem ss_rowput (xf : XF X F) (he : PE X e (T F f)) (hN : X.N[r]? = some x := by rfl) (hv : Vis X.env.scope x := by first | exact Or.inl rfl | exact Or.inr (Or.inl rfl) | exact Or.inr (Or.inr rfl)) (hd : (x == ("__debug__" : Str)) = false := by decide) (hc : (x == ("__classdict__" : Str)) = false := by decide)
    (hsub : ∀ v, assign (.Subscript (.Name x p1) (.Constant (.int i) j p2) p3) X.env v = (do
      let ov ← holding [v] (eval (.Name x p1) X.env)
      let iv ← holding [v, ov] (eval (.Constant (.int i) j p2) X.env)
      standAt p3
      holding [v, ov, iv] (setItem ov iv v)
      release [v, ov, iv] []) := by intro _; rfl)
    (hs : swapsWithSole [.Subscript (.Name x p1) (.Constant (.int i) j p2) p3] e pos.line X.env = pure false := by rfl) (hw : swappedStores [.Subscript (.Name x p1) (.Constant (.int i) j p2) p3] e X.env = pure none := by rfl)
    (h1 : (assignEach [.Subscript (.Name x p1) (.Constant (.int i) j p2) p3] X.env).map (·.2) = [assign (.Subscript (.Name x p1) (.Constant (.int i) j p2) p3) X.env] := by rfl) :
    PS X (.Assign [.Subscript (.Name x p1) (.Constant (.int i) j p2) p3] e pos) (TS1 F (sRowPut r i f)) :=
  (ps_asg he (pg_sub (pe_var hN hv hd hc) pe_int set_list hsub) hs hw h1).imp fun D σ H ⟨C, ρ, g, x, h⟩ => by
    refine ⟨C, ρ, g, x, ?_⟩
    unfold sRowPut at h
    cases q : f ρ g with
    | bad => rw [q] at h; exact h
    | exc c d g => rw [q] at h; exact h
    | ok p =>
      rw [q] at h
      simp only [Res.bind_ok] at h
      intro v H1 e1 x1 w1
      split at h
      · rename_i hr
        obtain ⟨k1, k2⟩ := x1.rowAt hr
        split at h
        · rename_i n hn
          rw [hn] at w1
          have w1 : v = .int n := w1
          subst w1
          cases q2 : rowSet p.2 n i with
          | none => rw [q2] at h; exact h.elim
          | some g1 =>
            rw [q2] at h
            have key : ∃ jj, ixN 4 i = some jj ∧ G.obj g1 F.sc = .lst ([.ref F.sc, .int p.2.a, .int p.2.b, .int p.2.c].set jj (.int n)) ∧ g1.ns = p.2.ns := by
              unfold rowSet at q2
              split at q2
              all_goals first | (cases q2; first | exact ⟨1, rfl, by unfold G.obj; simp only [hr.2]; rfl, rfl⟩ | exact ⟨2, rfl, by unfold G.obj; simp only [hr.2]; rfl, rfl⟩ | exact ⟨3, rfl, by unfold G.obj; simp only [hr.2]; rfl, rfl⟩) | cases q2
            obtain ⟨jj, j1, j2, j3⟩ := key
            refine ⟨_, k1, F.r, _, i, jj, rfl, rfl, k2, j1, h σ _ (x1.ext ext_me ⟨by rw [upd_same, j2], tabs_upd x1.gl.tab (.inr ⟨_, k2, nt_lst, fun _ z => by cases z⟩), j3.trans x1.gl.ns⟩)⟩
        · exact h.elim
      · exact h.elim
end
end RP
end L2
set_option Elab.async false
set_option linter.all false
set_option maxRecDepth 100000
/-! R26: dict displays, xs[::-1], calls of what a name holds, what is never reached. -/
namespace L2
namespace RP
open PySem PySem.Spec PyProof.Rows

section
variable {X : Cx} {F : Fx} {a b e : Expr} {es : List Expr} {fa fb f : SE} {fr : SEs} {pos p p1 p2 p3 : Pos}
/-- what is never reached -/
def vBad : SE := fun _ _ => .bad
def sBad : SS := fun _ _ => .bad
def iBad : SEs := fun _ _ => .bad
theorem ve_bad : PE X e (T F vBad) := ⟨fun pins s σ H Q I ⟨C, ρ, g, x, h⟩ => h.elim⟩
theorem vo_bad : PE X e (TO F vBad) := ⟨fun pins s σ H Q I ⟨C, ρ, g, x, h⟩ => h.elim⟩
theorem tq_bad : PT X e (TQ F vBad) := ⟨fun pins s σ H Q I ⟨C, ρ, g, x, h⟩ => h.elim⟩
theorem ss_bad {st : Stmt} : PS X st (TS1 F sBad) := ⟨fun pins s σ H D I ⟨C, ρ, g, x, h⟩ => h.elim⟩
theorem sss_bad {st : List Stmt} : PSs X st (TS1 F sBad) := ⟨fun pins s σ H D I ⟨C, ρ, g, x, h⟩ => h.elim⟩
theorem ii_bad {tg : Expr} : PI X tg e (TIt F iBad) := ⟨fun pins s σ H R' I ⟨C, ρ, g, x, h⟩ => h.elim⟩
theorem aa_bad : PA X es (TAs F iBad) := ⟨fun pos pins s σ H R' I ⟨C, ρ, g, x, h⟩ => h.elim⟩
/-! ### dicts -/
theorem vo_dk0 : PE X (.Dict [] [] pos) (TO F (vC (.dk []))) := pe_dnewK.imp fun σ H Q ⟨C, ρ, g, x, h⟩ => fun p hp => h (.ref p) _ (.new hp) (x.new hp) ⟨p, rfl, hp, [], upd_same, Nat.zero_le _, rfl⟩
theorem vo_dt0 : PE X (.Dict [] [] pos) (TO F (vC (.dt []))) := pe_dnewT.imp fun σ H Q ⟨C, ρ, g, x, h⟩ => fun p hp => h (.ref p) _ (.new hp) (x.new hp) ⟨p, rfl, hp, [], upd_same, Nat.zero_le _, rfl⟩
/-- {k: constant} -/
theorem vo_dk1 {k : Int} {j : Nat} {d : D} {v : V} (he : PE X e (tC v)) (hv : ∀ H S, F.rp H S d v) : PE X (.Dict [some (.Constant (.int k) j p)] [e] pos) (TO F (vC (.dk [(.inl k, d)]))) :=
  (pe_disp (pps_cons pe_int he pps_nil) rfl rfl (by simp) (by show 1 ≤ 15; decide)).imp fun σ H Q ⟨C, ρ, g, x, h⟩ => fun p hp => by
    refine ⟨upd_same, [(.inl k, v)], rfl, by show 1 ≤ 15; decide, ?_⟩
    have e1 : L2.upd (L2.upd H p (.dK [])) p (.dK (mergeK [] [(.inl k, v)])) = L2.upd H p (.dK [(.inl k, v)]) := by
      funext z
      unfold L2.upd
      by_cases h1 : z = p
      · simp [h1]; rfl
      · simp [h1]
    rw [e1]
    exact h (.ref p) _ (.new hp) (x.new hp) ⟨p, rfl, hp, _, upd_same, by show 1 ≤ sizeLine; decide, v, [], rfl, hv _ _, rfl⟩
/-! ### xs[::-1] -/
theorem reps_append {mg H S r} : ∀ {ds : List D} {vs : List V} {d : D} {v : V}, Reps mg H S r ds vs → Rep mg H S r d v → Reps mg H S r (ds ++ [d]) (vs ++ [v]) := fun h k => Reps.app h (Reps.one k)
theorem reps_rev {mg H S r} : ∀ {ds : List D} {vs : List V}, Reps mg H S r ds vs → Reps mg H S r ds.reverse vs.reverse
  | [], _, e => by rw [show _ = [] from e]; rfl
  | d :: ds, _, ⟨v, ws, e, a, b⟩ => by
    subst e
    rw [List.reverse_cons, List.reverse_cons]
    exact reps_append (reps_rev b) a
def D.revD : D → Option D
  | .lst xs => some (.lst xs.reverse)
  | _ => none
theorem vo_rev {k : Nat} (xf : XF X F) (ha : PE X a (TB F fa)) : PE X (.Subscript a (.Slice none none (some (.UnaryOp .USub (.Constant (.int 1) k p1) p2)) p3) pos) (TO F (v1 (pureK1 D.revD) fa)) :=
  (pe_revL ha).imp fun σ H Q ⟨C, ρ, g, x, h⟩ => by
    refine one_tb x h fun d g v H1 e1 x1 w1 st => ?_
    unfold pureK1 D.revD at st
    split at st
    · rename_i d' hd
      split at hd
      · cases hd
        obtain ⟨b, vs, e, n, z, l, k⟩ := w1
        refine ⟨b, vs, e, by rw [xf.K]; exact SqL.of z, fun p hp => st (.ref p) _ (.new hp) (x1.new hp) ⟨p, rfl, e1.free hp, vs.reverse, upd_same, by simpa using l, ?_⟩⟩
        exact (Reps.sup (S' := fun a => SO C ρ σ a ∨ a = p) (fun a z => z.elim .inl fun z => .inr (z ▸ hp)) (reps_rev k)).agr (agr_new hp)
      · cases hd
    · exact st.elim
/-! ### what a name holds is called -/
def vCallL (i : Nat) (tbl : Str → Option FS) (fr : SEs) : SE := fun ρ g => match ρ[i]? with
  | some (.frz (.fn x)) => (match tbl x with
    | some fs => vCall fs fr ρ g
    | none => .bad)
  | _ => .bad
theorem ve_callL {k j n i : Nat} {y : Str} {tbl : Str → Option FS} (xf : XF X F) (c : ∀ x fs, tbl x = some fs → Cal X.prog X.w X.K X.mg X.base F.T k x n fs) (hr : Room j X.A) (hk : k ≤ j) (ha : PA X (a :: es) (TAs F fr)) (hl : ∀ ρ g ds g1, fr ρ g = .ok (ds, g1) → ds.length = n)
    (hN : X.N[i]? = some y := by rfl) (hv : Vis X.env.scope y := by first | exact Or.inl rfl | exact Or.inr (Or.inl rfl) | exact Or.inr (Or.inr rfl)) (hdb : (y == ("__debug__" : Str)) = false := by decide) (hcd : (y == ("__classdict__" : Str)) = false := by decide)
    (he : starEach (a :: es) X.env = (false, eval a X.env) :: starEach es X.env := by rfl) (hpl : (backTo pos (starEach es X.env)).any (·.1) = false := by rfl) :
    PE X (.Call (.Name y p) (a :: es) [] pos) (T F (vCallL i tbl fr)) := ⟨fun pins s σ H Q I ⟨C, ρ, g, x, h⟩ => by
  unfold vCallL at h
  split at h
  · rename_i z hz
    split at h
    · rename_i fs hfs
      obtain ⟨f, fd, ps, hm, Fn, kp, b⟩ := (c z fs hfs).ex
      obtain ⟨v, s1, w1⟩ := x.frz i _ hz
      obtain ⟨f', e1, e2⟩ := w1
      rw [← xf.mg, hm] at e2
      cases e2
      subst e1
      refine (pe_callL (i := i) (f := f) (E := F.E) Fn (hr.mono hk) hN hv kp b .nil (passes_call xf.tk fun _ _ _ _ z => z) ha hdb hcd he hpl).run pins s σ H Q I ⟨s1, C, ρ, g, x, ?_⟩
      unfold vCall at h
      cases q : fr ρ g with
      | bad => rw [q] at h; exact h
      | exc c d g => rw [q] at h; exact h
      | ok pr =>
        rw [q] at h
        simp only [Res.bind_ok] at h
        intro vs H1 e1 x1 w1
        rw [List.append_nil, xf.K, xf.mg]
        exact spf_of x1 w1 (by rw [← w1.length]; exact hl _ _ _ _ q) (StepE.ext h e1)
    · exact h.elim
  · exact h.elim⟩
end
end RP
end L2
set_option Elab.async false
set_option linter.all false
set_option maxRecDepth 100000
/-! R27: max, min of two; the refused lambda by facts; the law's def; a def that calls itself. -/
namespace L2
namespace RP
open PySem PySem.Spec PyProof.Rows LamX

section
variable {X : Cx} {F : Fx} {a b e : Expr} {es : List Expr} {fa fb f : SE} {fr : SEs} {pos p p1 p2 p3 : Pos}
def D.max2 : D → D → Option D
  | .int i, .int j => some (.int (if j > i then j else i))
  | _, _ => none
def D.min2 : D → D → Option D
  | .int i, .int j => some (.int (if j < i then j else i))
  | _, _ => none
theorem two_args {r : List V → Hp → VK → Prop} {op : D → D → Option D} (hr : ∀ C ρ g σ H x y v u d Q, R F C ρ g σ H → RB F H (SO C ρ σ) x v → RB F H (SO C ρ σ) y u → op x y = some d → StepE F (fun H1 d v => F.rp H1 (SO C ρ σ) d v) C ρ σ H (.ok (d, g)) Q → r [v, u] H Q)
    (σ : St) (H : Hp) (Q : VK) (h : T F (v2 (pureK2 op) fa fb) σ H Q) : tCB r (tCons (TB F fa) (tCons (TB F fb) tNil)) σ H Q := by
  obtain ⟨C, ρ, g, x, h⟩ := h
  exact two_tb x h fun x y g v u H1 e1 x1 w1 w2 st => by
    unfold pureK2 at st
    cases q : op x y with
    | none => rw [q] at st; exact st.elim
    | some d => rw [q] at st; exact hr C ρ g σ H1 x y v u d Q x1 w1 w2 q st
theorem ve_max2 (xf : XF X F) (ha : PE X a (TB F fa)) (hb : PE X b (TB F fb)) (hg : Gl X "max" := by rfl) (he : starEach [a, b] X.env = (false, eval a X.env) :: starEach [b] X.env := by rfl) (he2 : starEach [b] X.env = (false, eval b X.env) :: starEach [] X.env := by rfl)
    (hpl : (backTo pos (starEach [b] X.env)).any (·.1) = false := by rfl) : PE X (.Call (.Name "max" p) [a, b] [] pos) (T F (v2 (pureK2 D.max2) fa fb)) :=
  (pe_callB (call_max2 xf.calm) hg (by rw [xf.mg]; exact xf.max) boot_max (pa_cons ha (pa_cons hb pa_nil he2) he) (he := he) (hpl := hpl)).imp fun σ H Q h => two_args (fun C ρ g σ H x y v u d Q x1 hx hy op st => by
    unfold D.max2 at op
    split at op
    · cases op
      rw [rb_int hx, rb_int hy]
      exact ⟨_, _, rfl, st.here x1 rfl⟩
    · cases op) σ H Q h
theorem ve_min2 (xf : XF X F) (ha : PE X a (TB F fa)) (hb : PE X b (TB F fb)) (hg : Gl X "min" := by rfl) (he : starEach [a, b] X.env = (false, eval a X.env) :: starEach [b] X.env := by rfl) (he2 : starEach [b] X.env = (false, eval b X.env) :: starEach [] X.env := by rfl)
    (hpl : (backTo pos (starEach [b] X.env)).any (·.1) = false := by rfl) : PE X (.Call (.Name "min" p) [a, b] [] pos) (T F (v2 (pureK2 D.min2) fa fb)) :=
  (pe_callB (call_min2 xf.calm) hg (by rw [xf.mg]; exact xf.min) boot_min (pa_cons ha (pa_cons hb pa_nil he2) he) (he := he) (hpl := hpl)).imp fun σ H Q h => two_args (fun C ρ g σ H x y v u d Q x1 hx hy op st => by
    unfold D.min2 at op
    split at op
    · cases op
      rw [rb_int hx, rb_int hy]
      exact ⟨_, _, rfl, st.here x1 rfl⟩
    · cases op) σ H Q h
/-! ### the refused lambda, by facts -/
structure RefE (K : PySem.W.Frag) (mg : Str → Option Value) (excs : List Str) (l : List (Str × Str)) (x : Str) : Prop where
  ex : ∃ (B : Str → Addr) (g : Addr) (fdg : FuncData) (pg : Arguments) (bg : List Stmt) (sg : Scope), (∀ x ∈ excs, mg x = some (.ref (B x))) ∧ (∀ q ∈ l, q.1 ∈ excs) ∧ mg x = some (.ref g) ∧ FunD K x x pg bg sg [] [] g fdg ∧ FnScope ["ask", "e"] ["ask"] sg ∧ RefB l bg ∧ Vis sg "ask" ∧
    sg.names.lookup ("e" : Str) = some .local ∧ (∀ y ∈ excs, sg.names.lookup y = some .globalImplicit ∧ (y == ("__debug__" : Str)) = false) ∧ Binds K fdg ["ask"] []
theorem ve_refusedE {excs : List Str} {l : List (Str × Str)} {x : Str} {c P : Addr} {k j : Nat} {params : Arguments} {body : Expr} {scope : Scope} {fb : SE} {lpos : Pos} (xf : XF X F) (ea : ExA F.K F.mg excs) (re : RefE F.K F.mg excs l x) (TB : TabB X.base X.mg c P) (hcode : X.env.code = .ref c)
    (hmT : (P, X.env.qual ++ "<lambda>") ∈ F.T) (hu : ∀ p ∈ F.T, p.1 = P → p.2 = X.env.qual ++ "<lambda>") (hr : Room j X.A) (hk : k + 2 ≤ j)
    (hbody : ∀ (A : Around) (outer : List Env) (s : Shared) (H : Hp) (E : XK) (f c' : Addr), Room k (A.deeper (lamEnv X scope s.heap.objs.size f c')) → XF (lamCx X A outer s H E scope f c') { F with E := E } → PE (lamCx X A outer s H E scope f c') body (T { F with E := E } fb))
    (hx : Gl X x := by rfl) (L : LamS X.env.scope scope := by exact LamX.lamS_by (by rfl)) (hdef : defaultsOf params X.env = ([], []) := by rfl) (hbind : ∀ (q : Str) (cl : List (Str × Addr)) (pm cv ctv : Value), bindArgs (PySem.W.kla_fn "<lambda>" q params body scope cl pm cv ctv) ⟨[], []⟩ = pure [] := by intros; rfl)
    (hdb : (x == ("__debug__" : Str)) = false := by decide) : PE X (.Call (.Name x p) [.Lambda params body scope lpos] [] pos) (T F (vRef excs l fb)) := by
  obtain ⟨B, g, fdg, pg, bg, sg, h1, h2, h3, h4, h5, h6, h7, h8, h9, h10⟩ := re.ex
  exact ve_refused (a := x) xf h1 ea h2 hx h3 h4 h5 h6 h7 h8 h9 h10 TB hcode hmT hu hr hk L hdef hbind hbody hdb
end
/-! ### a def that calls itself: none of it -/
theorem cal_bad {P : Program} {w : World} {K : PySem.W.Frag} {mg : Str → Option Value} {base : Heap} {T : List (Addr × Str)} {k n : Nat} {x : Str} {f : Addr} {fd : FuncData} {ps : List Str} (hm : mg x = some (.ref f)) (kp : PySem.W.keepIn K (.ref f) = true) (b : Binds K fd ps []) (hl : ps.length = n) : Cal P w K mg base T k x n (fun _ _ => .bad) :=
  ⟨f, fd, ps, hm, ⟨fun vs H Q E h => (spf_len h).trans hl.symm, fun A outer s H args us vs Q E _ _ _ _ h => by
    obtain ⟨F, S, ds, g, _, _, _, _, _, _, _, _, _, _, _, h⟩ := h
    exact h.elim⟩, kp, b⟩
/-! ### the law's def: row = [script, 0, seed, 0], then the rest -/
def lawStart (nN : Nat) : En := Slot.none :: Slot.frz .row :: List.replicate (nN - 2) Slot.none
def spLaw (K : PySem.W.Frag) (T : List (Addr × Str)) (seed : Int) (nN : Nat) (sem : SS) : Sp := fun vs H Q _ => ∃ (a : Addr) (ns : List Int), vs = [.ref a] ∧ SqL K H a (ns.map V.int) ∧ Tabs T H ∧ (∀ H', Q (.bl true) H') ∧
  ∃ ρ' g', sem (lawStart nN) ⟨0, seed, 0, none, ns⟩ = .ok (.ret (.bl true), ρ', g')
theorem law_fng {P : Program} {w : World} {K : PySem.W.Frag} {mg : Str → Option Value} {base : Heap} {T : List (Addr × Str)} {params : Arguments} {body rest : List Stmt} {sc : Scope} {f : Addr} {fd : FuncData} {N : List Str} {k nN : Nat} {seed : Int} {sem : SS} {p1 p2 p3 p4 p5 p6 p7 : Pos} {j1 j2 j3 : Nat} (Fd : FunD K "law" "law" params body sc [] [] f fd) (Sc : FnScope ("script" :: "row" :: N) ["script"] sc) (b : Bi mg) (hN : N.length + 2 = nN)
    (hb : body = .Assign [.Name "row" p1] (.List [.Name "script" p2, .Constant (.int 0) j1 p3, .Constant (.int seed) j2 p4, .Constant (.int 0) j3 p5] p6) p7 :: rest) (hs : ∀ env : Env, swapsWith (.List [.Name "script" p2, .Constant (.int 0) j1 p3, .Constant (.int seed) j2 p4, .Constant (.int 0) j3 p5] p6) (some (.Name "row" p1)) p7.line env = pure false)
    (vs : Vis sc "script") (vr : Loc sc "row")
    (hbody : ∀ (F : Fx) (cdv : Value) (A : Around) (outer : List Env) (s : Shared) (H : Hp), fd.code = cdv → A.guards = some [] → F.K = K → F.mg = mg → F.T = T → Room k (A.deeper (envOfC "law" sc s.heap.objs.size f cdv)) →
      XF (cxD P w K mg base ("script" :: "row" :: N) "law" sc f cdv A outer s H F.E) F → PSs (cxD P w K mg base ("script" :: "row" :: N) "law" sc f cdv A outer s H F.E) rest (TS1 F sem)) :
    FnG P w K mg base (k + 1) f fd ["script"] (spLaw K T seed nN sem) :=
  fng_of Fd Sc (fun vs H Q E h => by obtain ⟨a, ns, rfl, _⟩ := h; rfl) fun cdv A outer s H vs' Q E hc gd hr h => by
    obtain ⟨a, ns, rfl, hS, hT, hQ, ρ', g', hsem⟩ := h
    subst hb
    have hrest : PSs (cxD P w K mg base ("script" :: "row" :: N) "law" sc f cdv A outer s H E) rest (fun D σ H1 => ∃ F : Fx, F.K = K ∧ F.mg = mg ∧ F.T = T ∧ F.E = E ∧ TS1 F sem D σ H1) :=
      ⟨fun pins s' σ H' D I ⟨F, e1, e2, e3, e4, h⟩ => by
        subst e4
        exact (hbody F cdv A outer s H hc gd e1 e2 e3 hr (xf_cx b Sc.nd hr e1 e2)).run pins s' σ H' D I h⟩
    refine ⟨_, pss_cons (ps_set (i := 1) Sc.nd rfl vr (pe_lst (pa_cons (pe_var (i := 0) rfl vs) (pa_cons pe_int (pa_cons pe_int (pa_cons pe_int pa_nil))))) (hs _) (.inl rfl)) hrest, ?_⟩
    refine ⟨_, rfl, by show 4 ≤ sizeLine; decide, fun p hp => ?_⟩
    show (fun D σ H1 => ∃ F : Fx, F.K = K ∧ F.mg = mg ∧ F.T = T ∧ F.E = E ∧ TS1 F sem D σ H1) _ _ _
    refine ⟨{ K := K, mg := mg, T := T, r := p, sc := a, ns := ns, E := E }, rfl, rfl, rfl, rfl, ⟨fun b => b = p, upd H p (.lst [.ref a, .int 0, .int seed, .int 0])⟩, lawStart nN, ⟨0, seed, 0, none, ns⟩, ⟨rfl, fun b z => by rw [z]; simp [upd_same], ?_, ?_, .refl, ⟨upd_same, tabs_upd hT (.inl hp), rfl⟩, ?_, fun i d h => ?_, fun i d h => ?_, fun i j d e a h => ?_⟩, ?_⟩
    · rcases hS with (h | ⟨ob, h⟩) | h
      · exact .inl (.inl (by show upd H p _ a = _; rw [upd_ne (ne_of_none h hp)]; exact h))
      · exact .inl (.inr ⟨ob, by show upd H p _ a = _; rw [upd_ne (ne_of_none h hp)]; exact h⟩)
      · exact .inr h
    · rcases hS with (h | ⟨ob, h⟩) | h
      · exact .inl (ne_of_none h hp)
      · exact .inl (ne_of_none h hp)
      · exact .inr fun _ => .inr h
    · unfold lawStart L2.start
      simp
      omega
    · have : i = 1 ∧ d = .row := by
        unfold lawStart at h
        match i with
        | 0 => simp at h
        | 1 => simp at h; exact ⟨rfl, h.symm⟩
        | n + 2 =>
          rw [List.getElem?_cons_succ, List.getElem?_cons_succ, List.getElem?_replicate] at h
          split at h <;> cases h
      obtain ⟨rfl, rfl⟩ := this
      exact ⟨.ref p, by unfold L2.start; simp, rfl⟩
    all_goals
      first
      | (exfalso
         unfold lawStart at h
         match i with
         | 0 => simp at h
         | 1 => simp at h
         | n + 2 =>
           rw [List.getElem?_cons_succ, List.getElem?_cons_succ, List.getElem?_replicate] at h
           split at h <;> cases h)
      | skip
    rw [hsem]
    exact fun v H' _ _ r => by
      have r : v = .bl true := r
      subst r
      exact hQ H'
end RP
end L2
namespace L2
namespace RP
open PySem PySem.Spec PyProof.Rows
theorem Cal.mono {P : Program} {w : World} {K : PySem.W.Frag} {mg : Str → Option Value} {base : Heap} {T : List (Addr × Str)} {j k n : Nat} {x : Str} {fs : FS} (c : Cal P w K mg base T j x n fs) (h : j ≤ k) : Cal P w K mg base T k x n fs := by
  obtain ⟨f, fd, ps, h1, h2, h3, h4⟩ := c.ex
  exact ⟨f, fd, ps, h1, h2.mono h, h3, h4⟩
end RP
end L2
set_option Elab.async false
set_option linter.all false
set_option maxRecDepth 100000
/-! R28: facts of the head as Bools. -/
namespace L2
namespace RP
open PySem PySem.Spec PyProof.Rows

def BT.all : List BT := [.int, .bool, .list, .tuple, .dict, .str]
def bnames : List String := ["NoneType", "bool", "int", "str", "tuple", "list", "dict"]
def isaB (K : PySem.W.Frag) (cs : List Str) : Bool :=
  decide (PySem.W.specialIn K (.builtin "object.__class__") "__get__" = some (some (.builtin "getset_descriptor.__get__"))) && (decide (PySem.W.takesIn K (.builtin "object.__class__") = some true) && cs.all fun c =>
    He.eqO (PySem.W.findIn K (.ref (He.ga K c)) "__class__") (some (some (.builtin "object.__class__"))) && (decide (PySem.W.mroIn K (He.ga K c) (.type "object") = some true) && (BT.all.all (fun t => decide (PySem.W.kitOne K (.ref (He.ga K c)) (.type t.nm) = some false)) &&
    (bnames.all (fun t => decide (PySem.W.kitOne K (.type t) (.ref (He.ga K c)) = some false)) && cs.all fun c' => decide (PySem.W.kitOne K (.ref (He.ga K c)) (.ref (He.ga K c')) = some (decide (c = c'))))))) 
def excsB (K : PySem.W.Frag) (es : List Str) : Bool := es.all fun c => oexB K (He.ga K c) (He.fAd K ("GreyError", some "__init__")) && es.all fun x => decide (PySem.W.exmOne K (.ref (He.ga K c)) (.ref (He.ga K x)) = some (decide (c = x)))
theorem isaB_ok {K : PySem.W.Frag} {mg : Str → Option Value} {cs : List Str} (h : isaB K cs = true) (hg : ∀ c ∈ cs, mg c = some (.ref (He.ga K c))) (hc : ∀ c ∈ cs, Cls K (He.ga K c)) : IsA K mg cs := by
  obtain ⟨h1, h⟩ := He.ba h
  obtain ⟨h2, h⟩ := He.ba h
  have one := List.all_eq_true.mp h
  have eq : ∀ {c A}, c ∈ cs → mg c = some (.ref A) → A = He.ga K c := fun {c A} m e => by rw [hg c m] at e; cases e; rfl
  refine ⟨fun c m A e => ?_, of_decide_eq_true h1, of_decide_eq_true h2, fun c m c' m' A A' e e' => ?_, fun c m A e t ht => ?_⟩
  · obtain ⟨k1, k⟩ := He.ba (one c m)
    obtain ⟨k2, k⟩ := He.ba k
    obtain ⟨k3, k⟩ := He.ba k
    rw [eq m e]
    exact ⟨hc c m, He.eqO_ok k1, of_decide_eq_true k2, fun t => of_decide_eq_true (List.all_eq_true.mp k3 t (by cases t <;> decide))⟩
  · obtain ⟨_, k⟩ := He.ba (one c m)
    obtain ⟨_, k⟩ := He.ba k
    obtain ⟨_, k⟩ := He.ba k
    obtain ⟨_, k⟩ := He.ba k
    rw [eq m e, eq m' e']
    exact of_decide_eq_true (List.all_eq_true.mp k c' m')
  · obtain ⟨_, k⟩ := He.ba (one c m)
    obtain ⟨_, k⟩ := He.ba k
    obtain ⟨_, k⟩ := He.ba k
    obtain ⟨k4, k⟩ := He.ba k
    rw [eq m e]
    exact of_decide_eq_true (List.all_eq_true.mp k4 t ht)
theorem excsB_ok {K : PySem.W.Frag} {mg : Str → Option Value} {es : List Str} (h : excsB K es = true) (hg : ∀ c ∈ es, mg c = some (.ref (He.ga K c))) : ExA K mg es ∧ ∀ c ∈ es, OexC K (He.ga K c) ∧ PySem.W.findIn K (.ref (He.ga K c)) "__init__" = some (some (.ref (He.fAd K ("GreyError", some "__init__")))) ∧
    PySem.W.typeIn K (.ref (He.fAd K ("GreyError", some "__init__"))) = some (.type "function") ∧ PySem.W.findIn K (.ref (He.ga K c)) "value" = some none := by
  have one := List.all_eq_true.mp h
  have eq : ∀ {c A}, c ∈ es → mg c = some (.ref A) → A = He.ga K c := fun {c A} m e => by rw [hg c m] at e; cases e; rfl
  refine ⟨⟨fun c m A e => ?_, fun c m => ⟨_, hg c m⟩, fun c m x mx A B e e' => ?_⟩, fun c m => ?_⟩
  · obtain ⟨k1, k2, k3, k4, k5⟩ := oexB_ok (He.ba (one c m)).1
    rw [eq m e]
    exact ⟨k5, k4⟩
  · rw [eq m e, eq mx e']
    exact ⟨of_decide_eq_true (List.all_eq_true.mp (He.ba (one c m)).2 x mx), fun z => by rw [z]⟩
  · obtain ⟨k1, k2, k3, k4, k5⟩ := oexB_ok (He.ba (one c m)).1
    exact ⟨k1, k2, k3, k4⟩
/-- the tables of the defs with lambdas stand apart -/
def apartB (K : PySem.W.Frag) (tf : List He.Defn) : Bool := decide ((tf.map fun p => (He.cT K p).2).Nodup)
theorem cd_of {K : PySem.W.Frag} {x qual : Str} {pr : Arguments} {bd : List Stmt} {sc : Scope} {dv : List V} {kw : List (Str × V)} {p : He.Defn} {fd : FuncData} (Fd : FunD K x qual pr bd sc dv kw (He.fAd K p) fd) : fd.code = .ref (He.cT K p).1 := by
  obtain ⟨oc, od, dV, kV, doc, pm, an, cdv, ct, osl, efd, lk, hcd, _⟩ := Fd.ex
  obtain ⟨c, hc⟩ := He.codeIn_ref hcd
  subst efd
  have e : He.codeOf K p = c := He.codeOf_eq lk hc
  show cdv = .ref (He.codeOf K p)
  rw [e, hc]
theorem tab_uniq {K : PySem.W.Frag} {tf : List He.Defn} {q : He.Defn → Str} (h : apartB K tf = true) {p : He.Defn} (hp : p ∈ tf) : ∀ r ∈ tf.map (fun p => ((He.cT K p).2, q p)), r.1 = (He.cT K p).2 → r.2 = q p := fun r hr e => by
  obtain ⟨p', hp', er⟩ := List.mem_map.mp hr
  subst er
  have nd := of_decide_eq_true h
  have e' : (fun p => (He.cT K p).2) p' = (fun p => (He.cT K p).2) p := e
  have : p' = p := by
    clear hr
    revert hp hp' nd
    induction tf with
    | nil => intro h1; cases h1
    | cons a l ih =>
      intro h2 h1 nd
      rw [List.map_cons, List.nodup_cons] at nd
      rcases List.mem_cons.mp h1 with z1 | z1
      · rcases List.mem_cons.mp h2 with z2 | z2
        · rw [z1, z2]
        · exact absurd (List.mem_map.mpr ⟨p, z2, by rw [← z1]; exact e.symm⟩) nd.1
      · rcases List.mem_cons.mp h2 with z2 | z2
        · exact absurd (List.mem_map.mpr ⟨p', z1, by rw [← z2]; exact e⟩) nd.1
        · exact ih (by
            unfold apartB at *
            exact decide_eq_true nd.2) z2 z1 nd.2
  rw [this]
end RP
end L2
namespace L2
open PySem PySem.Spec PyProof.Rows PyProof
section
variable {X : Cx}
theorem call_sortedDO (hcalm : X.calm = true) : CallR X (.builtin "sorted") (fun xs H Q => ∃ (a : Addr) (kvs : List (Key × V)) (ks : List Int), xs = [.ref a] ∧ Rd H a (.dK kvs) ∧ kvs.map (·.1) = ks.map Sum.inl ∧ ks.length ≤ sizeLine ∧
    ∀ (ys : List Int) (p : Addr), ys.Perm ks → ys.Pairwise (· ≤ ·) → H p = none → Q (.ref p) (upd H p (.lst (ys.map V.int)))) := by
  intro pins s σ H xs us Q I r q
  obtain ⟨a, kvs, ks, ex, hd, hks, h64, q⟩ := q
  subst ex
  obtain ⟨u, eu, rx⟩ := vals1 r
  subst eu
  cases rx
  obtain ⟨z, lo, vs, rel, dd⟩ := dk_rd I.hok hd
  obtain ⟨ep, hat⟩ := dd.dictAt
  have hkeys : vs.map (·.1) = ks.map Sum.inl := rel.keys.symm.trans hks
  have hl : vs.length = ks.length := by
    have e := congrArg List.length hkeys
    rw [List.length_map, List.length_map] at e
    exact e
  have h16 : vs.length ≤ sizeLine := by rw [hl]; exact h64
  refine Calls.call_function_entry PyProof.Rows.kind_sorted PyProof.Rows.plain_sorted PyProof.Rows.entry_sorted (PyProof.Rows.args_sorted1 _) ?_
  unfold Builtin.«sorted»
  refine wpAny_bind (m := checkCount "sorted" 1 1 _) (wpAny_pure ?_)
  refine wpAny_bind (PySem.W.kdu_collect (A := X.A.in1) (PySem.W.kdl_dict (knd := mixKind X.prog X.w) (kvs := vs) (ep := ep) lo) (I.ok.hd hcalm) hat h16 fun h' tk acc hk hacc => ?_)
  have hal : acc.toList.length = ks.length := by rw [Array.length_toList, hacc.1, hl]
  have hS : IntsAre acc.toList ks := ints_each hal fun j v e => by
    obtain ⟨k, x, e1, e2⟩ := hacc.2 j v (by rw [← Array.getElem?_toList]; exact e)
    have e3 : (vs.map (·.1))[j]? = some k := by rw [List.getElem?_map, e1]; rfl
    rw [hkeys, List.getElem?_map] at e3
    cases e4 : ks[j]? with
    | none => rw [e4] at e3; cases e3
    | some y =>
      rw [e4] at e3
      have e5 : Sum.inl y = k := Option.some.inj e3
      subst e5
      rcases keyIs_shape (show keyIs (Sum.inl y) v = true from e2) with ⟨i, t, ek, ev⟩ | ⟨z, t, ek, ev⟩
      · cases ek
        exact ⟨y, t, rfl, ev⟩
      · cases ek
  have I1 : Inv X pins σ H { s with heap := h', toks := tk } := I.kept hk
  refine wpAny_bind (wpAny_newList ?_ (by rw [hal]; exact h64))
  have hoL : (h'.push (seqObj "list" acc.toList.toArray 0)).get? h'.objs.size = some (seqObj "list" acc.toList.toArray 0) := Heap.get?_push_size _ rfl
  show wpAny _ _ _ _ _ { s with heap := h'.push (seqObj "list" acc.toList.toArray 0), toks := tk }
  refine wpAny_bind (wpAny_holding (wpAny_call_entry PyProof.Rows.slot_list_sort ⟨_, hoL, rfl⟩ PyProof.Rows.entry_list_sort
    (SrtO.list_sort_ord SrtO.swo_int (s := { s with heap := h'.push (seqObj "list" acc.toList.toArray 0), toks := tk }) hoL (by rw [hal]; exact h64) (fun h2 => SrtO.ints_sortable hS h2) fun out h1 h2 => ⟨_, rfl, ?_⟩) (PyProof.Rows.args_list_sort _)))
  obtain ⟨g1, g2, g3⟩ := SrtO.ints_out hS h1 h2
  obtain ⟨e', he'⟩ := PyProof.Rows.sortedHeap_at (vs := acc.toList) (out := out.toArray) hoL
  have hlen : ((out.map SrtO.iv).map V.int).length ≤ sizeLine := by
    rw [List.length_map, g2.length_eq]
    exact h64
  refine wpAny_pure ⟨_, rfl, .ref h'.objs.size, upd H h'.objs.size (.lst ((out.map SrtO.iv).map V.int)), I1.laid (t' := tk) (fun b u e => ?_) (Nat.le_refl _)
    (show ObjOk X.prog X.w _ _ _ (.lst ((out.map SrtO.iv).map V.int)) from ⟨hlen, out, e', vals_of_ints g1, he'⟩), rfl, q _ _ g2 g3 (I1.hok.fresh (Nat.le_refl _))⟩
  have hb : b < h'.objs.size := Heap.lt_size e
  rw [PyProof.Rows.sortedHeap_old (Nat.ne_of_lt hb) (by rw [size_push']; exact Nat.lt_succ_of_lt hb)]
  exact Heap.get?_push_of_some _ e
end
end L2
namespace L2
namespace RP
open PySem PySem.Spec PyProof.Rows
def intKeys : List (Key × D) → Option (List Int)
  | [] => some []
  | (.inl i, _) :: kvs => (intKeys kvs).map (i :: ·)
  | (.inr _, _) :: _ => none
def D.sortedX : D → Option D
  | .lst xs => (intsOf xs).map fun ns => .lst ((sortI ns).map .int)
  | .dk kvs => (intKeys kvs).map fun ns => .lst ((sortI ns).map .int)
  | _ => none
section
variable {X : Cx} {F : Fx} {a : Expr} {fa : SE} {pos p : Pos}
theorem intKeys_eq {H S} : ∀ {kvs : List (Key × D)} {ws : List (Key × V)} {ns : List Int}, RepK F.mg H S F.r kvs ws → intKeys kvs = some ns → ws.map (·.1) = ns.map Sum.inl
  | [], ws, ns, h, e => by
    cases e
    have h : ws = [] := h
    rw [h]; rfl
  | (k, d) :: kvs, ws, ns, h, e => by
    obtain ⟨v, us, rfl, _, h⟩ := h
    cases k with
    | inr _ => cases e
    | inl i =>
      cases q : intKeys kvs with
      | none => simp [intKeys, q] at e
      | some ms =>
        simp [intKeys, q] at e
        subst e
        simp [intKeys_eq h q]
theorem vo_sortedX (xf : XF X F) (ha : PE X a (TB F fa)) (hg : Gl X "sorted" := by rfl) (he : starEach [a] X.env = (false, eval a X.env) :: starEach [] X.env := by rfl) : PE X (.Call (.Name "sorted" p) [a] [] pos) (TO F (v1 (pureK1 D.sortedX) fa)) :=
  (pe_callB (cr_sortedI.or (call_sortedDO xf.calm)) hg (by rw [xf.mg]; exact xf.sorted) (by decide +kernel) (pa_cons ha pa_nil he) (he := he)).imp fun σ H Q h => core_o1 (fun C ρ g σ H x v d Q x1 hx op st => by
    unfold D.sortedX at op
    split at op
    · rename_i xs
      cases q : intsOf xs with
      | none => rw [q] at op; cases op
      | some ns =>
        rw [q] at op
        cases op
        obtain ⟨a, rfl, h1, _, l⟩ := rb_ints hx q
        refine .inl ⟨a, ns, rfl, by rw [xf.K]; exact h1, fun ns' p hp hs hn => ?_⟩
        rw [sortI_eq hp hs]
        exact st p _ hn ⟨_, upd_same, by rw [List.length_map, (sortI_perm ns).length_eq]; exact l, Reps.ofInts⟩
    · rename_i kvs
      cases q : intKeys kvs with
      | none => rw [q] at op; cases op
      | some ns =>
        rw [q] at op
        cases op
        obtain ⟨a, ws, rfl, _, h1, l, k⟩ := hx
        have e := intKeys_eq k q
        have l' : ns.length ≤ sizeLine := by
          have := congrArg List.length e
          rw [List.length_map, List.length_map] at this
          omega
        refine .inr ⟨a, ws, ns, rfl, h1, e, l', fun ns' p hp hs hn => ?_⟩
        rw [sortI_eq hp hs]
        exact st p _ hn ⟨_, upd_same, by rw [List.length_map, (sortI_perm ns).length_eq]; exact l', Reps.ofInts⟩
    · cases op) σ H Q h
end
end RP
end L2
set_option Elab.async false
set_option linter.all false
set_option maxRecDepth 100000
/-! R30: min(xs, key=len). -/
namespace L2
open PySem PySem.Spec PyProof.Rows PyProof
section
variable {X : Cx}
/-- the index of the first least -/
def bestLen (kf : Nat → Int) : Nat → Nat := argBest fun i j => decide (kf i < kf j)
theorem min_len_raw {pins : List (Addr × Obj)} {s : Shared} {σ : St} {H : Hp} {a : Addr} {ps : List Addr} {kf : Nat → Int} {Q : VK} (hc : X.calm = true) (I : Inv X pins σ H s)
    (hs : SqL X.K H a (ps.map V.ref)) (hn : 0 < ps.length) (hl : ∀ i p, ps[i]? = some p → ∃ ys, SqL X.K H p ys ∧ (ys.length : Int) = kf i)
    (q : ∀ p, ps[bestLen kf (ps.length - 1)]? = some p → Q (.ref p) H) :
    wpAny (model X.prog X.w) X.A (call (.builtin "min") [.ref a] [(Str.ofString "key", .builtin "len")]) (EP X pins σ Q) X.xe s := by
  obtain ⟨its, rv, pl, hz⟩ := I.list hs
  have hln : its.length = ps.length := by rw [← rv.length, List.length_map]
  have hit : ∀ i v, its[i]? = some v → ∃ p, ps[i]? = some p ∧ v = Value.ref p := fun i v e => by
    have hi : i < ps.length := by rw [← hln]; exact (List.getElem?_eq_some_iff.mp e).1
    obtain ⟨u, e1, e2⟩ := rv.get (i := i) (x := V.ref ps[i]) (by rw [List.getElem?_map, List.getElem?_eq_getElem hi]; rfl)
    rw [e] at e1
    cases e1
    exact ⟨ps[i], List.getElem?_eq_getElem hi, e2⟩
  have ax : a < s.heap.objs.size := by
    obtain ⟨o, ho, _⟩ := pl.isList
    exact Heap.lt_size ho
  refine call_min_walkKB (wpAny_pyIter_list pl.isList ?_)
  refine ⟨s.heap.objs.size, _, _, _, _, _, _, fun s' => ∃ h' tk, s' = { s with heap := h', toks := tk } ∧ ∀ b u, s.heap.get? b = some u → h'.get? b = some u, fun i k _ => ∃ t, k = Value.int (kf i) t, fun i j => decide (kf i < kf j), rfl,
    (Walks.list (prog := X.prog) (w := X.w) (A := X.A.in1) (by exact I.ok.hd hc) s.heap.objs.size a (Nat.ne_of_lt ax) its.toArray).toS, ⟨⟨_, Heap.get?_push_size _ rfl, rfl, rfl⟩, ?_⟩, ?_, ?_, ?_, ⟨_, s.toks, rfl, fun b u e => Heap.get?_push_of_some _ e⟩, ?_⟩
  · exact (pl.isList).at fun o e => Heap.get?_push_of_some _ e
  · intro b hb
    show b < (s.heap.push _).objs.size
    rw [size_push']
    rcases List.mem_cons.mp hb with rfl | hb
    · exact Nat.lt_succ_self _
    · rw [List.mem_singleton.mp hb]
      exact Nat.lt_succ_of_lt ax
  · simpa [hln] using hn
  · refine ⟨fun s1 s2 ⟨h', tk, e, k⟩ M => ?_, fun i k s1 s2 h _ => h, fun i v s1 o Q' E hi hv ⟨h', tk, e, k⟩ st ho q' => ?_, fun i j ki kj s1 Q' E _ h1 h2 q' => ?_⟩
    · subst e
      refine ⟨s2.heap, s2.toks, ?_, fun b u e => M.heap b u ?_ (k b u e)⟩
      · have h1 := M.gens
        have h2 := M.drawn
        have h3 := M.os
        cases s2
        simp only at h1 h2 h3
        rw [h1, h2, h3]
      · have hb := Heap.lt_size e
        intro hm
        rcases List.mem_cons.mp hm with hm | hm
        · have h2 : b = s.heap.objs.size + 1 := by rw [hm]; exact size_push' ..
          rw [h2] at hb
          exact absurd hb (Nat.not_lt.mpr (Nat.le_succ _))
        · rw [List.mem_singleton.mp hm] at hb
          exact Nat.lt_irrefl _ hb
    · obtain ⟨p, e1, e2⟩ := hit i v (by simpa using hv)
      subst e2
      obtain ⟨ys, h1, h2⟩ := hl i p e1
      obtain ⟨us, rv', pl', hz'⟩ := I.list h1
      subst e
      have hn := line63
      refine Calls.call_len_list (pl'.isList.at fun o e => k _ _ e) (by simp only [List.size_toArray]; have := rv'.length; omega) ?_
      refine q' _ _ ⟨h', tk + 1 + 1, rfl, k⟩ st ho ⟨tk + 1, ?_⟩ fun _ _ h => h
      rw [← h2, rv'.length, List.size_toArray]
    · exact CmpOf.ints_lt (prog := X.prog) (w := X.w) (A := X.A.in1) (P := fun i v => ∃ t, v = .int (kf i) t) kf (fun i v h => h) i j ki kj s1 Q' E h1 h2 q'
  · intro v s' hv ⟨h', tk, e, k⟩
    subst e
    obtain ⟨p, e1, e2⟩ := hit _ v (by simpa using hv)
    subst e2
    rw [hln] at e1
    exact ⟨.ref p, H, I.kept k, rfl, q p e1⟩
end
end L2

namespace L2
namespace RP
open PySem PySem.Spec PyProof.Rows
/-- the first of the shortest lists -/
def lenAt (xs : List D) (i : Nat) : Int := match xs[i]? with
  | some (.lst ys) => ys.length
  | _ => 0
def D.isLst : D → Bool
  | .lst _ => true
  | _ => false
def D.minLen : D → Option D
  | .lst xs => if xs.all D.isLst ∧ 0 < xs.length then xs[bestLen (lenAt xs) (xs.length - 1)]? else none
  | _ => none
section
variable {X : Cx} {F : Fx} {a : Expr} {fa : SE} {pos p p2 kp : Pos}
theorem refs_of {H S} : ∀ {ds : List D} {vs : List V}, F.rps H S ds vs → ds.all D.isLst = true → ∃ ps : List Addr, vs = ps.map V.ref
  | [], vs, h, _ => ⟨[], h⟩
  | d :: ds, vs, ⟨v, ws, e, h1, h2⟩, h => by
    simp only [List.all_cons, Bool.and_eq_true] at h
    obtain ⟨ps, e2⟩ := refs_of h2 h.2
    have h3 := h.1
    unfold D.isLst at h3
    split at h3
    · obtain ⟨b, us, e3, _⟩ := h1
      exact ⟨b :: ps, by rw [e, e2, e3]; rfl⟩
    · cases h3
def rMinLen (K : PySem.W.Frag) : List V → Hp → VK → Prop := fun vs H Q => ∃ (a : Addr) (ps : List Addr) (kf : Nat → Int), vs = [V.ref a] ∧ SqL K H a (ps.map V.ref) ∧ 0 < ps.length ∧ (∀ i p, ps[i]? = some p → ∃ ys, SqL K H p ys ∧ (ys.length : Int) = kf i) ∧
  ∀ p, ps[bestLen kf (ps.length - 1)]? = some p → Q (.ref p) H
theorem pe_minLen {t : TA} (hc : X.calm = true) (hg : Gl X "min") (hm : X.mg "min" = none) (hg2 : Gl X "len") (hm2 : X.mg "len" = none) (ha : PA X [a] t)
    (he : backTo pos (starEach [a] X.env) = (false, eval a X.env) :: backTo pos (starEach [] X.env) := by rfl) (hpl : (backTo pos (starEach [a] X.env)).any (·.1) = false := by rfl) :
    PE X (.Call (.Name "min" p) [a] [⟨some "key", .Name "len" p2, kp⟩] pos) (tCB (rMinLen X.K) t) := by
  refine ⟨fun pins s σ H Q I h => ?_⟩
  refine wpAny_Call_Name_kw (ld_blt I hg hm (u := .builtin "min") (by decide +kernel) ?_)
  refine PyProof.Rows.callWith_kw (thn (ha.run pos pins s σ H _ I h) fun us s1 ⟨vs, H1, I1, r1, q1⟩ => ?_) he hpl rfl rfl
  show wpAny _ _ (evalAll ((do let v ← eval (.Name "len" p2) X.env; standAt pos; pure v) :: [])) _ _ s1
  refine wpAny_evalAll_cons (wpAny_bind (ld_blt I1 hg2 hm2 (u := .builtin "len") (by decide +kernel) (wpAny_bind (wpAny_standAt (wpAny_pure ?_)))))
  refine wpAny_evalAll_nil ?_
  obtain ⟨a, ps, kf, rfl, h1, h2, h3, h4⟩ := q1
  rw [Vals.ref1 r1]
  exact min_len_raw hc I1 h1 h2 h3 h4
theorem ve_minLen (xf : XF X F) (ha : PE X a (TB F fa)) (hg : Gl X "min" := by rfl) (hg2 : Gl X "len" := by rfl) (he : starEach [a] X.env = (false, eval a X.env) :: starEach [] X.env := by rfl) :
    PE X (.Call (.Name "min" p) [a] [⟨some "key", .Name "len" p2, kp⟩] pos) (T F (v1 (pureK1 D.minLen) fa)) :=
  (pe_minLen xf.calm hg (by rw [xf.mg]; exact xf.min) hg2 (by rw [xf.mg]; exact xf.len) (pa_cons ha pa_nil he) (he := by rw [he]; rfl) (hpl := by rw [he]; rfl)).imp fun σ H Q h => core_b1 (fun C ρ g σ H x v d Q x1 hx op st => by
    unfold D.minLen at op
    split at op
    · rename_i xs
      split at op
      · rename_i hh
        obtain ⟨a, vs, rfl, _, z, l, k⟩ := hx
        obtain ⟨ps, rfl⟩ := refs_of k hh.1
        have el : xs.length = ps.length := by rw [k.length, List.length_map]
        refine ⟨a, ps, lenAt xs, rfl, by rw [xf.K]; exact SqL.of z, by rw [← el]; exact hh.2, fun i p e => ?_, fun p e => ?_⟩
        · obtain ⟨d, e1, e2⟩ := Reps.get i k (v := .ref p) (by rw [List.getElem?_map, e]; rfl)
          have e3 : D.isLst d = true := List.all_eq_true.mp hh.1 d (List.mem_of_getElem? e1)
          unfold D.isLst at e3
          split at e3
          · obtain ⟨b, us, e4, _, z2, _, k2⟩ := e2
            cases e4
            exact ⟨us, by rw [xf.K]; exact SqL.of z2, by unfold lenAt; rw [e1]; simp only; rw [k2.length]⟩
          · cases e3
        · rw [← el] at e
          obtain ⟨d', e1, e2⟩ := Reps.get _ k (v := .ref p) (by rw [List.getElem?_map, e]; rfl)
          rw [op] at e1
          cases e1
          exact st.here x1 e2
      · cases op
    · cases op) σ H Q h
end
end RP
end L2
set_option Elab.async false
set_option linter.all false
set_option maxRecDepth 100000
/-! R31: dict of a list of pairs; update. -/
namespace L2
open PySem PySem.Spec PyProof.Rows PyProof
section
variable {X : Cx} {pins : List (Addr × Obj)} {σ : St} {H : Hp} {s : Shared} {a b : Addr} {kvs more : List (Key × V)} {A : Around} {E : Value → Shared → Prop}
theorem d_update {Q : Value → Shared → Prop} (I : Inv X pins σ H s) (e : H a = some (.dK kvs)) (e2 : Rd H b (.dK more)) (hab : a ≠ b) (hl : kvs.length + more.length ≤ sizeLine)
    (h : ∀ s', Inv X pins σ (upd H a (.dK (mergeK kvs more))) s' → Q .none s') : wpAny (model X.prog X.w) A (call (.builtin "dict.update") [.ref a, .ref b]) Q E s := by
  obtain ⟨z, hd, vs, rel, dd⟩ := dk_of I.hok e
  obtain ⟨z2, hd2, vs2, rel2, dd2⟩ := dk_rd I.hok e2
  refine call_meetsIn PySem.F.slot_dict_update dd.typeIs PySem.F.entry_dict_update (PySem.F.args_dict_update_2 _ _) (meets_dict_update (mixKind X.prog X.w) a b hab hd2)
    ⟨vs, vs2, dd, dd2, by rw [← rel.length, ← rel2.length]; exact hl, fun h' dd' _ hs => h _ ?_⟩
  have he : ∃ q, h'.get? a = some q := let ⟨q, _, _, hq, _⟩ := dd'; ⟨q, hq⟩
  exact d_write (t' := s.toks) I (by rw [e]; exact True.intro) hs he (dk_new (Nat.le_trans (length_mergeK more kvs) hl) hd (KV.merge rel2 rel) dd')
def rUpd : V → List V → Hp → VK → Prop := fun x xs H Q => ∃ a b kvs more, x = .ref a ∧ xs = [.ref b] ∧ H a = some (.dK kvs) ∧ Rd H b (.dK more) ∧ a ≠ b ∧ kvs.length + more.length ≤ sizeLine ∧ Q .non (upd H a (.dK (mergeK kvs more)))
theorem mt_updateD : MtR X "dict.update" rUpd := by
  intro pins s σ H x xs v us Q I rx rxs h
  obtain ⟨a, b, kvs, more, rfl, rfl, e, e2, hab, hl, q⟩ := h
  cases rx
  obtain ⟨u, rfl, ru⟩ := Vals.one rxs
  cases ru
  exact d_update I e e2 hab hl fun s' I' => ⟨.non, _, I', rfl, q⟩
end
end L2
namespace L2
namespace RP
open PySem PySem.Spec PyProof.Rows
def pairsOf : List D → Option (List (Key × D))
  | [] => some []
  | .tup [k, v] :: r => (keyOf k).bind fun q => (pairsOf r).map ((q, v) :: ·)
  | _ => none
def mergeD (kvs more : List (Key × D)) : List (Key × D) := more.foldl (fun acc kv => putD acc kv.1 kv.2) kvs
def D.dictP : D → Option D
  | .lst xs => (pairsOf xs).map fun ps => .dk (mergeD [] ps)
  | _ => none
section
variable {X : Cx} {F : Fx} {a e : Expr} {fa f : SE} {pos p : Pos}
theorem rep_pairs {H S} : ∀ {ds : List D} {vs : List V} {ps : List (Key × D)}, F.rps H S ds vs → pairsOf ds = some ps →
    ∃ (qs : List Addr) (kvs : List (Key × V)), vs = qs.map V.ref ∧ Paired (fun q kv => SqT F.K H q [kV kv.1, kv.2]) qs kvs ∧ RepK F.mg H S F.r ps kvs
  | [], vs, ps, h, e => by
    cases e
    exact ⟨[], [], h, .nil, rfl⟩
  | d :: ds, vs, ps, ⟨v, ws, ev, h1, h2⟩, e => by
    unfold pairsOf at e
    split at e
    · rename_i heq; cases heq
    · rename_i k w rr heq
      cases heq
      cases q : keyOf k with
      | none => rw [q] at e; cases e
      | some k' =>
        cases q2 : pairsOf ds with
        | none => rw [q, q2] at e; cases e
        | some ps' =>
          rw [q, q2] at e
          cases e
          obtain ⟨qs, kvs, e1, e2, e3⟩ := rep_pairs h2 q2
          obtain ⟨b, us, rfl, hn, hb, _, u1, us1, eu, k1, u2, us2, eu2, k2, eu3⟩ := h1
          cases eu3
          subst eu2
          subst eu
          have ku := keyOf_v q k1
          subst ku
          refine ⟨b :: qs, (k', u2) :: kvs, by rw [ev, e1]; rfl, .cons (SqT.of hb) e2, u2, kvs, rfl, k2, e3⟩
    · cases e
theorem repK_merge {H S} : ∀ {more : List (Key × D)} {ws : List (Key × V)} {kvs : List (Key × D)} {us : List (Key × V)}, RepK F.mg H S F.r more ws → RepK F.mg H S F.r kvs us → RepK F.mg H S F.r (mergeD kvs more) (mergeK us ws)
  | [], ws, kvs, us, e, h => by rw [show ws = [] from e]; exact h
  | (k, d) :: more, ws, kvs, us, ⟨v, ws', e, a, b⟩, h => by
    rw [e]
    exact repK_merge (more := more) (kvs := putD kvs k d) (us := putK us k v) b (repK_put h a)
theorem vo_dictP (xf : XF X F) (ha : PE X a (TB F fa)) (hg : Gl X "dict" := by rfl) (he : starEach [a] X.env = (false, eval a X.env) :: starEach [] X.env := by rfl) : PE X (.Call (.Name "dict" p) [a] [] pos) (TO F (v1 (pureK1 D.dictP) fa)) :=
  (pe_callTy (call_dictP xf.calm) hg (by rw [xf.mg]; exact xf.dict) (by decide +kernel) (pa_cons ha pa_nil he) (he := he)).imp fun σ H Q h => core_o1 (fun C ρ g σ H x v d Q x1 hx op st => by
    unfold D.dictP at op
    split at op
    · rename_i xs
      cases q : pairsOf xs with
      | none => rw [q] at op; cases op
      | some ps =>
        rw [q] at op
        cases op
        obtain ⟨a, vs, rfl, _, h1, hl, k⟩ := hx
        obtain ⟨qs, kvs, rfl, e2, e3⟩ := rep_pairs k q
        refine ⟨a, qs, kvs, rfl, SqL.of h1, by rw [xf.K]; exact e2, fun p hp => st p _ hp ⟨_, upd_same, ?_, ?_⟩⟩
        · refine Nat.le_trans (length_mergeK kvs []) ?_
          have h3 := repK_len e3
          have h4 := e2.length
          rw [List.length_map] at hl
          simp
          omega
        · exact (RepK.sup (fun a z => z.elim .inl fun e => .inr (e ▸ hp)) (repK_merge e3 (show RepK F.mg H _ F.r [] [] from rfl))).agr (agr_new hp)
    · cases op) σ H Q h
/-- x.update(e) -/
def sUpd (i : Nat) (f : SE) : SS := fun ρ g => match ρ[i]? with
  | some (.own (.dk kvs)) => (f ρ g).bind fun p => (match p.1 with
    | .dk more => if kvs.length + more.length ≤ sizeLine then .ok (.nx, ρ.set i (.own (.dk (mergeD kvs more))), p.2) else .bad
    | _ => .bad)
  | _ => .bad
theorem ss_upd {i : Nat} {x : Str} {p1 p2 p3 p4 : Pos} (ha : PE X e (T F f)) (xf : XF X F) (hN : X.N[i]? = some x := by rfl) (hv : Vis X.env.scope x := by first | exact Or.inl rfl | exact Or.inr (Or.inl rfl) | exact Or.inr (Or.inr rfl)) (hd : (x == ("__debug__" : Str)) = false := by decide)
    (hcd : (x == ("__classdict__" : Str)) = false := by decide) (he : starEach [e] X.env = (false, eval e X.env) :: starEach [] X.env := by rfl)
    (hbase : attributeBase (.Name x p1) "update" X.env (eval (.Name x p1) X.env) = eval (.Name x p1) X.env := by rfl)
    (hfew : ((backTo p3 (starEach [e] X.env)).all (fun x => !x.1) && (backToKw p3 (keywordEach [] X.env)).all (fun x => x.1.isSome)
      && decide ([e].length + ([] : List Keyword).length + (if ([] : List Keyword).isEmpty then 0 else 1) < 30)) = true := by rfl)
    (hline : (p2.endLine == p3.line) = true := by rfl) (hplain : (backTo p3 (starEach [] X.env)).any (·.1) = false := by rfl)
    (hs : swapsWith (.Call (.Attribute (.Name x p1) "update" p2) [e] [] p3) none p4.line X.env = pure false := by rfl) :
    PS X (.Expr (.Call (.Attribute (.Name x p1) "update" p2) [e] [] p3) p4) (TS1 F (sUpd i f)) :=
  (ps_expr (pe_bm PySem.F.plainAttrs_dict PySem.F.slot_dict_update PySem.F.type_dict_update mt_updateD (pe_var hN hv hd hcd) (pa_cons ha pa_nil he) hbase hfew hline he hplain) hs).imp fun D σ H ⟨C, ρ, g, x, h⟩ => by
    unfold sUpd at h
    split at h
    · rename_i kvs hx
      obtain ⟨a, e1, e2, ws, z1, z2, z3⟩ := x.own i _ hx
      refine ⟨.ref a, e1, .inr (.inr (.inl ⟨rfl, .inl ⟨_, z1⟩⟩)), C, ρ, g, x, ?_⟩
      cases q : f ρ g with
      | bad => rw [q] at h; exact h
      | exc c d g => rw [q] at h; exact h
      | ok r =>
        rw [q] at h
        simp only [Res.bind_ok] at h
        intro v H1 ex x1 w1
        obtain ⟨a', f1, f2, ws', y1, y2, y3⟩ := x1.own i _ hx
        rw [e1] at f1; cases f1
        obtain ⟨d', g'⟩ := r
        simp only at h w1
        split at h
        · rename_i more
          split at h
          · rename_i hl
            obtain ⟨b, ms, rfl, nb, hb, lb, kb⟩ := w1
            have hb := hb.rd
            have hab : a ≠ b := fun e => nb (by rw [← e]; exact .inr ⟨i, _, hx, e1⟩)
            rw [repK_len y3, repK_len kb] at hl
            refine ⟨a, b, ws', ms, rfl, rfl, y1, hb, hab, hl, h _ _ (x1.upd hx e1 ⟨_, upd_same, Nat.le_trans (length_mergeK ms ws') hl, ?_⟩)⟩
            exact (repK_merge kb y3).agr (agr_upd (.inr ⟨i, _, hx, e1⟩))
          · exact h.elim
        · exact h.elim
    · exact h.elim
end
end RP
end L2
set_option Elab.async false
set_option linter.all false
set_option maxRecDepth 100000
/-! R32: len(set(a tuple of ints)); x.index(y). -/
namespace L2
open PySem PySem.Spec PyProof.Rows PyProof
/-- without doubles -/
def unDbl : List Int → List Int
  | [] => []
  | x :: xs => if x ∈ unDbl xs then unDbl xs else x :: unDbl xs
theorem unDbl_mem : ∀ (xs : List Int) (y : Int), y ∈ unDbl xs ↔ y ∈ xs
  | [], y => Iff.rfl
  | x :: xs, y => by
    unfold unDbl
    split
    · rename_i h
      rw [unDbl_mem xs y, List.mem_cons]
      exact ⟨.inr, fun z => z.elim (fun e => e ▸ (unDbl_mem xs x).mp h) id⟩
    · rw [List.mem_cons, List.mem_cons, unDbl_mem xs y]
theorem unDbl_nodup : ∀ xs : List Int, (unDbl xs).Nodup
  | [] => List.nodup_nil
  | x :: xs => by
    unfold unDbl
    split
    · exact unDbl_nodup xs
    · rename_i h
      exact List.nodup_cons.mpr ⟨h, unDbl_nodup xs⟩
theorem nodup_same_len {xs ys : List Int} (hx : xs.Nodup) (hy : ys.Nodup) (h : ∀ k, k ∈ xs ↔ k ∈ ys) : xs.length = ys.length :=
  ((List.perm_ext_iff_of_nodup hx hy).mpr h).length_eq
section
variable {X : Cx} {H : Hp}
def tLenSetT (K : PySem.W.Frag) (ta : TE) : TE := fun σ H Q => ta σ H fun x H1 => ∃ (l : Addr) (ns : List Int), x = V.ref l ∧ SqT K H1 l (ns.map V.int) ∧ ns.length ≤ 1000 ∧ Q (.int (unDbl ns).length) H1
theorem pe_lenSetT {a : Expr} {ta : TE} {p p2 q pos : Pos} (hc : X.calm = true) (hg : Gl X "len") (hm : X.mg "len" = none) (hg2 : Gl X "set") (hm2 : X.mg "set" = none) (ha : PE X a ta)
    (na : starEach [a] X.env = (false, eval a X.env) :: starEach [] X.env := by rfl) : PE X (.Call (.Name "len" p) [.Call (.Name "set" p2) [a] [] q] [] pos) (tLenSetT X.K ta) := by
  refine ⟨fun pins s σ H Q I h => ?_⟩
  refine Call_ (ld_blt I hg hm PySem.boot_len ?_)
  refine PyProof.Rows.callWith_builtin1 (PyProof.Rows.args_cons ?_ rfl) rfl rfl
  refine Call_ (ld_blt I hg2 hm2 PyProof.Rows.boot_set ?_)
  refine PyProof.Rows.callWith_type1 (PyProof.Rows.args_cons (thn (ha.run pins s σ H _ I h) fun u s1 ⟨x, H1, I1, r1, q1⟩ => PyProof.Rows.args_nil ?_) na) na rfl
  obtain ⟨l, ns, rfl, hq, h1, q1⟩ := q1
  cases r1
  obtain ⟨its, rv, pt, hz⟩ := I1.tuple hq
  have hi : IntsAre its.toArray.toList ns := ints_of_vals rv
  refine call_set_tupI ns (I1.ok.hd hc) (show s1.heap.IsTuple l its.toArray from pt) hi (by unfold scanBound; omega) fun h' tk c R1 hcn k => ?_
  obtain ⟨o, es, ep, t, ho, hex, hdt, g, nd, hmm, hb, hf, hn, hr, hl2⟩ := R1
  refine PyProof.Rows.args_nil ?_
  have I2 : Inv X pins σ H1 { s1 with heap := h', toks := tk } := I1.kept k
  have e : es.size = (unDbl ns).length := by
    have := nodup_same_len nd (unDbl_nodup ns) fun j => by rw [← hmm j, decide_eq_true_eq, unDbl_mem]
    rw [← this, List.length_map, Array.length_toList]
  refine call_len_set ho hex hdt hf (by omega) ⟨.int es.size, H1, I2.tok _, ⟨_, rfl⟩, ?_⟩
  rw [e]
  exact q1
end
end L2
set_option Elab.async false
set_option linter.all false
set_option maxRecDepth 100000
/-! R33: len(set(..)), x.index(y), as values. -/
namespace L2
namespace RP
open PySem PySem.Spec PyProof.Rows
def D.lenSet : D → Option D
  | .tup xs => (intsOf xs).bind fun ns => if ns.length ≤ 1000 then some (.int (unDbl ns).length) else none
  | _ => none
def idxI (y : Int) : List Int → Option Nat
  | [] => none
  | x :: xs => if x = y then some 0 else (idxI y xs).map (· + 1)
theorem idxI_spec {y : Int} : ∀ {xs : List Int} {j : Nat}, idxI y xs = some j → xs[j]? = some y ∧ ∀ m z, m < j → xs[m]? = some z → z ≠ y
  | [], _, h => by cases h
  | x :: xs, j, h => by
    unfold idxI at h
    split at h
    · rename_i e
      cases h
      exact ⟨by rw [e]; rfl, fun m z hm => by omega⟩
    · rename_i e
      cases q : idxI y xs with
      | none => rw [q] at h; cases h
      | some k =>
        rw [q] at h
        cases h
        obtain ⟨h1, h2⟩ := idxI_spec q
        refine ⟨by simpa using h1, fun m z hm hz => ?_⟩
        cases m with
        | zero => simp at hz; subst hz; exact e
        | succ m => exact h2 m z (by have hm : m + 1 < k + 1 := hm; omega) (by simpa using hz)
def D.idxL (xs : List D) : D → Option Nat
  | .int i => (intsOf xs).bind (idxI i)
  | _ => none
/-- x.index(y) of a list -/
def vIdx (fa fe : SE) : SE := fun ρ g => (fa ρ g).bind fun p => match p.1 with
  | .lst xs => (fe ρ p.2).bind fun q => (match D.idxL xs q.1 with
    | some j => .ok (.int (j : Nat), q.2)
    | none => .bad)
  | _ => .bad
section
variable {X : Cx} {F : Fx} {a e : Expr} {fa fe : SE} {pos p p2 q apos cpos : Pos}
theorem tint_of {H S} : ∀ {xs : List D} {vs : List V} {ns : List Int}, F.rps H S xs vs → intsOf xs = some ns → vs = ns.map V.int
  | [], vs, ns, h, e => by cases e; exact h
  | d :: ds, vs, ns, ⟨v, ws, ev, h1, h2⟩, e => by
    unfold intsOf at e
    split at e
    · rename_i heq; cases heq
    · rename_i i r heq
      cases heq
      cases q : intsOf ds with
      | none => rw [q] at e; cases e
      | some ms =>
        rw [q] at e
        cases e
        rw [ev, tint_of h2 q, show v = V.int i from h1]
        rfl
    · cases e
theorem ve_lenSet (xf : XF X F) (ha : PE X a (TB F fa)) (hg : Gl X "len" := by rfl) (hg2 : Gl X "set" := by rfl) (na : starEach [a] X.env = (false, eval a X.env) :: starEach [] X.env := by rfl) : PE X (.Call (.Name "len" p) [.Call (.Name "set" p2) [a] [] q] [] pos) (T F (v1 (pureK1 D.lenSet) fa)) :=
  (pe_lenSetT xf.calm hg (by rw [xf.mg]; exact xf.len) hg2 (by rw [xf.mg]; exact xf.set) ha na).imp fun σ H Q ⟨C, ρ, g, x, h⟩ => by
    refine one_tb x h fun d g v H1 e1 x1 w1 st => ?_
    unfold pureK1 at st
    cases q : D.lenSet d with
    | none => rw [q] at st; exact st.elim
    | some r =>
      rw [q] at st
      unfold D.lenSet at q
      split at q
      · rename_i xs
        cases q2 : intsOf xs with
        | none => rw [q2] at q; cases q
        | some ns =>
          rw [q2] at q
          simp only [Option.bind_some] at q
          split at q
          · rename_i hl
            cases q
            obtain ⟨b, vs, rfl, _, hb, _, k⟩ := w1
            rw [tint_of k q2] at hb
            exact ⟨b, ns, rfl, by rw [xf.K]; exact SqT.of hb, hl, st.here x1 rfl⟩
          · cases q
      · cases q
theorem all_flat (ns : List Int) : (ns.map V.int).all flatV = true := by
  rw [List.all_eq_true]
  intro v hv
  obtain ⟨n, _, rfl⟩ := List.mem_map.mp hv
  rfl
theorem ve_idx (xf : XF X F) (ha : PE X a (TB F fa)) (hb : PE X e (TB F fe)) (hbase : attributeBase a "index" X.env (eval a X.env) = eval a X.env := by rfl)
    (hfew : ((backTo cpos (starEach [e] X.env)).all (fun x => !x.1) && (backToKw cpos (keywordEach [] X.env)).all (fun x => x.1.isSome)
      && decide ([e].length + ([] : List Keyword).length + (if ([] : List Keyword).isEmpty then 0 else 1) < 30)) = true := by rfl)
    (hline : (apos.endLine == cpos.line) = true := by rfl) (hs : starEach [e] X.env = (false, eval e X.env) :: starEach [] X.env := by rfl) (hplain : (backTo cpos (starEach [] X.env)).any (·.1) = false := by rfl) :
    PE X (.Call (.Attribute a "index" apos) [e] [] cpos) (T F (vIdx fa fe)) :=
  (pe_bm PySem.F.plainAttrs_list PySem.F.slot_list_index PySem.F.type_list_index mt_index ha (pa_cons hb pa_nil hs) hbase hfew hline hs hplain).imp fun σ H Q ⟨C, ρ, g, x, h⟩ => by
    refine ⟨C, ρ, g, x, ?_⟩
    unfold vIdx at h
    cases q : fa ρ g with
    | bad => rw [q] at h; exact h
    | exc c d g => rw [q] at h; exact h
    | ok r =>
      obtain ⟨d, g1⟩ := r
      rw [q] at h
      simp only [Res.bind_ok] at h
      intro v H1 ex x1 w1
      split at h
      · rename_i xs
        obtain ⟨b, vs, rfl, nb, hb1, hl, k⟩ := w1
        refine ⟨.inl ⟨rfl, vs, by rw [xf.K]; exact SqL.of hb1⟩, C, ρ, g1, x1, ?_⟩
        cases q2 : fe ρ g1 with
        | bad => rw [q2] at h; exact h
        | exc c d g => rw [q2] at h; exact h
        | ok r2 =>
          obtain ⟨y, g2⟩ := r2
          rw [q2] at h
          simp only [Res.bind_ok] at h
          intro u H2 ex2 x2 w2
          cases q3 : D.idxL xs y with
          | none => rw [q3] at h; exact h.elim
          | some j =>
            rw [q3] at h
            unfold D.idxL at q3
            split at q3
            · rename_i i
              cases q4 : intsOf xs with
              | none => rw [q4] at q3; cases q3
              | some ns =>
                rw [q4] at q3
                have q3 : idxI i ns = some j := q3
                have hv := tint_of k q4
                obtain ⟨h1, h2⟩ := idxI_spec q3
                have : H2 b = some (.lst (ns.map V.int)) := by
                  have := ex2.keep b _ hb1 nb nt_lst
                  rw [hv] at this
                  exact this
                have hu : u = V.int i := w2
                subst hu
                refine ⟨b, ns.map V.int, .int i, j, .int i, rfl, rfl, by rw [xf.K]; exact SqL.of this, rfl, all_flat ns, by rw [List.getElem?_map, h1]; rfl, by simp [eqV], fun m z' hm hz => ?_, ?_⟩
                · rw [List.getElem?_map] at hz
                  obtain ⟨n, hn, rfl⟩ := Option.map_eq_some_iff.mp hz
                  have := h2 m n hm hn
                  simp [eqV, this]
                · exact h _ _ (ex.trans ex2) x2 rfl
            · cases q3
      · exact h.elim
end
end RP
end L2
set_option Elab.async false
set_option linter.all false
set_option maxRecDepth 100000
/-! R34: the sum of a list or a tuple. -/
namespace L2
open PySem PySem.Spec PyProof.Rows PyProof
section
variable {X : Cx}
theorem cr_sumT (hc : X.calm = true) : CallR X (.builtin "sum") (fun vs H Q => ∃ (a : Addr) (ns : List Int), vs = [V.ref a] ∧ SqT X.K H a (ns.map V.int) ∧ Q (.int ns.sum) H) := by
  intro pins s σ H vs us Q I r h
  obtain ⟨a, ns, rfl, hs, q⟩ := h
  obtain ⟨its, rv, hl, _⟩ := I.tuple hs
  rw [Vals.ref1 r]
  have hi : IntsAre its.toArray.toList ns := ints_of_vals rv
  have hl' : s.heap.IsTuple a its.toArray := hl
  obtain ⟨xs, hx⟩ := hi.allInts.items
  have hn : numsOf its.toArray.toList = ns := hi.numsOf
  rw [hx] at hn hl'
  rw [nums_intItems] at hn
  refine PySem.W.ktm_sumG (I.ok.hd hc) hl' fun h' tk t' hk => ⟨.int _, H, I.kept hk, ⟨_, rfl⟩, ?_⟩
  rw [preSum_eq, List.take_of_length_le (by simp), hn]
  exact q
end
end L2
namespace L2
namespace RP
open PySem PySem.Spec PyProof.Rows
def D.sumX : D → Option D
  | .lst xs => (intsOf xs).map fun ns => .int ns.sum
  | .tup xs => (intsOf xs).map fun ns => .int ns.sum
  | _ => none
section
variable {X : Cx} {F : Fx} {a : Expr} {fa : SE} {pos p : Pos}
theorem ve_sumX (xf : XF X F) (ha : PE X a (TB F fa)) (hg : Gl X "sum" := by rfl) (he : starEach [a] X.env = (false, eval a X.env) :: starEach [] X.env := by rfl) : PE X (.Call (.Name "sum" p) [a] [] pos) (T F (v1 (pureK1 D.sumX) fa)) :=
  (pe_callB ((cr_sum xf.calm).or (cr_sumT xf.calm)) hg (by rw [xf.mg]; exact xf.sum) (by decide +kernel) (pa_cons ha pa_nil he) (he := he)).imp fun σ H Q h => core_b1 (fun C ρ g σ H x v d Q x1 hx op st => by
    unfold D.sumX at op
    split at op
    · rename_i xs
      cases q : intsOf xs with
      | none => rw [q] at op; cases op
      | some ns =>
        rw [q] at op
        cases op
        obtain ⟨a, rfl, h1, _⟩ := rb_ints hx q
        exact .inl ⟨a, ns, rfl, by rw [xf.K]; exact h1, st.here x1 rfl⟩
    · rename_i xs
      cases q : intsOf xs with
      | none => rw [q] at op; cases op
      | some ns =>
        rw [q] at op
        cases op
        obtain ⟨a, vs, rfl, _, hb, _, k⟩ := hx
        rw [tint_of k q] at hb
        exact .inr ⟨a, ns, rfl, by rw [xf.K]; exact SqT.of hb, st.here x1 rfl⟩
    · cases op) σ H Q h
def D.boolX : D → Option D
  | .int i => some (.bl (i != 0))
  | .bl b => some (.bl b)
  | .lst xs => some (.bl (!xs.isEmpty))
  | _ => none
theorem ve_boolX (xf : XF X F) (ha : PE X a (TB F fa)) (hg : Gl X "bool" := by rfl) (he : starEach [a] X.env = (false, eval a X.env) :: starEach [] X.env := by rfl) : PE X (.Call (.Name "bool" p) [a] [] pos) (T F (v1 (pureK1 D.boolX) fa)) :=
  (pe_callTy (call_bool1.or call_boolL) hg (by rw [xf.mg]; exact xf.bool) (by decide +kernel) (pa_cons ha pa_nil he) (he := he)).imp fun σ H Q h => core_b1 (fun C ρ g σ H x v d Q x1 hx op st => by
    unfold D.boolX at op
    split at op
    · cases op
      rw [rb_int hx]
      exact .inl (.inl ⟨_, rfl, st.here x1 rfl⟩)
    · cases op
      rw [rb_bl hx]
      exact .inl (.inr ⟨_, rfl, st.here x1 rfl⟩)
    · rename_i xs
      cases op
      obtain ⟨a, vs, rfl, _, hb, _, k⟩ := hx
      have e : xs.isEmpty = vs.isEmpty := by
        have := k.length
        cases xs <;> cases vs <;> simp_all
      rw [e] at st
      exact .inr ⟨a, vs, rfl, by rw [xf.K]; exact SqL.of hb, st.here x1 rfl⟩
    · cases op) σ H Q h
theorem ExA.sub {K : PySem.W.Frag} {mg : Str → Option Value} {excs l : List Str} (ea : ExA K mg excs) (h : ∀ x ∈ l, x ∈ excs) : ExA K mg l :=
  ⟨fun c hc => ea.xf c (h c hc), fun c hc => ea.there c (h c hc), fun c hc x hx => ea.one c (h c hc) x (h x hx)⟩
end
end RP
end L2
set_option Elab.async false
set_option linter.all false
set_option maxRecDepth 100000
/-! R35: sorted(set(x)) of a list of ints, of any size. -/
namespace L2
open PySem PySem.Spec PyProof.Rows PyProof
section
variable {P : Program} {w : World} {A : Around} {E : Value → Shared → Prop} {s : Shared}
/-- an empty set's object -/
abbrev setO0 (w : World) : Obj := { cls := .type "set", dict := none, data := .set #[] 0 (.fresh 0 0 (!w.params.followText "set-order")) }
set_option maxHeartbeats 3200000 in
theorem set_list_ints {l : Addr} {its : Array Value} (ns : List Int) {Q : Value → Shared → Prop} (h0 : A.handled = none) (hlist : s.heap.IsList l its) (hints : IntsAre its.toList ns) (hsz : ns.length + 1 < scanBound)
    (fin : ∀ (h' : Heap) (tk c : Nat), SetR w h' s.heap.objs.size (fun j => decide (j ∈ ns)) c → c ≤ ns.length → (∀ b o, s.heap.get? b = some o → h'.get? b = some o) → Q (.ref s.heap.objs.size) { s with heap := h', toks := tk }) :
    wpAny (model P w) A (call (.type "set") [.ref l]) Q E s := by
  have hn : its.size = ns.length := by rw [← Array.length_toList]; exact IntsAre.length hints
  obtain ⟨_, _, m0⟩ := F.called_set.mro
  have m1 := F.called_set.made; have m2 := F.called_set.sub
  refine wpAny_call (codeAny_of_tree (show wpAny _ _ (callAny (.type "set") _) _ _ _ from ?_))
  refine wpAny_pure ⟨Code.quiet_builtin _ (by decide +kernel), codeAny_builtin F.entry_type_call (by
    rw [Around.under_plain (weight_type_call_type "set" [.ref l] []) rfl]
    have m3 := F.called_set.notType; have m4 := F.called_set.canCreate; have m5 := F.typeCall_set_1 (.ref l)
    repeat any_goals first | assumption | wp_step
    refine codeAny_mono (code_set_led1 (.ref l) (E := E) (Q₁ := fun r t => r = .ref s.heap.objs.size ∧ t = { s with heap := s.heap.push (setO0 w) }) ⟨rfl, rfl⟩) fun r t hr => ?_
    cases r with
    | error e => exact hr
    | ok fl =>
      cases fl with
      | ret obj =>
        obtain ⟨rfl, rfl⟩ := hr
        have new : (s.heap.push (setO0 w)).get? s.heap.objs.size = some (setO0 w) := Heap.get?_push_size _ rfl
        have newT : Shared.TypeIs { s with heap := s.heap.push (setO0 w) } (.ref s.heap.objs.size) "set" := ⟨_, new, rfl⟩
        have m6 := F.called_set.init.lookup; have m7 := F.called_set.init.bind (.ref s.heap.objs.size)
        repeat any_goals first | assumption | wp_step
        refine codeAny_mono (codeAny_call_builtin (R := wants (fun r t => r = .none ∧ ∃ h' tk c, t = { s with heap := h', toks := tk } ∧ SetR w h' s.heap.objs.size (fun j => decide (j ∈ ns)) c ∧ c ≤ ns.length ∧ ∀ b o, s.heap.get? b = some o → h'.get? b = some o) E)
          F.called_set.init.plain F.entry_set_init (check_set_init_1 newT ?_)) fun r t hr => ?_
        · obtain ⟨⟨cls, dict, data, slots⟩, at_, ecls, n0, edata⟩ := hlist
          simp only at ecls edata
          subst ecls edata
          have at1 : (s.heap.push (setO0 w)).get? l = some { cls := .type "list", dict := dict, data := .seq its n0, slots := slots } := Heap.get?_push_of_some _ at_
          have m8 := F.sub_list_set; have m9 := F.sub_list_frozenset
          have notD : (Value.type "list" == Value.type "dict") = false := by decide
          have list1 : (s.heap.push (setO0 w)).IsList l its := ⟨_, at1, rfl, n0, rfl⟩
          unfold Builtin.«set.__init__» noKeywords Builtin.Frozenset.updateFrom
          generalize eIt : pyIter = IT
          wp_walk
          subst eIt
          refine wpAny_pyIter_list list1 (wpAny_bind (wpAny_runValue ?_))
          have lold : l < s.heap.objs.size := Heap.lt_size at_
          have e1 : (s.heap.push (setO0 w)).objs.size = s.heap.objs.size + 1 := Heap.size_push ..
          have neI : l ≠ (s.heap.push (setO0 w)).objs.size := by rw [e1]; exact Nat.ne_of_lt (Nat.lt_succ_of_lt lold)
          refine set_update_ints ((Walks.list (by simp [h0]) _ l neI its).toS) s.heap.objs.size (by
              simp only [List.mem_cons, List.not_mem_nil, or_false, not_or, List.mem_singleton]
              exact ⟨by rw [e1]; exact Nat.ne_of_lt (Nat.lt_succ_self _), Nat.ne_of_gt lold⟩) ns hn hsz (fun i v hv => by
              have hi : i < ns.length := by rw [← hn]; exact (Array.getElem?_eq_some_iff.mp hv).1
              obtain ⟨t, e⟩ := IntsAre.int_at hints i v (by rw [Array.getElem?_toList]; exact hv)
              exact ⟨ns[i], t, List.getElem?_eq_getElem hi, by rw [e, List.getD_eq_getElem?_getD, List.getElem?_eq_getElem hi]; rfl⟩)
            (its.size - 0) 0 _ (by omega) (Nat.zero_le _) ⟨⟨_, Heap.get?_push_size _ rfl, rfl, rfl⟩, list1.push _⟩
            ⟨0, Nat.le_refl 0, setR_new_at (Heap.get?_push_of_some _ new)⟩ ?_
          rintro ⟨h', g2, d2, tk, os2⟩ c mv hc R
          have x1 : g2 = s.gens := mv.gens
          have x2 : d2 = s.drawn := mv.drawn
          have x3 : os2 = s.os := mv.os
          subst x1 x2 x3
          refine (show wpAny _ _ _ _ _ _ from wpAny_pure (show wpAny _ _ (ret Value.none) _ _ _ from wpAny_pure ⟨rfl, h', tk, c, rfl, R, by omega, fun b o e => ?_⟩))
          have old := Heap.lt_size e
          exact mv.heap b o (by
            simp only [List.mem_cons, List.not_mem_nil, or_false, not_or, List.mem_singleton]
            exact ⟨Nat.ne_of_lt old, by rw [e1]; exact Nat.ne_of_lt (Nat.lt_succ_of_lt old)⟩) (Heap.get?_push_of_some _ (Heap.get?_push_of_some _ e))
        · cases r with
          | error e => exact hr
          | ok f2 =>
            cases f2 with
            | ret x =>
              obtain ⟨rfl, h', tk, c, rfl, R, hc, k⟩ := hr
              repeat any_goals first | assumption | wp_step
              exact fin _ _ _ R hc k
            | _ => exact hr.elim
      | _ => exact hr.elim)⟩
end
end L2
set_option Elab.async false
set_option linter.all false
set_option maxRecDepth 100000
/-! R36: sorted(set(x)) as a value; range(a, b, c). -/
namespace L2
open PySem PySem.Spec PyProof.Rows PyProof
section
variable {P : Program} {w : World} {A : Around} {E : Value → Shared → Prop} {s : Shared}
theorem sorted_setAny {a : Addr} {S : Int → Bool} {n : Nat} {Q : Value → Shared → Prop} (R : SetR w s.heap a S n) (h0 : A.handled = none) (hn : n ≤ sizeLine)
    (fin : ∀ s' p (out : List Value) (c : Nat) (ns : List Int), (∀ b o, s.heap.get? b = some o → s'.heap.get? b = some o) → s'.gens = s.gens → s'.os = s.os → s.heap.objs.size ≤ p →
      s'.heap.get? p = some (seqObj "list" out.toArray c) → IntsAre out ns → ns.Pairwise (· < ·) → (∀ k, k ∈ ns ↔ S k = true) → ns.length = n → Q (.ref p) s') :
    wpAny (model P w) A (call (.builtin "sorted") [.ref a]) Q E s := by
  obtain ⟨o, es, ep, t, at_, ex, data, good, nd, mem, few, fits, cnt, ris, led⟩ := R
  refine Calls.call_function_entry PyProof.Rows.kind_sorted PyProof.Rows.plain_sorted PyProof.Rows.entry_sorted (PyProof.Rows.args_sorted1 _) ?_
  unfold Builtin.«sorted»
  refine wpAny_bind (m := checkCount "sorted" 1 1 _) (wpAny_pure (wpAny_bind (collect_set (A := A.in1) h0 ⟨o, at_, ex.1, data⟩ fits few ris led fun s1 vs old big gens os pm => ?_)))
  have lvs : vs.length = n := by rw [pm.length_eq, List.length_map, Array.length_toList, cnt]
  have iv : IntsAre vs (vs.map vInt) := ints_of vs fun v hv => by
    obtain ⟨e, he, q⟩ := List.mem_map.mp (pm.mem_iff.mp hv)
    obtain ⟨k, tk, h1, _⟩ := good e he
    exact ⟨k, tk, q.symm.trans h1⟩
  have pk : (vs.map vInt).Perm (es.toList.map keyOf) := by
    have q := pm.map vInt
    rw [List.map_map] at q
    rwa [show es.toList.map (vInt ∘ fun x => x.2) = es.toList.map keyOf from List.map_congr_left fun e _ => (key_vInt e).symm] at q
  refine wpAny_bind (wpAny_newList ?_ (by rw [lvs]; exact hn))
  have atL : (s1.heap.push (seqObj "list" vs.toArray 0)).get? s1.heap.objs.size = some (seqObj "list" vs.toArray 0) := Heap.get?_push_size _ rfl
  refine wpAny_bind (wpAny_holding (wpAny_call_entry PyProof.Rows.slot_list_sort ⟨_, atL, rfl⟩ PyProof.Rows.entry_list_sort
    (SrtO.list_sort_ord SrtO.swo_int (s := { s1 with heap := s1.heap.push (seqObj "list" vs.toArray 0) }) atL (by rw [lvs]; exact hn) (fun h2 => SrtO.ints_sortable iv h2) fun out q1 q2 => ⟨_, rfl, ?_⟩) (PyProof.Rows.args_list_sort _)))
  obtain ⟨g1, g2, g3⟩ := SrtO.ints_out iv q1 q2
  obtain ⟨c, hc⟩ := PyProof.Rows.sortedHeap_at (vs := vs) (out := out.toArray) atL
  have pn : (out.map SrtO.iv).Perm (es.toList.map keyOf) := g2.trans pk
  have ndo : (out.map SrtO.iv).Nodup := pn.nodup_iff.mpr nd
  refine wpAny_pure ⟨_, rfl, fin _ s1.heap.objs.size out c (out.map SrtO.iv) (fun b u e => ?_) gens os big hc g1 ((g3.and ndo).imp fun h => by omega) (fun k => by rw [pn.mem_iff, ← mem k]) ?_⟩
  · have q := old b u e
    have lt := Heap.lt_size q
    rw [PyProof.Rows.sortedHeap_old (Nat.ne_of_lt lt) (by rw [size_push']; exact Nat.lt_succ_of_lt lt)]
    exact Heap.get?_push_of_some _ q
  · rw [pn.length_eq, List.length_map, Array.length_toList, cnt]
end
section
variable {X : Cx}
def tSortSet (K : PySem.W.Frag) (ta : TE) : TE := fun σ H Q => ta σ H fun x H1 => ∃ (l : Addr) (ns : List Int), x = V.ref l ∧ SqL K H1 l (ns.map V.int) ∧ ns.length ≤ 1000 ∧ ∀ (ms : List Int) (p : Addr), ms.Pairwise (· < ·) → (∀ k, k ∈ ms ↔ k ∈ ns) → H1 p = none → Q (.ref p) (upd H1 p (.lst (ms.map V.int)))
theorem pe_sortSet {a : Expr} {ta : TE} {p p2 q pos : Pos} (hc : X.calm = true) (hg : Gl X "sorted") (hm : X.mg "sorted" = none) (hg2 : Gl X "set") (hm2 : X.mg "set" = none) (ha : PE X a ta)
    (na : starEach [a] X.env = (false, eval a X.env) :: starEach [] X.env := by rfl) : PE X (.Call (.Name "sorted" p) [.Call (.Name "set" p2) [a] [] q] [] pos) (tSortSet X.K ta) := by
  refine ⟨fun pins s σ H Q I h => ?_⟩
  refine Call_ (ld_blt I hg hm (show bootBuiltins "sorted" = some (.builtin "sorted") by decide +kernel) ?_)
  refine PyProof.Rows.callWith_builtin1 (PyProof.Rows.args_cons ?_ rfl) rfl rfl
  refine Call_ (ld_blt I hg2 hm2 PyProof.Rows.boot_set ?_)
  refine PyProof.Rows.callWith_type1 (PyProof.Rows.args_cons (thn (ha.run pins s σ H _ I h) fun u s1 ⟨x, H1, I1, r1, q1⟩ => PyProof.Rows.args_nil ?_) na) na rfl
  obtain ⟨l, ns, rfl, hq, h1, q1⟩ := q1
  cases r1
  obtain ⟨its, r, pl, hz⟩ := I1.list hq
  refine set_list_ints ns (I1.ok.hd hc) pl.isList (by simpa using r.ints) (by unfold scanBound; omega) fun h' tk c R hcn hk => ?_
  refine PyProof.Rows.args_nil ?_
  have I2 : Inv X pins σ H1 { s1 with heap := h', toks := tk } := I1.kept hk
  refine sorted_setAny (s := { s1 with heap := h', toks := tk }) R (I2.ok.hd hc) (by rw [sizeLine_eq]; omega) fun s' p out c2 ms k g o hp hat hi hs hm hl => ?_
  have hlen : (ms.map V.int).length ≤ sizeLine := by rw [List.length_map, hl, sizeLine_eq]; omega
  have hn : H1 p = none := I2.hok.fresh hp
  have J : Inv X pins σ (upd H1 p (.lst (ms.map V.int))) { ({ s1 with heap := h', toks := tk } : Shared) with heap := s'.heap, gens := s'.gens, drawn := s'.drawn, toks := s'.toks } :=
    I2.call (ch := []) (Un.laid k hp hn) (I2.hok.laid k hp ⟨hlen, out, c2, vals_of_ints hi, hat⟩) (by rw [g]; exact I2.bare) (fun _ z => nomatch z)
  have e : s' = { ({ s1 with heap := h', toks := tk } : Shared) with heap := s'.heap, gens := s'.gens, drawn := s'.drawn, toks := s'.toks } := by
    cases s'
    cases o
    rfl
  rw [e]
  exact ⟨.ref p, _, J, rfl, q1 ms p hs (fun j => (hm j).trans decide_eq_true_iff) hn⟩
end
end L2
namespace L2
namespace RP
open PySem PySem.Spec PyProof.Rows
def D.sortSet : D → Option D
  | .lst xs => (intsOf xs).bind fun ns => if ns.length ≤ 1000 then some (.lst ((sortI (unDbl ns)).map .int)) else none
  | _ => none
theorem lt_uniq : ∀ {xs ys : List Int}, xs.Pairwise (· < ·) → ys.Pairwise (· < ·) → (∀ x, x ∈ xs ↔ x ∈ ys) → xs = ys
  | [], [], _, _, _ => rfl
  | [], y :: ys, _, _, h => by have := (h y).mpr List.mem_cons_self; simp at this
  | x :: xs, [], _, _, h => by have := (h x).mp List.mem_cons_self; simp at this
  | x :: xs, y :: ys, h1, h2, h => by
    obtain ⟨a1, a2⟩ := List.pairwise_cons.mp h1
    obtain ⟨b1, b2⟩ := List.pairwise_cons.mp h2
    have e : x = y := by
      rcases List.mem_cons.mp ((h x).mp List.mem_cons_self) with e | hx
      · exact e
      · rcases List.mem_cons.mp ((h y).mpr List.mem_cons_self) with e | hy
        · exact e.symm
        · have := a1 y hy; have := b1 x hx; omega
    subst e
    congr 1
    refine lt_uniq a2 b2 fun z => ⟨fun hz => ?_, fun hz => ?_⟩
    · rcases List.mem_cons.mp ((h z).mp (List.mem_cons_of_mem _ hz)) with e | h'
      · have := a1 z hz; omega
      · exact h'
    · rcases List.mem_cons.mp ((h z).mpr (List.mem_cons_of_mem _ hz)) with e | h'
      · have := b1 z hz; omega
      · exact h'
theorem sortU_lt (ns : List Int) : (sortI (unDbl ns)).Pairwise (· < ·) :=
  ((sortI_sorted _).and ((sortI_perm (unDbl ns)).nodup_iff.mpr (unDbl_nodup ns))).imp fun h => by omega
theorem sortU_mem (ns : List Int) (k : Int) : k ∈ sortI (unDbl ns) ↔ k ∈ ns := ((sortI_perm _).mem_iff).trans (unDbl_mem ns k)
/-- lo, lo + c, .. -/
def rangeC (lo c : Int) (n : Nat) : List D := (List.range n).map fun i => .int (lo + (i : Nat) * c)
/-- how many steps -/
def stepsN (i j c : Int) : Nat := if 0 < c then ((j - i + c - 1) / c).toNat else ((i - j + (-c) - 1) / (-c)).toNat
section
variable {X : Cx} {F : Fx} {a b c e tg : Expr} {fa fb fc : SE} {pos p p2 q : Pos}
theorem vo_sortSet (xf : XF X F) (ha : PE X a (TB F fa)) (hg : Gl X "sorted" := by rfl) (hg2 : Gl X "set" := by rfl) (na : starEach [a] X.env = (false, eval a X.env) :: starEach [] X.env := by rfl) : PE X (.Call (.Name "sorted" p) [.Call (.Name "set" p2) [a] [] q] [] pos) (TO F (v1 (pureK1 D.sortSet) fa)) :=
  (pe_sortSet xf.calm hg (by rw [xf.mg]; exact xf.sorted) hg2 (by rw [xf.mg]; exact xf.set) ha na).imp fun σ H Q ⟨C, ρ, g, x, h⟩ => by
    refine one_tb x h fun d g v H1 e1 x1 w1 st => ?_
    unfold pureK1 at st
    cases q : D.sortSet d with
    | none => rw [q] at st; exact st.elim
    | some r =>
      rw [q] at st
      unfold D.sortSet at q
      split at q
      · rename_i xs
        cases q2 : intsOf xs with
        | none => rw [q2] at q; cases q
        | some ns =>
          rw [q2] at q
          simp only [Option.bind_some] at q
          split at q
          · rename_i hl
            cases q
            obtain ⟨b, rfl, h1, _, l⟩ := rb_ints w1 q2
            refine ⟨b, ns, rfl, by rw [xf.K]; exact h1, hl, fun ms p hs hm hn => ?_⟩
            have em : ms = sortI (unDbl ns) := lt_uniq hs (sortU_lt ns) fun k => (hm k).trans (sortU_mem ns k).symm
            rw [em]
            have ll : (sortI (unDbl ns)).length ≤ sizeLine := by
              have : ∀ zs : List Int, (unDbl zs).length ≤ zs.length := fun zs => by
                induction zs with
                | nil => exact Nat.le_refl _
                | cons z zs ih => unfold unDbl; split <;> simp <;> omega
              rw [(sortI_perm _).length_eq, sizeLine_eq]
              have := this ns
              omega
            exact st _ _ (.new hn) (x1.new hn) ⟨p, rfl, Ext.free e1 hn, _, upd_same, by rw [List.length_map]; exact ll, Reps.ofInts⟩
          · cases q
      · cases q
end
end RP
end L2
set_option Elab.async false
set_option linter.all false
set_option maxRecDepth 100000
/-! R37: range(a, b, c). -/
namespace L2
namespace RP
open PySem PySem.Spec PyProof.Rows
theorem wk_rangeC {F : Fx} {lo c : Int} {k : Nat} {B : Hp} {S0 : Addr → Prop} : Wk F S0 B (Itc lo c k) (rangeC lo c k) where
  go := fun i H' _ hi => by
    have : i < k := by simpa [rangeC] using hi
    exact this
  stop := fun H' _ => by
    show k ≤ (rangeC lo c k).length
    simp [rangeC]
  yld := fun i H' v H2 _ hi ⟨e2, ev⟩ => by
    have hk : i < k := by simpa [rangeC] using hi
    exact ⟨.int (lo + (i : Nat) * c), by simp [rangeC, hk], .inl e2, fun S _ _ => ev⟩
def itR3 (fa fb fc : SE) : SEs := fun ρ g => (fa ρ g).bind fun p => (fb ρ p.2).bind fun q => (fc ρ q.2).bind fun r => match p.1, q.1, r.1 with
  | .int i, .int j, .int c => if c ≠ 0 ∧ c.natAbs < 1073741824 ∧ Builtin.Range.small i j c = true ∧ Builtin.Range.rangeSize i j c ≤ 16777216 then .ok (rangeC i c (Builtin.Range.rangeSize i j c).toNat, r.2) else .bad
  | _, _, _ => .bad
section
variable {X : Cx} {F : Fx} {a b c tg : Expr} {fa fb fc : SE} {pos p : Pos}
theorem ii_r3 (xf : XF X F) (ha : PE X a (T F fa)) (hb : PE X b (T F fb)) (hc : PE X c (T F fc)) (hg : Gl X "range" := by rfl) (hs : starEach [a, b, c] X.env = (false, eval a X.env) :: starEach [b, c] X.env := by rfl) (hs2 : starEach [b, c] X.env = (false, eval b X.env) :: starEach [c] X.env := by rfl) (hs3 : starEach [c] X.env = (false, eval c X.env) :: starEach [] X.env := by rfl)
    (hpl : (backTo pos (starEach [b, c] X.env)).any (·.1) = false := by rfl) :
    PI X tg (.Call (.Name "range" p) [a, b, c] [] pos) (TIt F (itR3 fa fb fc)) :=
  (pi_range3 hg (by rw [xf.mg]; exact xf.range) (pa_cons ha (pa_cons hb (pa_cons hc pa_nil hs3) hs2) hs) hs hpl).imp fun σ H Q ⟨C, ρ, g, x, h⟩ => by
    refine ⟨C, ρ, g, x, ?_⟩
    unfold itR3 at h
    cases q : fa ρ g with
    | bad => rw [q] at h; exact h
    | exc c d g => rw [q] at h; exact h
    | ok p =>
      rw [q] at h
      simp only [Res.bind_ok] at h
      intro v H1 e1 x1 w1
      refine ⟨C, ρ, p.2, x1, ?_⟩
      cases q2 : fb ρ p.2 with
      | bad => rw [q2] at h; exact h
      | exc c d g => rw [q2] at h; exact h
      | ok p2 =>
        rw [q2] at h
        simp only [Res.bind_ok] at h
        intro u H2 e2 x2 w2
        refine ⟨C, ρ, p2.2, x2, ?_⟩
        cases q3 : fc ρ p2.2 with
        | bad => rw [q3] at h; exact h
        | exc c d g => rw [q3] at h; exact h
        | ok p3 =>
          rw [q3] at h
          simp only [Res.bind_ok] at h
          intro z H3 e3 x3 w3
          obtain ⟨d, g1⟩ := p
          obtain ⟨d2, g2⟩ := p2
          obtain ⟨d3, g3⟩ := p3
          cases d with
          | int i =>
            cases d2 with
            | int j =>
              cases d3 with
              | int c =>
                by_cases hb : c ≠ 0 ∧ c.natAbs < 1073741824 ∧ Builtin.Range.small i j c = true ∧ Builtin.Range.rangeSize i j c ≤ 16777216
                · simp only [if_pos hb] at h
                  obtain ⟨b1, b2, b3, b4⟩ := hb
                  exact ⟨i, j, c, _, by rw [show v = .int i from w1, show u = .int j from w2, show z = .int c from w3], ⟨b1, b2, b3, rangeSize_toNat i j c⟩, h _ H3 ((e1.trans e2).trans e3) x3 wk_rangeC (by rw [sizeLine_eq]; simp [rangeC]; omega)⟩
                · simp only [if_neg hb] at h
              | _ => exact h.elim
            | _ => cases d3 <;> exact h.elim
          | _ => cases d2 <;> cases d3 <;> exact h.elim
end
end RP
end L2
set_option Elab.async false
set_option linter.all false
set_option maxRecDepth 100000
set_option maxHeartbeats 0
namespace HdK
open PySem PySem.Spec PyProof.Rows L2
def top (i : Nat) : Stmt := PySem.Challenge.pw_fewgreys_k01_walks.main.body.getD i (.Pass ⟨0, 0, 0, 0⟩)
def inCls : Stmt → List Stmt
  | .ClassDef (body := b) .. => b
  | _ => []
def sub (i j : Nat) : Stmt := (inCls (top i)).getD j (.Pass ⟨0, 0, 0, 0⟩)
end HdK
set_option Elab.async false
set_option linter.all false
set_option maxRecDepth 100000
set_option maxHeartbeats 2000000
namespace L2
namespace RP
namespace GD
open PySem PySem.Spec PyProof.Rows HdK
def own_cls : List Str := ["Walk"]
def told_list : List (Str × Str) := [("BadSize", "size"), ("BadCells", "cells"), ("BadStarts", "starts"), ("BadTiles", "tiles"), ("BadWalk", "walk"), ("BadWindow", "window")]
def ref_names : List Str := ["BadSize", "BadCells", "BadStarts", "BadTiles", "BadWalk", "BadWindow"]
def exc_names : List Str := ["BadWalk", "BadSize", "BadCells", "BadStarts", "BadTiles", "BadWindow"]
structure ErrK (P : Program) (w : World) (K : PySem.W.Frag) (mg : Str → Option Value) (base : Heap) (k : Nat) (c : Str) : Prop where
  ex : ∃ (C fI : Addr) (fd : FuncData) (ps : List Str), mg c = some (.ref C) ∧ OexC K C ∧ PySem.W.findIn K (.ref C) "__init__" = some (some (.ref fI)) ∧ PySem.W.typeIn K (.ref fI) = some (.type "function") ∧ Binds K fd ps [] ∧
    FnOk P w K mg base (L2.CX P w) k fI fd ps (fun vs H Q _ => ∃ (a : Addr) (v : V), vs = [.ref a, v] ∧ H a = some (exo a C none) ∧ ∀ d, H d = none → d ≠ a → Q .non (upd (upd H d (exd d [(("value" : Str), v)])) a (exo a C (some d))))
theorem ErrK.to {X : Cx} {F : Fx} {k : Nat} {c : Str} (e : ErrK X.prog X.w F.K F.mg X.base k c) : ErrC X F k c := ⟨e.ex⟩
structure Env (P : Program) (w : World) (K : PySem.W.Frag) (mg : Str → Option Value) (base : Heap) : Prop where
  bi : Bi mg
  ia : IsA K mg own_cls
  ea : ExA K mg exc_names
  err : ∀ c, c ∈ exc_names → ErrK P w K mg base 1 c
  g_Walk : ∃ A, mg "Walk" = some (.ref A)
  cf_Walk_width : ∀ C, mg "Walk" = some (.ref C) → Cls K C ∧ NoAttr K C "width"
  cf_Walk_height : ∀ C, mg "Walk" = some (.ref C) → Cls K C ∧ NoAttr K C "height"
  cf_Walk_cells : ∀ C, mg "Walk" = some (.ref C) → Cls K C ∧ NoAttr K C "cells"
  cf_Walk_starts : ∀ C, mg "Walk" = some (.ref C) → Cls K C ∧ NoAttr K C "starts"
  v_MOST_SIDE : ∃ t, mg "MOST_SIDE" = some (.int 8 t)
section
variable {P : Program} {w : World} {K : PySem.W.Frag} {mg : Str → Option Value} {base : Heap} {T : List (Addr × Str)} {f : Addr} {fd : FuncData}
def s_is_integer : SS := sRet (vAnd (v1 (pureK1 (D.isBTd own_cls .int)) (bVar 0)) (vNot (v1 (pureK1 (D.isBTd own_cls .bool)) (bVar 0))))
def f_is_integer : FS := runF 1 s_is_integer
theorem sc_is_integer : FnScope ["thing"] ["thing"] (defScope (top 1)) := ⟨rfl, rfl, rfl, by decide +kernel, rfl, by decide +kernel, by decide +kernel⟩
theorem c_is_integer (E : Env P w K mg base) (hm : mg "is_integer" = some (.ref f)) (Fd : FunD K "is_integer" "is_integer" (defArgs (top 1)) (defBody (top 1)) (defScope (top 1)) [] [] f fd)  : Cal P w K mg base T 1 "is_integer" 1 f_is_integer := by
  refine ⟨f, fd, ["thing"], hm, ?_, Fd.kp, Fd.bindsN fun _ _ _ _ _ _ us hl => match us, hl with | [_], _ => rfl⟩
  refine fn_ok Fd sc_is_integer E.bi rfl rfl (by decide) (fun F cdv A outer s H e1 e2 e3 hr xf => ?_)
  subst e1 e2 e3
  exact ss_one (ss_ret (ve_and xf.K (ve_isBT .int xf E.ia (be_var) rfl (hm := xf.int) (hv := by decide +kernel)) (ve_one (ve_not xf.K (L2.PE.look (ve_isBT .bool xf E.ia (be_var) rfl (hm := xf.bool) (hv := by decide +kernel)))))))
def s_is_within : SS := sRet (vAnd (vCall f_is_integer (aCons (vVar 0) (aNil))) (vChain (fun i j => decide (i ≤ j)) (fun i j => decide (i ≤ j)) (bVar 1) (bVar 0) (bVar 2)))
def f_is_within : FS := runF 3 s_is_within
theorem sc_is_within : FnScope ["thing", "least", "most"] ["thing", "least", "most"] (defScope (top 2)) := ⟨rfl, rfl, rfl, by decide +kernel, rfl, by decide +kernel, by decide +kernel⟩
theorem c_is_within (E : Env P w K mg base) (hm : mg "is_within" = some (.ref f)) (Fd : FunD K "is_within" "is_within" (defArgs (top 2)) (defBody (top 2)) (defScope (top 2)) [] [] f fd) (c_is_integer : Cal P w K mg base T 1 "is_integer" 1 f_is_integer) : Cal P w K mg base T 2 "is_within" 3 f_is_within := by
  refine ⟨f, fd, ["thing", "least", "most"], hm, ?_, Fd.kp, Fd.bindsN fun _ _ _ _ _ _ us hl => match us, hl with | [_, _, _], _ => rfl⟩
  refine fn_ok Fd sc_is_within E.bi rfl rfl (by decide) (fun F cdv A outer s H e1 e2 e3 hr xf => ?_)
  subst e1 e2 e3
  exact ss_one (ss_ret (ve_and xf.K (ve_call xf c_is_integer hr (by decide) (aa_cons (ve_var) (aa_nil)) (hl := len_cons (len_nil))) (ve_one (PV.pe (cv_chain op_le op_le (be_var) (be_var) (be_var))))))
def s_is_row : SS := sRet (v1 (pureK1 (D.isBT2 own_cls .list .tuple)) (bVar 0))
def f_is_row : FS := runF 1 s_is_row
theorem sc_is_row : FnScope ["thing"] ["thing"] (defScope (top 3)) := ⟨rfl, rfl, rfl, by decide +kernel, rfl, by decide +kernel, by decide +kernel⟩
theorem c_is_row (E : Env P w K mg base) (hm : mg "is_row" = some (.ref f)) (Fd : FunD K "is_row" "is_row" (defArgs (top 3)) (defBody (top 3)) (defScope (top 3)) [] [] f fd)  : Cal P w K mg base T 1 "is_row" 1 f_is_row := by
  refine ⟨f, fd, ["thing"], hm, ?_, Fd.kp, Fd.bindsN fun _ _ _ _ _ _ us hl => match us, hl with | [_], _ => rfl⟩
  refine fn_ok Fd sc_is_row E.bi rfl rfl (by decide) (fun F cdv A outer s H e1 e2 e3 hr xf => ?_)
  subst e1 e2 e3
  exact ss_one (ss_ret (ve_isBT2 .list .tuple xf E.ia (be_var) (hm := xf.list) (hm2 := xf.tuple) (hv := by decide +kernel) (hv2 := by decide +kernel)))
def s_is_tuple_of : SS := sRet (vAnd (v1 (pureK1 (D.isBTd own_cls .tuple)) (bVar 0)) (v2 (pureK2 D.eqD) (v1 (pureK1 D.len) (bVar 0)) (bVar 1)))
def f_is_tuple_of : FS := runF 2 s_is_tuple_of
theorem sc_is_tuple_of : FnScope ["thing", "many"] ["thing", "many"] (defScope (top 4)) := ⟨rfl, rfl, rfl, by decide +kernel, rfl, by decide +kernel, by decide +kernel⟩
theorem c_is_tuple_of (E : Env P w K mg base) (hm : mg "is_tuple_of" = some (.ref f)) (Fd : FunD K "is_tuple_of" "is_tuple_of" (defArgs (top 4)) (defBody (top 4)) (defScope (top 4)) [] [] f fd)  : Cal P w K mg base T 1 "is_tuple_of" 2 f_is_tuple_of := by
  refine ⟨f, fd, ["thing", "many"], hm, ?_, Fd.kp, Fd.bindsN fun _ _ _ _ _ _ us hl => match us, hl with | [_, _], _ => rfl⟩
  refine fn_ok Fd sc_is_tuple_of E.bi rfl rfl (by decide) (fun F cdv A outer s H e1 e2 e3 hr xf => ?_)
  subst e1 e2 e3
  exact ss_one (ss_ret (ve_and xf.K (ve_isBT .tuple xf E.ia (be_var) rfl (hm := xf.tuple) (hv := by decide +kernel)) (ve_one (PV.pe (cv_eq xf.K (Nat.lt_of_le_of_lt (Nat.add_le_add_left (by decide) _) xf.u) (L2.PE.look (ve_len xf (be_var))) (be_var))))))
def s_is_cell : SS := sRet (vAnd (vCall f_is_tuple_of (aCons (vVar 2) (aCons (vC (.int 2)) (aNil)))) (vAnd (vCall f_is_within (aCons (v2 (pureK2 D.ix) (bVar 2) (vC (.int 0))) (aCons (vC (.int 0)) (aCons (v2 (pureK2 D.sub) (bVar 0) (vC (.int 1))) (aNil))))) (vCall f_is_within (aCons (v2 (pureK2 D.ix) (bVar 2) (vC (.int 1))) (aCons (vC (.int 0)) (aCons (v2 (pureK2 D.sub) (bVar 1) (vC (.int 1))) (aNil)))))))
def f_is_cell : FS := runF 3 s_is_cell
theorem sc_is_cell : FnScope ["width", "height", "thing"] ["width", "height", "thing"] (defScope (top 16)) := ⟨rfl, rfl, rfl, by decide +kernel, rfl, by decide +kernel, by decide +kernel⟩
theorem c_is_cell (E : Env P w K mg base) (hm : mg "is_cell" = some (.ref f)) (Fd : FunD K "is_cell" "is_cell" (defArgs (top 16)) (defBody (top 16)) (defScope (top 16)) [] [] f fd) (c_is_tuple_of : Cal P w K mg base T 1 "is_tuple_of" 2 f_is_tuple_of) (c_is_within : Cal P w K mg base T 2 "is_within" 3 f_is_within) : Cal P w K mg base T 3 "is_cell" 3 f_is_cell := by
  refine ⟨f, fd, ["width", "height", "thing"], hm, ?_, Fd.kp, Fd.bindsN fun _ _ _ _ _ _ us hl => match us, hl with | [_, _, _], _ => rfl⟩
  refine fn_ok Fd sc_is_cell E.bi rfl rfl (by decide) (fun F cdv A outer s H e1 e2 e3 hr xf => ?_)
  subst e1 e2 e3
  exact ss_one (ss_ret (ve_and xf.K (ve_call xf c_is_tuple_of hr (by decide) (aa_cons (ve_var) (aa_cons (ve_int) (aa_nil))) (hl := len_cons (len_cons (len_nil)))) (ve_and xf.K (ve_call xf c_is_within hr (by decide) (aa_cons (ve_ix xf (be_var) (L2.PE.look (ve_int))) (aa_cons (ve_int) (aa_cons (ve_sub (be_var) (L2.PE.look (ve_int))) (aa_nil)))) (hl := len_cons (len_cons (len_cons (len_nil))))) (ve_one (ve_call xf c_is_within hr (by decide) (aa_cons (ve_ix xf (be_var) (L2.PE.look (ve_int))) (aa_cons (ve_int) (aa_cons (ve_sub (be_var) (L2.PE.look (ve_int))) (aa_nil)))) (hl := len_cons (len_cons (len_cons (len_nil)))))))))
def s_check_size : SS := sFor (itSeq (vTup (aCons (vVar 0) (aCons (vVar 1) (aNil))))) (tgN 2) (sIf (vNot (vCall f_is_within (aCons (vVar 2) (aCons (vC (.int 1)) (aCons (vC (.int 8)) (aNil)))))) (sRaise "BadSize" (vVar 2)) (sNil))
def f_check_size : FS := runF 3 s_check_size
theorem sc_check_size : FnScope ["width", "height", "side"] ["width", "height"] (defScope (top 17)) := ⟨rfl, rfl, rfl, by decide +kernel, rfl, by decide +kernel, by decide +kernel⟩
theorem c_check_size (E : Env P w K mg base) (hm : mg "check_size" = some (.ref f)) (Fd : FunD K "check_size" "check_size" (defArgs (top 17)) (defBody (top 17)) (defScope (top 17)) [] [] f fd) (c_is_within : Cal P w K mg base T 2 "is_within" 3 f_is_within) : Cal P w K mg base T 3 "check_size" 2 f_check_size := by
  obtain ⟨_, h_MOST_SIDE⟩ := E.v_MOST_SIDE
  refine ⟨f, fd, ["width", "height"], hm, ?_, Fd.kp, Fd.bindsN fun _ _ _ _ _ _ us hl => match us, hl with | [_, _], _ => rfl⟩
  refine fn_ok Fd sc_check_size E.bi rfl rfl (by decide) (fun F cdv A outer s H e1 e2 e3 hr xf => ?_)
  subst e1 e2 e3
  exact ss_one (ss_for xf (ii_seq xf (ve_tup (aa_cons (ve_var) (aa_cons (ve_var) (aa_nil))))) (tg_n xf) (ss_one (ss_if (tq_not (L2.PE.tq xf.K (L2.PE.look (ve_call xf c_is_within hr (by decide) (aa_cons (ve_var) (aa_cons (ve_int) (aa_cons (ve_num xf.mg h_MOST_SIDE) (aa_nil)))) (hl := len_cons (len_cons (len_cons (len_nil)))))))) (ss_one (ss_raise xf (ErrK.to (E.err "BadSize" (by decide))) hr (by decide) (ve_var))) (ss_nil))))
def s_check_walk : SS := sIf (vNot (v1 (pureK1 (D.isOwnd own_cls "Walk")) (bVar 0))) (sRaise "BadWalk" (vVar 0)) (sNil)
def f_check_walk : FS := runF 1 s_check_walk
theorem sc_check_walk : FnScope ["walk"] ["walk"] (defScope (top 18)) := ⟨rfl, rfl, rfl, by decide +kernel, rfl, by decide +kernel, by decide +kernel⟩
theorem c_check_walk (E : Env P w K mg base) (hm : mg "check_walk" = some (.ref f)) (Fd : FunD K "check_walk" "check_walk" (defArgs (top 18)) (defBody (top 18)) (defScope (top 18)) [] [] f fd)  : Cal P w K mg base T 3 "check_walk" 1 f_check_walk := by
  refine ⟨f, fd, ["walk"], hm, ?_, Fd.kp, Fd.bindsN fun _ _ _ _ _ _ us hl => match us, hl with | [_], _ => rfl⟩
  refine fn_ok Fd sc_check_walk E.bi rfl rfl (by decide) (fun F cdv A outer s H e1 e2 e3 hr xf => ?_)
  subst e1 e2 e3
  exact ss_one (ss_if (tq_not (L2.PE.tq xf.K (L2.PE.look (ve_isOwn xf E.ia (be_var) (by decide) E.g_Walk)))) (ss_one (ss_raise xf (ErrK.to (E.err "BadWalk" (by decide))) hr (by decide) (ve_var))) (ss_nil))
def s_is_window : SS := sSeq (sExpr (vCall f_check_walk (aCons (vVar 0) (aNil)))) (sSeq (sIf (vOr (vNot (vCall f_is_tuple_of (aCons (vVar 1) (aCons (vC (.int 4)) (aNil))))) (vNot (vCall f_is_cell (aCons (v1 (pureK1 (D.fld "Walk" "width")) (bVar 0)) (aCons (v1 (pureK1 (D.fld "Walk" "height")) (bVar 0)) (aCons (vSl (bVar 1) (sN) (sS (vC (.int 2)))) (aNil))))))) (sRet (vC (.bl false))) (sNil)) (sRet (vAnd (vCall f_is_within (aCons (v2 (pureK2 D.ix) (bVar 1) (vC (.int 2))) (aCons (vC (.int 1)) (aCons (v2 (pureK2 D.sub) (v1 (pureK1 (D.fld "Walk" "width")) (bVar 0)) (v2 (pureK2 D.ix) (bVar 1) (vC (.int 0)))) (aNil))))) (vCall f_is_within (aCons (v2 (pureK2 D.ix) (bVar 1) (vC (.int 3))) (aCons (vC (.int 1)) (aCons (v2 (pureK2 D.sub) (v1 (pureK1 (D.fld "Walk" "height")) (bVar 0)) (v2 (pureK2 D.ix) (bVar 1) (vC (.int 1)))) (aNil))))))))
def f_is_window : FS := runF 2 s_is_window
theorem sc_is_window : FnScope ["walk", "thing"] ["walk", "thing"] (defScope (top 19)) := ⟨rfl, rfl, rfl, by decide +kernel, rfl, by decide +kernel, by decide +kernel⟩
theorem c_is_window (E : Env P w K mg base) (hm : mg "is_window" = some (.ref f)) (Fd : FunD K "is_window" "is_window" (defArgs (top 19)) (defBody (top 19)) (defScope (top 19)) [] [] f fd) (c_check_walk : Cal P w K mg base T 3 "check_walk" 1 f_check_walk) (c_is_tuple_of : Cal P w K mg base T 1 "is_tuple_of" 2 f_is_tuple_of) (c_is_cell : Cal P w K mg base T 3 "is_cell" 3 f_is_cell) (c_is_within : Cal P w K mg base T 2 "is_within" 3 f_is_within) : Cal P w K mg base T 4 "is_window" 2 f_is_window := by
  have cf_Walk_height := E.cf_Walk_height
  have cf_Walk_width := E.cf_Walk_width
  refine ⟨f, fd, ["walk", "thing"], hm, ?_, Fd.kp, Fd.bindsN fun _ _ _ _ _ _ us hl => match us, hl with | [_, _], _ => rfl⟩
  refine fn_ok Fd sc_is_window E.bi rfl rfl (by decide) (fun F cdv A outer s H e1 e2 e3 hr xf => ?_)
  subst e1 e2 e3
  exact ss_cons (ss_expr (ve_call xf c_check_walk hr (by decide) (aa_cons (ve_var) (aa_nil)) (hl := len_cons (len_nil)))) (ss_cons (ss_if (PWQ.tq (wq_or (tq_not (L2.PE.tq xf.K (L2.PE.look (ve_call xf c_is_tuple_of hr (by decide) (aa_cons (ve_var) (aa_cons (ve_int) (aa_nil))) (hl := len_cons (len_cons (len_nil))))))) (wq_or1 (tq_not (L2.PE.tq xf.K (L2.PE.look (ve_call xf c_is_cell hr (by decide) (aa_cons (ve_fld xf cf_Walk_width (be_var)) (aa_cons (ve_fld xf cf_Walk_height (be_var)) (aa_cons (ve_slice xf (be_var) (pt_n) (pt_s (L2.PE.look (ve_int)))) (aa_nil)))) (hl := len_cons (len_cons (len_cons (len_nil))))))))))) (ss_one (ss_ret (ve_bl))) (ss_nil)) (ss_one (ss_ret (ve_and xf.K (ve_call xf c_is_within hr (by decide) (aa_cons (ve_ix xf (be_var) (L2.PE.look (ve_int))) (aa_cons (ve_int) (aa_cons (ve_sub (L2.PE.look (ve_fld xf cf_Walk_width (be_var))) (L2.PE.look (ve_ix xf (be_var) (L2.PE.look (ve_int))))) (aa_nil)))) (hl := len_cons (len_cons (len_cons (len_nil))))) (ve_one (ve_call xf c_is_within hr (by decide) (aa_cons (ve_ix xf (be_var) (L2.PE.look (ve_int))) (aa_cons (ve_int) (aa_cons (ve_sub (L2.PE.look (ve_fld xf cf_Walk_height (be_var))) (L2.PE.look (ve_ix xf (be_var) (L2.PE.look (ve_int))))) (aa_nil)))) (hl := len_cons (len_cons (len_cons (len_nil))))))))))
def s_check_window : SS := sIf (vNot (vCall f_is_window (aCons (vVar 0) (aCons (vVar 1) (aNil))))) (sRaise "BadWindow" (vVar 1)) (sNil)
def f_check_window : FS := runF 2 s_check_window
theorem sc_check_window : FnScope ["walk", "window"] ["walk", "window"] (defScope (top 20)) := ⟨rfl, rfl, rfl, by decide +kernel, rfl, by decide +kernel, by decide +kernel⟩
theorem c_check_window (E : Env P w K mg base) (hm : mg "check_window" = some (.ref f)) (Fd : FunD K "check_window" "check_window" (defArgs (top 20)) (defBody (top 20)) (defScope (top 20)) [] [] f fd) (c_is_window : Cal P w K mg base T 4 "is_window" 2 f_is_window) : Cal P w K mg base T 5 "check_window" 2 f_check_window := by
  refine ⟨f, fd, ["walk", "window"], hm, ?_, Fd.kp, Fd.bindsN fun _ _ _ _ _ _ us hl => match us, hl with | [_, _], _ => rfl⟩
  refine fn_ok Fd sc_check_window E.bi rfl rfl (by decide) (fun F cdv A outer s H e1 e2 e3 hr xf => ?_)
  subst e1 e2 e3
  exact ss_one (ss_if (tq_not (L2.PE.tq xf.K (L2.PE.look (ve_call xf c_is_window hr (by decide) (aa_cons (ve_var) (aa_cons (ve_var) (aa_nil))) (hl := len_cons (len_cons (len_nil))))))) (ss_one (ss_raise xf (ErrK.to (E.err "BadWindow" (by decide))) hr (by decide) (ve_var))) (ss_nil))
def s_is_inside : SS := sRet (vAnd (vChain (fun i j => decide (i ≤ j)) (fun i j => decide (i < j)) (vC (.int 0)) (v2 (pureK2 D.sub) (v2 (pureK2 D.ix) (bVar 1) (vC (.int 0))) (v2 (pureK2 D.ix) (bVar 0) (vC (.int 0)))) (v2 (pureK2 D.ix) (bVar 0) (vC (.int 2)))) (vChain (fun i j => decide (i ≤ j)) (fun i j => decide (i < j)) (vC (.int 0)) (v2 (pureK2 D.sub) (v2 (pureK2 D.ix) (bVar 1) (vC (.int 1))) (v2 (pureK2 D.ix) (bVar 0) (vC (.int 1)))) (v2 (pureK2 D.ix) (bVar 0) (vC (.int 3)))))
def f_is_inside : FS := runF 2 s_is_inside
theorem sc_is_inside : FnScope ["window", "cell"] ["window", "cell"] (defScope (top 21)) := ⟨rfl, rfl, rfl, by decide +kernel, rfl, by decide +kernel, by decide +kernel⟩
theorem c_is_inside (E : Env P w K mg base) (hm : mg "is_inside" = some (.ref f)) (Fd : FunD K "is_inside" "is_inside" (defArgs (top 21)) (defBody (top 21)) (defScope (top 21)) [] [] f fd)  : Cal P w K mg base T 1 "is_inside" 2 f_is_inside := by
  refine ⟨f, fd, ["window", "cell"], hm, ?_, Fd.kp, Fd.bindsN fun _ _ _ _ _ _ us hl => match us, hl with | [_, _], _ => rfl⟩
  refine fn_ok Fd sc_is_inside E.bi rfl rfl (by decide) (fun F cdv A outer s H e1 e2 e3 hr xf => ?_)
  subst e1 e2 e3
  exact ss_one (ss_ret (ve_and xf.K (PV.pe (cv_chain op_le op_lt (L2.PE.look (ve_int)) (L2.PE.look (ve_sub (L2.PE.look (ve_ix xf (be_var) (L2.PE.look (ve_int)))) (L2.PE.look (ve_ix xf (be_var) (L2.PE.look (ve_int)))))) (L2.PE.look (ve_ix xf (be_var) (L2.PE.look (ve_int)))))) (ve_one (PV.pe (cv_chain op_le op_lt (L2.PE.look (ve_int)) (L2.PE.look (ve_sub (L2.PE.look (ve_ix xf (be_var) (L2.PE.look (ve_int)))) (L2.PE.look (ve_ix xf (be_var) (L2.PE.look (ve_int)))))) (L2.PE.look (ve_ix xf (be_var) (L2.PE.look (ve_int)))))))))
def s_windows_of : SS := sSeq (sExpr (vCall f_check_walk (aCons (vVar 0) (aNil)))) (sSeq (sIf (vNot (vCall f_is_within (aCons (vVar 1) (aCons (vC (.int 1)) (aCons (v1 (pureK1 (D.fld "Walk" "width")) (bVar 0)) (aNil)))))) (sRaise "BadSize" (vVar 1)) (sNil)) (sSeq (sIf (vNot (vCall f_is_within (aCons (vVar 2) (aCons (vC (.int 1)) (aCons (v1 (pureK1 (D.fld "Walk" "height")) (bVar 0)) (aNil)))))) (sRaise "BadSize" (vVar 2)) (sNil)) (sSeq (sOwn 3 (vLst (aNil))) (sSeq (sFor (itR1 (v2 (pureK2 D.add) (v2 (pureK2 D.sub) (v1 (pureK1 (D.fld "Walk" "height")) (bVar 0)) (bVar 2)) (vC (.int 1)))) (tgN 4) (sExt 3 (vComp (itR1 (v2 (pureK2 D.add) (v2 (pureK2 D.sub) (v1 (pureK1 (D.fld "Walk" "width")) (bVar 0)) (bVar 1)) (vC (.int 1)))) (tgN 5) (List.map (·.2) ([("column", 5)] : List (Str × Nat))) (vC (.bl true)) (vTup (aCons (vVar 5) (aCons (vVar 4) (aCons (vVar 1) (aCons (vVar 2) (aNil))))))))) (sFz 3 (sRet (vVar 3)))))))
def f_windows_of : FS := runF 6 s_windows_of
theorem sc_windows_of : FnScope ["walk", "width", "height", "found", "row", "column"] ["walk", "width", "height"] (defScope (top 22)) := ⟨rfl, rfl, rfl, by decide +kernel, rfl, by decide +kernel, by decide +kernel⟩
theorem c_windows_of (E : Env P w K mg base) (hm : mg "windows_of" = some (.ref f)) (Fd : FunD K "windows_of" "windows_of" (defArgs (top 22)) (defBody (top 22)) (defScope (top 22)) [] [] f fd) (c_check_walk : Cal P w K mg base T 3 "check_walk" 1 f_check_walk) (c_is_within : Cal P w K mg base T 2 "is_within" 3 f_is_within) : Cal P w K mg base T 4 "windows_of" 3 f_windows_of := by
  have cf_Walk_width := E.cf_Walk_width
  have cf_Walk_height := E.cf_Walk_height
  refine ⟨f, fd, ["walk", "width", "height"], hm, ?_, Fd.kp, Fd.bindsN fun _ _ _ _ _ _ us hl => match us, hl with | [_, _, _], _ => rfl⟩
  refine fn_ok Fd sc_windows_of E.bi rfl rfl (by decide) (fun F cdv A outer s H e1 e2 e3 hr xf => ?_)
  subst e1 e2 e3
  exact ss_cons (ss_expr (ve_call xf c_check_walk hr (by decide) (aa_cons (ve_var) (aa_nil)) (hl := len_cons (len_nil)))) (ss_cons (ss_if (tq_not (L2.PE.tq xf.K (L2.PE.look (ve_call xf c_is_within hr (by decide) (aa_cons (ve_var) (aa_cons (ve_int) (aa_cons (ve_fld xf cf_Walk_width (be_var)) (aa_nil)))) (hl := len_cons (len_cons (len_cons (len_nil)))))))) (ss_one (ss_raise xf (ErrK.to (E.err "BadSize" (by decide))) hr (by decide) (ve_var))) (ss_nil)) (ss_cons (ss_if (tq_not (L2.PE.tq xf.K (L2.PE.look (ve_call xf c_is_within hr (by decide) (aa_cons (ve_var) (aa_cons (ve_int) (aa_cons (ve_fld xf cf_Walk_height (be_var)) (aa_nil)))) (hl := len_cons (len_cons (len_cons (len_nil)))))))) (ss_one (ss_raise xf (ErrK.to (E.err "BadSize" (by decide))) hr (by decide) (ve_var))) (ss_nil)) (ss_cons (ss_own xf (vo_lst (aa_nil))) (ss_cons (ss_for xf (ii_r1 xf (ve_add xf.K (L2.PE.look (ve_sub (L2.PE.look (ve_fld xf cf_Walk_height (be_var))) (be_var))) (L2.PE.look (ve_int)))) (tg_n xf) (ss_one (ss_ext (L2.PE.keep (vo_comp xf (ii_r1 xf (ve_add xf.K (L2.PE.look (ve_sub (L2.PE.look (ve_fld xf cf_Walk_width (be_var))) (be_var))) (L2.PE.look (ve_int)))) (own := [("column", 5)]) (blkOk_by (by rfl)) (fun s H C cl fp xf => tg_n xf) (fun s H C cl fp xf => tq_none) (fun s H C cl fp xf => ve_tup (aa_cons (ve_var) (aa_cons (ve_var) (aa_cons (ve_var) (aa_cons (ve_var) (aa_nil)))))))) xf))) (ss_one (ss_fz 3 (ss_ret (ve_var))))))))
def s_pieces_of : SS := sSeq (sExpr (vCall f_check_window (aCons (vVar 0) (aCons (vVar 1) (aNil))))) (sSeq (sOwn 2 (vLst (aNil))) (sSeq (sFor (itEnum (v1 (pureK1 (D.fld "Walk" "cells")) (bVar 0))) (tgT 2 (tgsCons (tgN 3) (tgsCons (tgN 4) (tgsNil)))) (sIf (vCall f_is_inside (aCons (vVar 1) (aCons (vVar 4) (aNil)))) (sIf (vAnd (bVar 2) (vAnd (v2 (pureK2 D.eqD) (v2 (pureK2 D.ix) (v2 (pureK2 D.ix) (bVar 2) (v1 (pureK1 D.neg) (vC (.int 1)))) (vC (.int 1))) (v2 (pureK2 D.sub) (bVar 3) (vC (.int 1)))) (v2 (pureK2 D.notInD) (bVar 3) (v1 (pureK1 (D.fld "Walk" "starts")) (bVar 0))))) (sPut 2 (v1 (pureK1 D.neg) (vC (.int 1))) (vTup (aCons (v2 (pureK2 D.ix) (v2 (pureK2 D.ix) (bVar 2) (v1 (pureK1 D.neg) (vC (.int 1)))) (vC (.int 0))) (aCons (vVar 3) (aNil))))) (sApp 2 (vTup (aCons (vVar 3) (aCons (vVar 3) (aNil)))))) (sNil))) (sFz 2 (sRet (vVar 2)))))
def f_pieces_of : FS := runF 5 s_pieces_of
theorem sc_pieces_of : FnScope ["walk", "window", "found", "place", "cell"] ["walk", "window"] (defScope (top 23)) := ⟨rfl, rfl, rfl, by decide +kernel, rfl, by decide +kernel, by decide +kernel⟩
theorem c_pieces_of (E : Env P w K mg base) (hm : mg "pieces_of" = some (.ref f)) (Fd : FunD K "pieces_of" "pieces_of" (defArgs (top 23)) (defBody (top 23)) (defScope (top 23)) [] [] f fd) (c_check_window : Cal P w K mg base T 5 "check_window" 2 f_check_window) (c_is_inside : Cal P w K mg base T 1 "is_inside" 2 f_is_inside) : Cal P w K mg base T 6 "pieces_of" 2 f_pieces_of := by
  have cf_Walk_cells := E.cf_Walk_cells
  have cf_Walk_starts := E.cf_Walk_starts
  refine ⟨f, fd, ["walk", "window"], hm, ?_, Fd.kp, Fd.bindsN fun _ _ _ _ _ _ us hl => match us, hl with | [_, _], _ => rfl⟩
  refine fn_ok Fd sc_pieces_of E.bi rfl rfl (by decide) (fun F cdv A outer s H e1 e2 e3 hr xf => ?_)
  subst e1 e2 e3
  exact ss_cons (ss_expr (ve_call xf c_check_window hr (by decide) (aa_cons (ve_var) (aa_cons (ve_var) (aa_nil))) (hl := len_cons (len_cons (len_nil))))) (ss_cons (ss_own xf (vo_lst (aa_nil))) (ss_cons (ss_for xf (ii_enum xf (ve_fld xf cf_Walk_cells (be_var))) (tg_t xf (tgs_cons (tg_n xf) (tgs_cons (tg_n xf) (tgs_nil)))) (ss_one (ss_if (L2.PE.tq xf.K (L2.PE.look (ve_call xf c_is_inside hr (by decide) (aa_cons (ve_var) (aa_cons (ve_var) (aa_nil))) (hl := len_cons (len_cons (len_nil)))))) (ss_one (ss_if (PWQ.tq (wq_and (L2.PE.tq xf.K (be_var)) (wq_and (PV.tq (cv_eq xf.K (Nat.lt_of_le_of_lt (Nat.add_le_add_left (by decide) _) xf.u) (L2.PE.look (ve_ix xf (L2.PE.look (ve_ix xf (be_var) (L2.PE.look (ve_neg (L2.PE.look (ve_int)))))) (L2.PE.look (ve_int)))) (L2.PE.look (ve_sub (be_var) (L2.PE.look (ve_int))))) bl_eq) (wq_and1 (PV.tq (cv_notin xf (be_var) (L2.PE.look (ve_fld xf cf_Walk_starts (be_var)))) bl_notin))))) (ss_one (ss_put xf (ve_neg (L2.PE.look (ve_int))) (ve_tup (aa_cons (ve_ix xf (L2.PE.look (ve_ix xf (be_var) (L2.PE.look (ve_neg (L2.PE.look (ve_int)))))) (L2.PE.look (ve_int))) (aa_cons (ve_var) (aa_nil)))))) (ss_one (ss_app (ve_tup (aa_cons (ve_var) (aa_cons (ve_var) (aa_nil)))) xf)))) (ss_nil)))) (ss_one (ss_fz 2 (ss_ret (ve_var))))))
def s_runs_of : SS := sSeq (sExpr (vCall f_check_walk (aCons (vVar 0) (aNil)))) (sSeq (sSet 1 (v2 (pureK2 D.add) (v1 (pureK1 D.listD) (vSl (v1 (pureK1 (D.fld "Walk" "starts")) (bVar 0)) (sS (vC (.int 1))) (sN))) (vLst (aCons (v1 (pureK1 D.len) (v1 (pureK1 (D.fld "Walk" "cells")) (bVar 0))) (aNil))))) (sRet (vComp (itZip (v1 (pureK1 (D.fld "Walk" "starts")) (bVar 0)) (vVar 1)) (tgT 2 (tgsCons (tgN 2) (tgsCons (tgN 3) (tgsNil)))) (List.map (·.2) ([("start", 2), ("end", 3)] : List (Str × Nat))) (vC (.bl true)) (vTup (aCons (vVar 2) (aCons (v2 (pureK2 D.sub) (bVar 3) (vC (.int 1))) (aNil)))))))
def f_runs_of : FS := runF 4 s_runs_of
theorem sc_runs_of : FnScope ["walk", "ends", "start", "end"] ["walk"] (defScope (top 24)) := ⟨rfl, rfl, rfl, by decide +kernel, rfl, by decide +kernel, by decide +kernel⟩
theorem c_runs_of (E : Env P w K mg base) (hm : mg "runs_of" = some (.ref f)) (Fd : FunD K "runs_of" "runs_of" (defArgs (top 24)) (defBody (top 24)) (defScope (top 24)) [] [] f fd) (c_check_walk : Cal P w K mg base T 3 "check_walk" 1 f_check_walk) : Cal P w K mg base T 4 "runs_of" 1 f_runs_of := by
  have cf_Walk_starts := E.cf_Walk_starts
  have cf_Walk_cells := E.cf_Walk_cells
  refine ⟨f, fd, ["walk"], hm, ?_, Fd.kp, Fd.bindsN fun _ _ _ _ _ _ us hl => match us, hl with | [_], _ => rfl⟩
  refine fn_ok Fd sc_runs_of E.bi rfl rfl (by decide) (fun F cdv A outer s H e1 e2 e3 hr xf => ?_)
  subst e1 e2 e3
  exact ss_cons (ss_expr (ve_call xf c_check_walk hr (by decide) (aa_cons (ve_var) (aa_nil)) (hl := len_cons (len_nil)))) (ss_cons (ss_set xf (ve_add xf.K (L2.PE.look (L2.PE.keep (vo_list xf (L2.PE.look (ve_slice xf (L2.PE.look (ve_fld xf cf_Walk_starts (be_var))) (pt_s (L2.PE.look (ve_int))) (pt_n)))))) (L2.PE.look (L2.PE.keep (vo_lst (aa_cons (ve_len xf (L2.PE.look (ve_fld xf cf_Walk_cells (be_var)))) (aa_nil))))))) (ss_one (ss_ret (L2.PE.keep (vo_comp xf (ii_zip xf (ve_fld xf cf_Walk_starts (be_var)) (ve_var)) (own := [("start", 2), ("end", 3)]) (blkOk_by (by rfl)) (fun s H C cl fp xf => tg_t xf (tgs_cons (tg_n xf) (tgs_cons (tg_n xf) (tgs_nil)))) (fun s H C cl fp xf => tq_none) (fun s H C cl fp xf => ve_tup (aa_cons (ve_var) (aa_cons (ve_sub (be_var) (L2.PE.look (ve_int))) (aa_nil)))))))))
def s_lines_of : SS := sSeq (sOwn 3 (vLst (aNil))) (sSeq (sFor (itR1 (vVar 1)) (tgN 4) (sSeq (sSet 5 (vComp (itR1 (vVar 0)) (tgN 6) (List.map (·.2) ([("column", 6)] : List (Str × Nat))) (vC (.bl true)) (vTup (aCons (vVar 6) (aCons (vVar 4) (aNil)))))) (sExt 3 (vIf (vAnd (bVar 2) (v2 (pureK2 D.eqD) (v2 (pureK2 D.mod) (bVar 4) (vC (.int 2))) (vC (.int 1)))) (v1 (pureK1 D.revD) (bVar 5)) (vVar 5))))) (sFz 3 (sRet (vVar 3))))
def f_lines_of : FS := runF 7 s_lines_of
theorem sc_lines_of : FnScope ["width", "height", "is_turning", "found", "row", "line", "column"] ["width", "height", "is_turning"] (defScope (top 25)) := ⟨rfl, rfl, rfl, by decide +kernel, rfl, by decide +kernel, by decide +kernel⟩
theorem c_lines_of (E : Env P w K mg base) (hm : mg "lines_of" = some (.ref f)) (Fd : FunD K "lines_of" "lines_of" (defArgs (top 25)) (defBody (top 25)) (defScope (top 25)) [] [] f fd)  : Cal P w K mg base T 1 "lines_of" 3 f_lines_of := by
  refine ⟨f, fd, ["width", "height", "is_turning"], hm, ?_, Fd.kp, Fd.bindsN fun _ _ _ _ _ _ us hl => match us, hl with | [_, _, _], _ => rfl⟩
  refine fn_ok Fd sc_lines_of E.bi rfl rfl (by decide) (fun F cdv A outer s H e1 e2 e3 hr xf => ?_)
  subst e1 e2 e3
  exact ss_cons (ss_own xf (vo_lst (aa_nil))) (ss_cons (ss_for xf (ii_r1 xf (ve_var)) (tg_n xf) (ss_cons (ss_setC xf (ii_r1 xf (ve_var)) (own := [("column", 6)]) (blkOk_by (by rfl)) (fun s H C cl fp xf => tg_n xf) (fun s H C cl fp xf => tq_none) (fun s H C cl fp xf => ve_tup (aa_cons (ve_var) (aa_cons (ve_var) (aa_nil))))) (ss_one (ss_ext (ve_if (PWQ.tq (wq_and (L2.PE.tq xf.K (be_var)) (wq_and1 (PV.tq (cv_eq xf.K (Nat.lt_of_le_of_lt (Nat.add_le_add_left (by decide) _) xf.u) (L2.PE.look (ve_mod (be_var) (L2.PE.look (ve_int)))) (L2.PE.look (ve_int))) bl_eq)))) (L2.PE.keep (vo_rev xf (be_var))) (ve_var)) xf)))) (ss_one (ss_fz 3 (ss_ret (ve_var)))))
def s__law_taken : SS := sSeq (sIf (v2 (pureK2 D.gtD) (vRow 0 3) (vC (.int 0))) (sSeq (sSet 2 (v2 (pureK2 D.mod) (v1 (pureK1 D.intD) (vRow 0 3)) (bVar 1))) (sSeq (sRowPut 0 3 (v2 (pureK2 D.div) (vRow 0 3) (bVar 1))) (sRet (vVar 2)))) (sNil)) (sSeq (sRowPut 0 1 (v2 (pureK2 D.add) (vRow 0 1) (vC (.int 1)))) (sSeq (sIf (v2 (pureK2 D.gtD) (vRow 0 1) (vRowLen 0)) (sSeq (sRowPut 0 2 (v2 (pureK2 D.mod) (v1 (pureK1 D.intD) (v2 (pureK2 D.add) (v2 (pureK2 D.mul) (vRow 0 2) (vC (.int 48271))) (vC (.int 11)))) (vC (.int 2147483647)))) (sRet (v2 (pureK2 D.mod) (v1 (pureK1 D.intD) (v2 (pureK2 D.div) (vRow 0 2) (vC (.int 7)))) (bVar 1)))) (sNil)) (sSeq (sSet 3 (vRowCell 0 (v2 (pureK2 D.sub) (vRow 0 1) (vC (.int 1))))) (sSeq (sRowPut 0 2 (v2 (pureK2 D.mod) (v1 (pureK1 D.intD) (v2 (pureK2 D.add) (v2 (pureK2 D.add) (v2 (pureK2 D.mul) (vRow 0 2) (vC (.int 48271))) (bVar 3)) (vC (.int 11)))) (vC (.int 2147483647)))) (sSeq (sIf (v2 (pureK2 D.geD) (bVar 3) (v2 (pureK2 D.pow) (vC (.int 10)) (vC (.int 18)))) (sRowPut 0 3 (v2 (pureK2 D.div) (bVar 3) (bVar 1))) (sNil)) (sRet (v2 (pureK2 D.mod) (v1 (pureK1 D.intD) (bVar 3)) (bVar 1))))))))
def f__law_taken : FS := runF 4 s__law_taken
theorem sc__law_taken : FnScope ["row", "many", "found", "cell"] ["row", "many"] (defScope (top 33)) := ⟨rfl, rfl, rfl, by decide +kernel, rfl, by decide +kernel, by decide +kernel⟩
theorem c__law_taken (E : Env P w K mg base) (hm : mg "_law_taken" = some (.ref f)) (Fd : FunD K "_law_taken" "_law_taken" (defArgs (top 33)) (defBody (top 33)) (defScope (top 33)) [] [] f fd)  : Cal P w K mg base T 1 "_law_taken" 2 f__law_taken := by
  refine ⟨f, fd, ["row", "many"], hm, ?_, Fd.kp, Fd.bindsN fun _ _ _ _ _ _ us hl => match us, hl with | [_, _], _ => rfl⟩
  refine fn_ok Fd sc__law_taken E.bi rfl rfl (by decide) (fun F cdv A outer s H e1 e2 e3 hr xf => ?_)
  subst e1 e2 e3
  exact ss_cons (ss_if (PV.tq (cv_cmpI op_gt (nomark _) (L2.PE.look (ve_row xf)) (L2.PE.look (ve_int))) bl_cmpI) (ss_cons (ss_set xf (ve_mod (L2.PE.look (ve_int1 xf (L2.PE.look (ve_row xf)))) (be_var))) (ss_cons (ss_rowput xf (ve_div (L2.PE.look (ve_row xf)) (be_var))) (ss_one (ss_ret (ve_var))))) (ss_nil)) (ss_cons (ss_rowput xf (ve_add xf.K (L2.PE.look (ve_row xf)) (L2.PE.look (ve_int)))) (ss_cons (ss_if (PV.tq (cv_cmpI op_gt (nomark _) (L2.PE.look (ve_row xf)) (L2.PE.look (ve_rowlen xf))) bl_cmpI) (ss_cons (ss_rowput xf (ve_mod (L2.PE.look (ve_int1 xf (L2.PE.look (ve_add xf.K (L2.PE.look (ve_mul (L2.PE.look (ve_row xf)) (L2.PE.look (ve_int)))) (L2.PE.look (ve_int)))))) (L2.PE.look (ve_int)))) (ss_one (ss_ret (ve_mod (L2.PE.look (ve_int1 xf (L2.PE.look (ve_div (L2.PE.look (ve_row xf)) (L2.PE.look (ve_int)))))) (be_var))))) (ss_nil)) (ss_cons (ss_set xf (ve_rowcell xf (ve_sub (L2.PE.look (ve_row xf)) (L2.PE.look (ve_int))))) (ss_cons (ss_rowput xf (ve_mod (L2.PE.look (ve_int1 xf (L2.PE.look (ve_add xf.K (L2.PE.look (ve_add xf.K (L2.PE.look (ve_mul (L2.PE.look (ve_row xf)) (L2.PE.look (ve_int)))) (be_var))) (L2.PE.look (ve_int)))))) (L2.PE.look (ve_int)))) (ss_cons (ss_if (PV.tq (cv_cmpI op_ge (nomark _) (be_var) (L2.PE.look (ve_pow (L2.PE.look (ve_int)) (L2.PE.look (ve_int))))) bl_cmpI) (ss_one (ss_rowput xf (ve_div (be_var) (be_var)))) (ss_nil)) (ss_one (ss_ret (ve_mod (L2.PE.look (ve_int1 xf (be_var))) (be_var)))))))))
def s__law_pick : SS := sRet (v2 (pureK2 D.ix) (bVar 1) (vCall f__law_taken (aCons (vVar 0) (aCons (v1 (pureK1 D.len) (bVar 1)) (aNil)))))
def f__law_pick : FS := runF 2 s__law_pick
theorem sc__law_pick : FnScope ["row", "some"] ["row", "some"] (defScope (top 34)) := ⟨rfl, rfl, rfl, by decide +kernel, rfl, by decide +kernel, by decide +kernel⟩
theorem c__law_pick (E : Env P w K mg base) (hm : mg "_law_pick" = some (.ref f)) (Fd : FunD K "_law_pick" "_law_pick" (defArgs (top 34)) (defBody (top 34)) (defScope (top 34)) [] [] f fd) (c__law_taken : Cal P w K mg base T 1 "_law_taken" 2 f__law_taken) : Cal P w K mg base T 2 "_law_pick" 2 f__law_pick := by
  refine ⟨f, fd, ["row", "some"], hm, ?_, Fd.kp, Fd.bindsN fun _ _ _ _ _ _ us hl => match us, hl with | [_, _], _ => rfl⟩
  refine fn_ok Fd sc__law_pick E.bi rfl rfl (by decide) (fun F cdv A outer s H e1 e2 e3 hr xf => ?_)
  subst e1 e2 e3
  exact ss_one (ss_ret (ve_ix xf (be_var) (L2.PE.look (ve_call xf c__law_taken hr (by decide) (aa_cons (ve_var) (aa_cons (ve_len xf (be_var)) (aa_nil))) (hl := len_cons (len_cons (len_nil)))))))
def s__law_alike (fR : FS) : SS := sSeq (sIf (v1 (pureK1 (D.isBT2 own_cls .tuple .list)) (bVar 1)) (sSeq (sIf (vOr (vNot (v1 (pureK1 (D.isBT2 own_cls .tuple .list)) (bVar 0))) (v2 (pureK2 D.neD) (v1 (pureK1 (D.isBTd own_cls .list)) (bVar 0)) (v1 (pureK1 (D.isBTd own_cls .list)) (bVar 1)))) (sRet (vC (.bl false))) (sNil)) (sSeq (sIf (v2 (pureK2 D.neD) (v1 (pureK1 D.len) (bVar 0)) (v1 (pureK1 D.len) (bVar 1))) (sRet (vC (.bl false))) (sNil)) (sRet (v2 (pureK2 D.eqD) (vComp (itR1 (v1 (pureK1 D.len) (bVar 1))) (tgN 2) (List.map (·.2) ([("k", 2)] : List (Str × Nat))) (vNot (vCall fR (aCons (v2 (pureK2 D.ix) (bVar 0) (bVar 2)) (aCons (v2 (pureK2 D.ix) (bVar 1) (bVar 2)) (aNil))))) (vVar 2)) (vLst (aNil)))))) (sNil)) (sSeq (sIf (v1 (pureK1 (D.isBTd own_cls .dict)) (bVar 1)) (sSeq (sIf (vOr (vNot (v1 (pureK1 (D.isBTd own_cls .dict)) (bVar 0))) (v2 (pureK2 D.neD) (v1 (pureK1 D.listD) (bVar 0)) (v1 (pureK1 D.listD) (bVar 1)))) (sRet (vC (.bl false))) (sNil)) (sRet (v2 (pureK2 D.eqD) (vComp (itSeq (vVar 1)) (tgN 3) (List.map (·.2) ([("key", 3)] : List (Str × Nat))) (vNot (vCall fR (aCons (v2 (pureK2 D.ix) (bVar 0) (bVar 3)) (aCons (v2 (pureK2 D.ix) (bVar 1) (bVar 3)) (aNil))))) (vVar 3)) (vLst (aNil))))) (sNil)) (sSeq (sIf (vOr (v2 (pureK2 D.isD) (bVar 1) (vC .non)) (v1 (pureK1 (D.isBTd own_cls .str)) (bVar 1))) (sRet (vAnd (v2 (pureK2 D.eqD) (bVar 0) (bVar 1)) (v2 (pureK2 D.eqD) (v1 (pureK1 (D.isBTd own_cls .str)) (bVar 0)) (v1 (pureK1 (D.isBTd own_cls .str)) (bVar 1))))) (sNil)) (sRet (vAnd (v1 (pureK1 (D.isBTd own_cls .int)) (bVar 0)) (vAnd (v2 (pureK2 D.eqD) (v1 (pureK1 (D.isBTd own_cls .bool)) (bVar 0)) (v1 (pureK1 (D.isBTd own_cls .bool)) (bVar 1))) (v2 (pureK2 D.eqD) (bVar 0) (bVar 1)))))))
def f__law_alike : Nat → FS
  | 0 => fun _ _ => .bad
  | n + 1 => runF 4 (s__law_alike (f__law_alike n))
theorem sc__law_alike : FnScope ["found", "due", "k", "key"] ["found", "due"] (defScope (top 35)) := ⟨rfl, rfl, rfl, by decide +kernel, rfl, by decide +kernel, by decide +kernel⟩
theorem c__law_alike (E : Env P w K mg base) (hm : mg "_law_alike" = some (.ref f)) (Fd : FunD K "_law_alike" "_law_alike" (defArgs (top 35)) (defBody (top 35)) (defScope (top 35)) [] [] f fd)  : ∀ n : Nat, Cal P w K mg base T (n + 0) "_law_alike" 2 (f__law_alike n)
  | 0 => cal_bad hm Fd.kp (Fd.bindsN (ps := ["found", "due"]) fun _ _ _ _ _ _ us hl => match us, hl with | [_, _], _ => rfl) rfl
  | n + 1 => by
    have cR := c__law_alike E hm Fd  n
    refine ⟨f, fd, ["found", "due"], hm, ?_, Fd.kp, Fd.bindsN fun _ _ _ _ _ _ us hl => match us, hl with | [_, _], _ => rfl⟩
    refine fn_ok Fd sc__law_alike E.bi rfl rfl (by decide) (fun F cdv A outer s H e1 e2 e3 hr xf => ?_)
    subst e1 e2 e3
    exact ss_cons (ss_if (L2.PE.tq xf.K (L2.PE.look (ve_isBT2 .tuple .list xf E.ia (be_var) (hm := xf.tuple) (hm2 := xf.list) (hv := by decide +kernel) (hv2 := by decide +kernel)))) (ss_cons (ss_if (PWQ.tq (wq_or (tq_not (L2.PE.tq xf.K (L2.PE.look (ve_isBT2 .tuple .list xf E.ia (be_var) (hm := xf.tuple) (hm2 := xf.list) (hv := by decide +kernel) (hv2 := by decide +kernel))))) (wq_or1 (PV.tq (cv_ne xf.K (Nat.lt_of_le_of_lt (Nat.add_le_add_left (by decide) _) xf.u) (L2.PE.look (ve_isBT .list xf E.ia (be_var) rfl (hm := xf.list) (hv := by decide +kernel))) (L2.PE.look (ve_isBT .list xf E.ia (be_var) rfl (hm := xf.list) (hv := by decide +kernel)))) bl_ne)))) (ss_one (ss_ret (ve_bl))) (ss_nil)) (ss_cons (ss_if (PV.tq (cv_ne xf.K (Nat.lt_of_le_of_lt (Nat.add_le_add_left (by decide) _) xf.u) (L2.PE.look (ve_len xf (be_var))) (L2.PE.look (ve_len xf (be_var)))) bl_ne) (ss_one (ss_ret (ve_bl))) (ss_nil)) (ss_one (ss_ret (PV.pe (cv_eq xf.K (Nat.lt_of_le_of_lt (Nat.add_le_add_left (by decide) _) xf.u) (L2.PE.look (L2.PE.keep (vo_comp xf (ii_r1 xf (ve_len xf (be_var))) (own := [("k", 2)]) (blkOk_by (by rfl)) (fun s H C cl fp xf => tg_n xf) (fun s H C cl fp xf => pts_one (tq_not (L2.PE.tq xf.K (L2.PE.look (ve_call xf cR hr (Nat.le_refl _) (aa_cons (ve_ix xf (be_var) (be_var)) (aa_cons (ve_ix xf (be_var) (be_var)) (aa_nil))) (hl := len_cons (len_cons (len_nil)))))))) (fun s H C cl fp xf => ve_var)))) (L2.PE.look (L2.PE.keep (vo_lst (aa_nil)))))))))) (ss_nil)) (ss_cons (ss_if (L2.PE.tq xf.K (L2.PE.look (ve_isBT .dict xf E.ia (be_var) rfl (hm := xf.dict) (hv := by decide +kernel)))) (ss_cons (ss_if (PWQ.tq (wq_or (tq_not (L2.PE.tq xf.K (L2.PE.look (ve_isBT .dict xf E.ia (be_var) rfl (hm := xf.dict) (hv := by decide +kernel))))) (wq_or1 (PV.tq (cv_ne xf.K (Nat.lt_of_le_of_lt (Nat.add_le_add_left (by decide) _) xf.u) (L2.PE.look (L2.PE.keep (vo_list xf (be_var)))) (L2.PE.look (L2.PE.keep (vo_list xf (be_var))))) bl_ne)))) (ss_one (ss_ret (ve_bl))) (ss_nil)) (ss_one (ss_ret (PV.pe (cv_eq xf.K (Nat.lt_of_le_of_lt (Nat.add_le_add_left (by decide) _) xf.u) (L2.PE.look (L2.PE.keep (vo_comp xf (ii_seq xf (ve_var)) (own := [("key", 3)]) (blkOk_by (by rfl)) (fun s H C cl fp xf => tg_n xf) (fun s H C cl fp xf => pts_one (tq_not (L2.PE.tq xf.K (L2.PE.look (ve_call xf cR hr (Nat.le_refl _) (aa_cons (ve_ix xf (be_var) (be_var)) (aa_cons (ve_ix xf (be_var) (be_var)) (aa_nil))) (hl := len_cons (len_cons (len_nil)))))))) (fun s H C cl fp xf => ve_var)))) (L2.PE.look (L2.PE.keep (vo_lst (aa_nil))))))))) (ss_nil)) (ss_cons (ss_if (PWQ.tq (wq_or (PV.tq (cv_is (be_var) (L2.PE.look (ve_non))) bl_is) (wq_or1 (L2.PE.tq xf.K (L2.PE.look (ve_isBT .str xf E.ia (be_var) rfl (hm := xf.str) (hv := by decide +kernel))))))) (ss_one (ss_ret (ve_and xf.K (PV.pe (cv_eq xf.K (Nat.lt_of_le_of_lt (Nat.add_le_add_left (by decide) _) xf.u) (be_var) (be_var))) (ve_one (PV.pe (cv_eq xf.K (Nat.lt_of_le_of_lt (Nat.add_le_add_left (by decide) _) xf.u) (L2.PE.look (ve_isBT .str xf E.ia (be_var) rfl (hm := xf.str) (hv := by decide +kernel))) (L2.PE.look (ve_isBT .str xf E.ia (be_var) rfl (hm := xf.str) (hv := by decide +kernel))))))))) (ss_nil)) (ss_one (ss_ret (ve_and xf.K (ve_isBT .int xf E.ia (be_var) rfl (hm := xf.int) (hv := by decide +kernel)) (ve_and xf.K (PV.pe (cv_eq xf.K (Nat.lt_of_le_of_lt (Nat.add_le_add_left (by decide) _) xf.u) (L2.PE.look (ve_isBT .bool xf E.ia (be_var) rfl (hm := xf.bool) (hv := by decide +kernel))) (L2.PE.look (ve_isBT .bool xf E.ia (be_var) rfl (hm := xf.bool) (hv := by decide +kernel))))) (ve_one (PV.pe (cv_eq xf.K (Nat.lt_of_le_of_lt (Nat.add_le_add_left (by decide) _) xf.u) (be_var) (be_var))))))))))
def s__law_unlike : SS := sSeq (sOwn 1 (vLst (aNil))) (sSeq (sFor (itSeq (v1 (pureK1 D.sortedX) (v1 (pureK1 D.listD) (bVar 0)))) (tgN 2) (sIf (vOr (v2 (pureK2 D.eqD) (bVar 1) (vLst (aNil))) (v2 (pureK2 D.neD) (v2 (pureK2 D.ix) (bVar 1) (v1 (pureK1 D.neg) (vC (.int 1)))) (bVar 2))) (sApp 1 (vVar 2)) (sNil))) (sFz 1 (sRet (vVar 1))))
def f__law_unlike : FS := runF 3 s__law_unlike
theorem sc__law_unlike : FnScope ["things", "found", "one"] ["things"] (defScope (top 36)) := ⟨rfl, rfl, rfl, by decide +kernel, rfl, by decide +kernel, by decide +kernel⟩
theorem c__law_unlike (E : Env P w K mg base) (hm : mg "_law_unlike" = some (.ref f)) (Fd : FunD K "_law_unlike" "_law_unlike" (defArgs (top 36)) (defBody (top 36)) (defScope (top 36)) [] [] f fd)  : Cal P w K mg base T 1 "_law_unlike" 1 f__law_unlike := by
  refine ⟨f, fd, ["things"], hm, ?_, Fd.kp, Fd.bindsN fun _ _ _ _ _ _ us hl => match us, hl with | [_], _ => rfl⟩
  refine fn_ok Fd sc__law_unlike E.bi rfl rfl (by decide) (fun F cdv A outer s H e1 e2 e3 hr xf => ?_)
  subst e1 e2 e3
  exact ss_cons (ss_own xf (vo_lst (aa_nil))) (ss_cons (ss_for xf (ii_seq xf (L2.PE.keep (vo_sortedX xf (L2.PE.look (L2.PE.keep (vo_list xf (be_var))))))) (tg_n xf) (ss_one (ss_if (PWQ.tq (wq_or (PV.tq (cv_eq xf.K (Nat.lt_of_le_of_lt (Nat.add_le_add_left (by decide) _) xf.u) (be_var) (L2.PE.look (L2.PE.keep (vo_lst (aa_nil))))) bl_eq) (wq_or1 (PV.tq (cv_ne xf.K (Nat.lt_of_le_of_lt (Nat.add_le_add_left (by decide) _) xf.u) (L2.PE.look (ve_ix xf (be_var) (L2.PE.look (ve_neg (L2.PE.look (ve_int)))))) (be_var)) bl_ne)))) (ss_one (ss_app (ve_var) xf)) (ss_nil)))) (ss_one (ss_fz 1 (ss_ret (ve_var)))))
def s__law_shuffled : SS := sSeq (sSet 2 (vLst (aNil))) (sSeq (sFor (itSeq (vVar 1)) (tgN 3) (sSeq (sSet 4 (vCall f__law_taken (aCons (vVar 0) (aCons (v2 (pureK2 D.add) (v1 (pureK1 D.len) (bVar 2)) (vC (.int 1))) (aNil))))) (sSet 2 (v2 (pureK2 D.add) (v2 (pureK2 D.add) (vSl (bVar 2) (sN) (sS (bVar 4))) (vLst (aCons (vVar 3) (aNil)))) (vSl (bVar 2) (sS (bVar 4)) (sN)))))) (sRet (vVar 2)))
def f__law_shuffled : FS := runF 5 s__law_shuffled
theorem sc__law_shuffled : FnScope ["row", "things", "found", "thing", "at"] ["row", "things"] (defScope (top 37)) := ⟨rfl, rfl, rfl, by decide +kernel, rfl, by decide +kernel, by decide +kernel⟩
theorem c__law_shuffled (E : Env P w K mg base) (hm : mg "_law_shuffled" = some (.ref f)) (Fd : FunD K "_law_shuffled" "_law_shuffled" (defArgs (top 37)) (defBody (top 37)) (defScope (top 37)) [] [] f fd) (c__law_taken : Cal P w K mg base T 1 "_law_taken" 2 f__law_taken) : Cal P w K mg base T 2 "_law_shuffled" 2 f__law_shuffled := by
  refine ⟨f, fd, ["row", "things"], hm, ?_, Fd.kp, Fd.bindsN fun _ _ _ _ _ _ us hl => match us, hl with | [_, _], _ => rfl⟩
  refine fn_ok Fd sc__law_shuffled E.bi rfl rfl (by decide) (fun F cdv A outer s H e1 e2 e3 hr xf => ?_)
  subst e1 e2 e3
  exact ss_cons (ss_set xf (L2.PE.keep (vo_lst (aa_nil)))) (ss_cons (ss_for xf (ii_seq xf (ve_var)) (tg_n xf) (ss_cons (ss_set xf (ve_call xf c__law_taken hr (by decide) (aa_cons (ve_var) (aa_cons (ve_add xf.K (L2.PE.look (ve_len xf (be_var))) (L2.PE.look (ve_int))) (aa_nil))) (hl := len_cons (len_cons (len_nil))))) (ss_one (ss_set xf (ve_add xf.K (L2.PE.look (ve_add xf.K (L2.PE.look (ve_slice xf (be_var) (pt_n) (pt_s (be_var)))) (L2.PE.look (L2.PE.keep (vo_lst (aa_cons (ve_var) (aa_nil))))))) (L2.PE.look (ve_slice xf (be_var) (pt_s (be_var)) (pt_n)))))))) (ss_one (ss_ret (ve_var))))
def s__law_number : SS := sRet (vAnd (v1 (pureK1 (D.isBTd own_cls .int)) (bVar 0)) (vAnd (vNot (v1 (pureK1 (D.isBTd own_cls .bool)) (bVar 0))) (vChain (fun i j => decide (i ≤ j)) (fun i j => decide (i < j)) (vC (.int 0)) (bVar 0) (bVar 1))))
def f__law_number : FS := runF 2 s__law_number
theorem sc__law_number : FnScope ["thing", "many"] ["thing", "many"] (defScope (top 38)) := ⟨rfl, rfl, rfl, by decide +kernel, rfl, by decide +kernel, by decide +kernel⟩
theorem c__law_number (E : Env P w K mg base) (hm : mg "_law_number" = some (.ref f)) (Fd : FunD K "_law_number" "_law_number" (defArgs (top 38)) (defBody (top 38)) (defScope (top 38)) [] [] f fd)  : Cal P w K mg base T 1 "_law_number" 2 f__law_number := by
  refine ⟨f, fd, ["thing", "many"], hm, ?_, Fd.kp, Fd.bindsN fun _ _ _ _ _ _ us hl => match us, hl with | [_, _], _ => rfl⟩
  refine fn_ok Fd sc__law_number E.bi rfl rfl (by decide) (fun F cdv A outer s H e1 e2 e3 hr xf => ?_)
  subst e1 e2 e3
  exact ss_one (ss_ret (ve_and xf.K (ve_isBT .int xf E.ia (be_var) rfl (hm := xf.int) (hv := by decide +kernel)) (ve_and xf.K (ve_not xf.K (L2.PE.look (ve_isBT .bool xf E.ia (be_var) rfl (hm := xf.bool) (hv := by decide +kernel)))) (ve_one (PV.pe (cv_chain op_le op_lt (L2.PE.look (ve_int)) (be_var) (be_var)))))))
def s__law_walk : SS := sSeq (sPar [2, 3] (mF (v2 (pureK2 D.add) (vC (.int 1)) (vCall f__law_taken (aCons (vVar 0) (aCons (vVar 1) (aNil))))) (mF (v2 (pureK2 D.add) (vC (.int 1)) (vCall f__law_taken (aCons (vVar 0) (aCons (vVar 1) (aNil))))) (mNil)))) (sSeq (sSet 4 (vLst (aNil))) (sSeq (sFor (itR1 (vVar 3)) (tgN 5) (sSeq (sSet 6 (vComp (itR1 (vVar 2)) (tgN 7) (List.map (·.2) ([("x", 7)] : List (Str × Nat))) (vC (.bl true)) (vTup (aCons (vVar 7) (aCons (vVar 5) (aNil)))))) (sSet 4 (v2 (pureK2 D.add) (bVar 4) (vIf (vAnd (v2 (pureK2 D.eqD) (v2 (pureK2 D.mod) (bVar 5) (vC (.int 2))) (vC (.int 1))) (v2 (pureK2 D.eqD) (vCall f__law_taken (aCons (vVar 0) (aCons (vC (.int 2)) (aNil)))) (vC (.int 0)))) (v1 (pureK1 D.revD) (bVar 6)) (vVar 6)))))) (sSeq (sIf (v2 (pureK2 D.eqD) (vCall f__law_taken (aCons (vVar 0) (aCons (vC (.int 3)) (aNil)))) (vC (.int 0))) (sSet 4 (vCall f__law_shuffled (aCons (vVar 0) (aCons (vVar 4) (aNil))))) (sNil)) (sSeq (sSet 8 (vCall f__law_unlike (aCons (vComp (itR1 (vCall f__law_pick (aCons (vVar 0) (aCons (vLst (aCons (vC (.int 0)) (aCons (vC (.int 0)) (aCons (vC (.int 1)) (aCons (vC (.int 2)) (aNil)))))) (aNil))))) (tgN 9) (List.map (·.2) ([("k", 9)] : List (Str × Nat))) (vC (.bl true)) (vCall f__law_taken (aCons (vVar 0) (aCons (v1 (pureK1 D.len) (bVar 4)) (aNil))))) (aNil)))) (sRet (vTup (aCons (vVar 2) (aCons (vVar 3) (aCons (vVar 4) (aCons (vVar 8) (aNil)))))))))))
def f__law_walk : FS := runF 10 s__law_walk
theorem sc__law_walk : FnScope ["row", "most", "width", "height", "cells", "y", "line", "x", "starts", "k"] ["row", "most"] (defScope (top 39)) := ⟨rfl, rfl, rfl, by decide +kernel, rfl, by decide +kernel, by decide +kernel⟩
theorem c__law_walk (E : Env P w K mg base) (hm : mg "_law_walk" = some (.ref f)) (Fd : FunD K "_law_walk" "_law_walk" (defArgs (top 39)) (defBody (top 39)) (defScope (top 39)) [] [] f fd) (c__law_taken : Cal P w K mg base T 1 "_law_taken" 2 f__law_taken) (c__law_shuffled : Cal P w K mg base T 2 "_law_shuffled" 2 f__law_shuffled) (c__law_pick : Cal P w K mg base T 2 "_law_pick" 2 f__law_pick) (c__law_unlike : Cal P w K mg base T 1 "_law_unlike" 1 f__law_unlike) : Cal P w K mg base T 3 "_law_walk" 2 f__law_walk := by
  refine ⟨f, fd, ["row", "most"], hm, ?_, Fd.kp, Fd.bindsN fun _ _ _ _ _ _ us hl => match us, hl with | [_, _], _ => rfl⟩
  refine fn_ok Fd sc__law_walk E.bi rfl rfl (by decide) (fun F cdv A outer s H e1 e2 e3 hr xf => ?_)
  subst e1 e2 e3
  exact ss_cons ((by first | exact ss_par2 xf (am_f (ve_add xf.K (L2.PE.look (ve_int)) (L2.PE.look (ve_call xf c__law_taken hr (by decide) (aa_cons (ve_var) (aa_cons (ve_var) (aa_nil))) (hl := len_cons (len_cons (len_nil)))))) (am_f (ve_add xf.K (L2.PE.look (ve_int)) (L2.PE.look (ve_call xf c__law_taken hr (by decide) (aa_cons (ve_var) (aa_cons (ve_var) (aa_nil))) (hl := len_cons (len_cons (len_nil)))))) (am_nil))) | exact ss_parT xf (gs_cons xf (gs_cons xf (gs_nil))) (am_f (ve_add xf.K (L2.PE.look (ve_int)) (L2.PE.look (ve_call xf c__law_taken hr (by decide) (aa_cons (ve_var) (aa_cons (ve_var) (aa_nil))) (hl := len_cons (len_cons (len_nil)))))) (am_f (ve_add xf.K (L2.PE.look (ve_int)) (L2.PE.look (ve_call xf c__law_taken hr (by decide) (aa_cons (ve_var) (aa_cons (ve_var) (aa_nil))) (hl := len_cons (len_cons (len_nil)))))) (am_nil))))) (ss_cons (ss_set xf (L2.PE.keep (vo_lst (aa_nil)))) (ss_cons (ss_for xf (ii_r1 xf (ve_var)) (tg_n xf) (ss_cons (ss_setC xf (ii_r1 xf (ve_var)) (own := [("x", 7)]) (blkOk_by (by rfl)) (fun s H C cl fp xf => tg_n xf) (fun s H C cl fp xf => tq_none) (fun s H C cl fp xf => ve_tup (aa_cons (ve_var) (aa_cons (ve_var) (aa_nil))))) (ss_one (ss_set xf (ve_add xf.K (be_var) (L2.PE.look (ve_if (PWQ.tq (wq_and (PV.tq (cv_eq xf.K (Nat.lt_of_le_of_lt (Nat.add_le_add_left (by decide) _) xf.u) (L2.PE.look (ve_mod (be_var) (L2.PE.look (ve_int)))) (L2.PE.look (ve_int))) bl_eq) (wq_and1 (PV.tq (cv_eq xf.K (Nat.lt_of_le_of_lt (Nat.add_le_add_left (by decide) _) xf.u) (L2.PE.look (ve_call xf c__law_taken hr (by decide) (aa_cons (ve_var) (aa_cons (ve_int) (aa_nil))) (hl := len_cons (len_cons (len_nil))))) (L2.PE.look (ve_int))) bl_eq)))) (L2.PE.keep (vo_rev xf (be_var))) (ve_var)))))))) (ss_cons (ss_if (PV.tq (cv_eq xf.K (Nat.lt_of_le_of_lt (Nat.add_le_add_left (by decide) _) xf.u) (L2.PE.look (ve_call xf c__law_taken hr (by decide) (aa_cons (ve_var) (aa_cons (ve_int) (aa_nil))) (hl := len_cons (len_cons (len_nil))))) (L2.PE.look (ve_int))) bl_eq) (ss_one (ss_set xf (ve_call xf c__law_shuffled hr (by decide) (aa_cons (ve_var) (aa_cons (ve_var) (aa_nil))) (hl := len_cons (len_cons (len_nil)))))) (ss_nil)) (ss_cons (ss_set xf (ve_call xf c__law_unlike hr (by decide) (aa_cons (L2.PE.keep (vo_comp xf (ii_r1 xf (ve_call xf c__law_pick hr (by decide) (aa_cons (ve_var) (aa_cons (L2.PE.keep (vo_lst (aa_cons (ve_int) (aa_cons (ve_int) (aa_cons (ve_int) (aa_cons (ve_int) (aa_nil))))))) (aa_nil))) (hl := len_cons (len_cons (len_nil))))) (own := [("k", 9)]) (blkOk_by (by rfl)) (fun s H C cl fp xf => tg_n xf) (fun s H C cl fp xf => tq_none) (fun s H C cl fp xf => ve_call xf c__law_taken hr (by decide) (aa_cons (ve_var) (aa_cons (ve_len xf (be_var)) (aa_nil))) (hl := len_cons (len_cons (len_nil)))))) (aa_nil)) (hl := len_cons (len_nil)))) (ss_one (ss_ret (ve_tup (aa_cons (ve_var) (aa_cons (ve_var) (aa_cons (ve_var) (aa_cons (ve_var) (aa_nil))))))))))))
def s__law_window : SS := sSeq (sPar [2, 3] (mF (vCall f__law_taken (aCons (vVar 0) (aCons (v2 (pureK2 D.ix) (bVar 1) (vC (.int 0))) (aNil)))) (mF (vCall f__law_taken (aCons (vVar 0) (aCons (v2 (pureK2 D.ix) (bVar 1) (vC (.int 1))) (aNil)))) (mNil)))) (sRet (vTup (aCons (vVar 2) (aCons (vVar 3) (aCons (v2 (pureK2 D.add) (vC (.int 1)) (vCall f__law_taken (aCons (vVar 0) (aCons (v2 (pureK2 D.sub) (v2 (pureK2 D.ix) (bVar 1) (vC (.int 0))) (bVar 2)) (aNil))))) (aCons (v2 (pureK2 D.add) (vC (.int 1)) (vCall f__law_taken (aCons (vVar 0) (aCons (v2 (pureK2 D.sub) (v2 (pureK2 D.ix) (bVar 1) (vC (.int 1))) (bVar 3)) (aNil))))) (aNil)))))))
def f__law_window : FS := runF 4 s__law_window
theorem sc__law_window : FnScope ["row", "walk", "x", "y"] ["row", "walk"] (defScope (top 40)) := ⟨rfl, rfl, rfl, by decide +kernel, rfl, by decide +kernel, by decide +kernel⟩
theorem c__law_window (E : Env P w K mg base) (hm : mg "_law_window" = some (.ref f)) (Fd : FunD K "_law_window" "_law_window" (defArgs (top 40)) (defBody (top 40)) (defScope (top 40)) [] [] f fd) (c__law_taken : Cal P w K mg base T 1 "_law_taken" 2 f__law_taken) : Cal P w K mg base T 2 "_law_window" 2 f__law_window := by
  refine ⟨f, fd, ["row", "walk"], hm, ?_, Fd.kp, Fd.bindsN fun _ _ _ _ _ _ us hl => match us, hl with | [_, _], _ => rfl⟩
  refine fn_ok Fd sc__law_window E.bi rfl rfl (by decide) (fun F cdv A outer s H e1 e2 e3 hr xf => ?_)
  subst e1 e2 e3
  exact ss_cons ((by first | exact ss_par2 xf (am_f (ve_call xf c__law_taken hr (by decide) (aa_cons (ve_var) (aa_cons (ve_ix xf (be_var) (L2.PE.look (ve_int))) (aa_nil))) (hl := len_cons (len_cons (len_nil)))) (am_f (ve_call xf c__law_taken hr (by decide) (aa_cons (ve_var) (aa_cons (ve_ix xf (be_var) (L2.PE.look (ve_int))) (aa_nil))) (hl := len_cons (len_cons (len_nil)))) (am_nil))) | exact ss_parT xf (gs_cons xf (gs_cons xf (gs_nil))) (am_f (ve_call xf c__law_taken hr (by decide) (aa_cons (ve_var) (aa_cons (ve_ix xf (be_var) (L2.PE.look (ve_int))) (aa_nil))) (hl := len_cons (len_cons (len_nil)))) (am_f (ve_call xf c__law_taken hr (by decide) (aa_cons (ve_var) (aa_cons (ve_ix xf (be_var) (L2.PE.look (ve_int))) (aa_nil))) (hl := len_cons (len_cons (len_nil)))) (am_nil))))) (ss_one (ss_ret (ve_tup (aa_cons (ve_var) (aa_cons (ve_var) (aa_cons (ve_add xf.K (L2.PE.look (ve_int)) (L2.PE.look (ve_call xf c__law_taken hr (by decide) (aa_cons (ve_var) (aa_cons (ve_sub (L2.PE.look (ve_ix xf (be_var) (L2.PE.look (ve_int)))) (be_var)) (aa_nil))) (hl := len_cons (len_cons (len_nil)))))) (aa_cons (ve_add xf.K (L2.PE.look (ve_int)) (L2.PE.look (ve_call xf c__law_taken hr (by decide) (aa_cons (ve_var) (aa_cons (ve_sub (L2.PE.look (ve_ix xf (be_var) (L2.PE.look (ve_int)))) (be_var)) (aa_nil))) (hl := len_cons (len_cons (len_nil)))))) (aa_nil))))))))
def s__law_in : SS := sRet (vAnd (vChain (fun i j => decide (i ≤ j)) (fun i j => decide (i < j)) (v2 (pureK2 D.ix) (bVar 0) (vC (.int 0))) (v2 (pureK2 D.ix) (bVar 1) (vC (.int 0))) (v2 (pureK2 D.add) (v2 (pureK2 D.ix) (bVar 0) (vC (.int 0))) (v2 (pureK2 D.ix) (bVar 0) (vC (.int 2))))) (vChain (fun i j => decide (i ≤ j)) (fun i j => decide (i < j)) (v2 (pureK2 D.ix) (bVar 0) (vC (.int 1))) (v2 (pureK2 D.ix) (bVar 1) (vC (.int 1))) (v2 (pureK2 D.add) (v2 (pureK2 D.ix) (bVar 0) (vC (.int 1))) (v2 (pureK2 D.ix) (bVar 0) (vC (.int 3))))))
def f__law_in : FS := runF 2 s__law_in
theorem sc__law_in : FnScope ["window", "cell"] ["window", "cell"] (defScope (top 41)) := ⟨rfl, rfl, rfl, by decide +kernel, rfl, by decide +kernel, by decide +kernel⟩
theorem c__law_in (E : Env P w K mg base) (hm : mg "_law_in" = some (.ref f)) (Fd : FunD K "_law_in" "_law_in" (defArgs (top 41)) (defBody (top 41)) (defScope (top 41)) [] [] f fd)  : Cal P w K mg base T 1 "_law_in" 2 f__law_in := by
  refine ⟨f, fd, ["window", "cell"], hm, ?_, Fd.kp, Fd.bindsN fun _ _ _ _ _ _ us hl => match us, hl with | [_, _], _ => rfl⟩
  refine fn_ok Fd sc__law_in E.bi rfl rfl (by decide) (fun F cdv A outer s H e1 e2 e3 hr xf => ?_)
  subst e1 e2 e3
  exact ss_one (ss_ret (ve_and xf.K (PV.pe (cv_chain op_le op_lt (L2.PE.look (ve_ix xf (be_var) (L2.PE.look (ve_int)))) (L2.PE.look (ve_ix xf (be_var) (L2.PE.look (ve_int)))) (L2.PE.look (ve_add xf.K (L2.PE.look (ve_ix xf (be_var) (L2.PE.look (ve_int)))) (L2.PE.look (ve_ix xf (be_var) (L2.PE.look (ve_int)))))))) (ve_one (PV.pe (cv_chain op_le op_lt (L2.PE.look (ve_ix xf (be_var) (L2.PE.look (ve_int)))) (L2.PE.look (ve_ix xf (be_var) (L2.PE.look (ve_int)))) (L2.PE.look (ve_add xf.K (L2.PE.look (ve_ix xf (be_var) (L2.PE.look (ve_int)))) (L2.PE.look (ve_ix xf (be_var) (L2.PE.look (ve_int)))))))))))
def s__law_bad_window : SS := sSeq (sPar [2, 3] (mF (v2 (pureK2 D.ix) (bVar 1) (vC (.int 0))) (mF (v2 (pureK2 D.ix) (bVar 1) (vC (.int 1))) (mNil)))) (sSeq (sSet 4 (vLst (aCons (vC .non) (aCons (vTup (aCons (vC (.int 0)) (aCons (vC (.int 0)) (aCons (vC (.int 1)) (aNil))))) (aCons (vLst (aCons (vC (.int 0)) (aCons (vC (.int 0)) (aCons (vC (.int 1)) (aCons (vC (.int 1)) (aNil)))))) (aCons (vTup (aCons (vC (.int 0)) (aCons (vC (.int 0)) (aCons (v2 (pureK2 D.add) (bVar 2) (vC (.int 1))) (aCons (vC (.int 1)) (aNil)))))) (aCons (vTup (aCons (vC (.int 0)) (aCons (vC (.int 0)) (aCons (vC (.int 1)) (aCons (v2 (pureK2 D.add) (bVar 3) (vC (.int 1))) (aNil)))))) (aCons (vTup (aCons (vC (.int 0)) (aCons (vC (.int 0)) (aCons (vC (.int 0)) (aCons (vC (.int 1)) (aNil)))))) (aCons (vTup (aCons (vVar 2) (aCons (vC (.int 0)) (aCons (vC (.int 1)) (aCons (vC (.int 1)) (aNil)))))) (aNil)))))))))) (sRet (vCall f__law_pick (aCons (vVar 0) (aCons (v2 (pureK2 D.add) (bVar 4) (vLst (aCons (vTup (aCons (v1 (pureK1 D.neg) (vC (.int 1))) (aCons (vC (.int 0)) (aCons (vC (.int 1)) (aCons (vC (.int 1)) (aNil)))))) (aCons (vTup (aCons (vC (.int 0)) (aCons (vC (.bl true)) (aCons (vC (.int 1)) (aCons (vC (.int 1)) (aNil)))))) (aCons (vTup (aCons (vC (.int 0)) (aCons (vC (.int 0)) (aCons (vC (.int 1)) (aCons (vC .non) (aNil)))))) (aNil)))))) (aNil))))))
def f__law_bad_window : FS := runF 5 s__law_bad_window
theorem sc__law_bad_window : FnScope ["row", "walk", "width", "height", "some"] ["row", "walk"] (defScope (top 42)) := ⟨rfl, rfl, rfl, by decide +kernel, rfl, by decide +kernel, by decide +kernel⟩
theorem c__law_bad_window (E : Env P w K mg base) (hm : mg "_law_bad_window" = some (.ref f)) (Fd : FunD K "_law_bad_window" "_law_bad_window" (defArgs (top 42)) (defBody (top 42)) (defScope (top 42)) [] [] f fd) (c__law_pick : Cal P w K mg base T 2 "_law_pick" 2 f__law_pick) : Cal P w K mg base T 3 "_law_bad_window" 2 f__law_bad_window := by
  refine ⟨f, fd, ["row", "walk"], hm, ?_, Fd.kp, Fd.bindsN fun _ _ _ _ _ _ us hl => match us, hl with | [_, _], _ => rfl⟩
  refine fn_ok Fd sc__law_bad_window E.bi rfl rfl (by decide) (fun F cdv A outer s H e1 e2 e3 hr xf => ?_)
  subst e1 e2 e3
  exact ss_cons ((by first | exact ss_par2 xf (am_f (ve_ix xf (be_var) (L2.PE.look (ve_int))) (am_f (ve_ix xf (be_var) (L2.PE.look (ve_int))) (am_nil))) | exact ss_parT xf (gs_cons xf (gs_cons xf (gs_nil))) (am_f (ve_ix xf (be_var) (L2.PE.look (ve_int))) (am_f (ve_ix xf (be_var) (L2.PE.look (ve_int))) (am_nil))))) (ss_cons (ss_set xf (L2.PE.keep (vo_lst (aa_cons (ve_non) (aa_cons (ve_tup (aa_cons (ve_int) (aa_cons (ve_int) (aa_cons (ve_int) (aa_nil))))) (aa_cons (L2.PE.keep (vo_lst (aa_cons (ve_int) (aa_cons (ve_int) (aa_cons (ve_int) (aa_cons (ve_int) (aa_nil))))))) (aa_cons (ve_tup (aa_cons (ve_int) (aa_cons (ve_int) (aa_cons (ve_add xf.K (be_var) (L2.PE.look (ve_int))) (aa_cons (ve_int) (aa_nil)))))) (aa_cons (ve_tup (aa_cons (ve_int) (aa_cons (ve_int) (aa_cons (ve_int) (aa_cons (ve_add xf.K (be_var) (L2.PE.look (ve_int))) (aa_nil)))))) (aa_cons (ve_tup (aa_cons (ve_int) (aa_cons (ve_int) (aa_cons (ve_int) (aa_cons (ve_int) (aa_nil)))))) (aa_cons (ve_tup (aa_cons (ve_var) (aa_cons (ve_int) (aa_cons (ve_int) (aa_cons (ve_int) (aa_nil)))))) (aa_nil))))))))))) (ss_one (ss_ret (ve_call xf c__law_pick hr (by decide) (aa_cons (ve_var) (aa_cons (ve_add xf.K (be_var) (L2.PE.look (L2.PE.keep (vo_lst (aa_cons (ve_tup (aa_cons (ve_neg (L2.PE.look (ve_int))) (aa_cons (ve_int) (aa_cons (ve_int) (aa_cons (ve_int) (aa_nil)))))) (aa_cons (ve_tup (aa_cons (ve_int) (aa_cons (ve_bl) (aa_cons (ve_int) (aa_cons (ve_int) (aa_nil)))))) (aa_cons (ve_tup (aa_cons (ve_int) (aa_cons (ve_int) (aa_cons (ve_int) (aa_cons (ve_non) (aa_nil)))))) (aa_nil)))))))) (aa_nil))) (hl := len_cons (len_cons (len_nil)))))))
def s__law_lines : SS := sSeq (sSet 3 (vLst (aNil))) (sSeq (sFor (itR1 (vVar 1)) (tgN 4) (sSeq (sSet 5 (vComp (itR1 (vVar 0)) (tgN 6) (List.map (·.2) ([("x", 6)] : List (Str × Nat))) (vC (.bl true)) (vTup (aCons (vVar 6) (aCons (vVar 4) (aNil)))))) (sSet 3 (v2 (pureK2 D.add) (bVar 3) (vIf (vAnd (bVar 2) (v2 (pureK2 D.eqD) (v2 (pureK2 D.mod) (bVar 4) (vC (.int 2))) (vC (.int 1)))) (v1 (pureK1 D.revD) (bVar 5)) (vVar 5)))))) (sRet (vVar 3)))
def f__law_lines : FS := runF 7 s__law_lines
theorem sc__law_lines : FnScope ["width", "height", "is_turning", "found", "y", "line", "x"] ["width", "height", "is_turning"] (defScope (top 43)) := ⟨rfl, rfl, rfl, by decide +kernel, rfl, by decide +kernel, by decide +kernel⟩
theorem c__law_lines (E : Env P w K mg base) (hm : mg "_law_lines" = some (.ref f)) (Fd : FunD K "_law_lines" "_law_lines" (defArgs (top 43)) (defBody (top 43)) (defScope (top 43)) [] [] f fd)  : Cal P w K mg base T 1 "_law_lines" 3 f__law_lines := by
  refine ⟨f, fd, ["width", "height", "is_turning"], hm, ?_, Fd.kp, Fd.bindsN fun _ _ _ _ _ _ us hl => match us, hl with | [_, _, _], _ => rfl⟩
  refine fn_ok Fd sc__law_lines E.bi rfl rfl (by decide) (fun F cdv A outer s H e1 e2 e3 hr xf => ?_)
  subst e1 e2 e3
  exact ss_cons (ss_set xf (L2.PE.keep (vo_lst (aa_nil)))) (ss_cons (ss_for xf (ii_r1 xf (ve_var)) (tg_n xf) (ss_cons (ss_setC xf (ii_r1 xf (ve_var)) (own := [("x", 6)]) (blkOk_by (by rfl)) (fun s H C cl fp xf => tg_n xf) (fun s H C cl fp xf => tq_none) (fun s H C cl fp xf => ve_tup (aa_cons (ve_var) (aa_cons (ve_var) (aa_nil))))) (ss_one (ss_set xf (ve_add xf.K (be_var) (L2.PE.look (ve_if (PWQ.tq (wq_and (L2.PE.tq xf.K (be_var)) (wq_and1 (PV.tq (cv_eq xf.K (Nat.lt_of_le_of_lt (Nat.add_le_add_left (by decide) _) xf.u) (L2.PE.look (ve_mod (be_var) (L2.PE.look (ve_int)))) (L2.PE.look (ve_int))) bl_eq)))) (L2.PE.keep (vo_rev xf (be_var))) (ve_var)))))))) (ss_one (ss_ret (ve_var))))
def s__law_tiles : SS := sSeq (sPar [5, 6] (mF (vLst (aNil)) (mF (vLst (aNil)) (mNil)))) (sSeq (sFor (itR3 (vC (.int 0)) (vVar 1) (vVar 3)) (tgN 7) (sFor (itR3 (vC (.int 0)) (vVar 0) (vVar 2)) (tgN 8) (sSeq (sSet 6 (v2 (pureK2 D.add) (bVar 6) (vLst (aCons (v1 (pureK1 D.len) (bVar 5)) (aNil))))) (sSeq (sSet 9 (vCall f__law_lines (aCons (v2 (pureK2 D.min2) (bVar 2) (v2 (pureK2 D.sub) (bVar 0) (bVar 8))) (aCons (v2 (pureK2 D.min2) (bVar 3) (v2 (pureK2 D.sub) (bVar 1) (bVar 7))) (aCons (vVar 4) (aNil)))))) (sSet 5 (v2 (pureK2 D.add) (bVar 5) (vComp (itSeq (vVar 9)) (tgT 2 (tgsCons (tgN 10) (tgsCons (tgN 11) (tgsNil)))) (List.map (·.2) ([("a", 10), ("b", 11)] : List (Str × Nat))) (vC (.bl true)) (vTup (aCons (v2 (pureK2 D.add) (bVar 8) (bVar 10)) (aCons (v2 (pureK2 D.add) (bVar 7) (bVar 11)) (aNil))))))))))) (sRet (vTup (aCons (vVar 5) (aCons (vVar 6) (aNil))))))
def f__law_tiles : FS := runF 12 s__law_tiles
theorem sc__law_tiles : FnScope ["width", "height", "across", "down", "is_turning", "cells", "starts", "y", "x", "part", "a", "b"] ["width", "height", "across", "down", "is_turning"] (defScope (top 44)) := ⟨rfl, rfl, rfl, by decide +kernel, rfl, by decide +kernel, by decide +kernel⟩
theorem c__law_tiles (E : Env P w K mg base) (hm : mg "_law_tiles" = some (.ref f)) (Fd : FunD K "_law_tiles" "_law_tiles" (defArgs (top 44)) (defBody (top 44)) (defScope (top 44)) [] [] f fd) (c__law_lines : Cal P w K mg base T 1 "_law_lines" 3 f__law_lines) : Cal P w K mg base T 2 "_law_tiles" 5 f__law_tiles := by
  refine ⟨f, fd, ["width", "height", "across", "down", "is_turning"], hm, ?_, Fd.kp, Fd.bindsN fun _ _ _ _ _ _ us hl => match us, hl with | [_, _, _, _, _], _ => rfl⟩
  refine fn_ok Fd sc__law_tiles E.bi rfl rfl (by decide) (fun F cdv A outer s H e1 e2 e3 hr xf => ?_)
  subst e1 e2 e3
  exact ss_cons ((by first | exact ss_par2 xf (am_f (L2.PE.keep (vo_lst (aa_nil))) (am_f (L2.PE.keep (vo_lst (aa_nil))) (am_nil))) | exact ss_parT xf (gs_cons xf (gs_cons xf (gs_nil))) (am_f (L2.PE.keep (vo_lst (aa_nil))) (am_f (L2.PE.keep (vo_lst (aa_nil))) (am_nil))))) (ss_cons (ss_for xf (ii_r3 xf (ve_int) (ve_var) (ve_var)) (tg_n xf) (ss_one (ss_for xf (ii_r3 xf (ve_int) (ve_var) (ve_var)) (tg_n xf) (ss_cons (ss_set xf (ve_add xf.K (be_var) (L2.PE.look (L2.PE.keep (vo_lst (aa_cons (ve_len xf (be_var)) (aa_nil))))))) (ss_cons (ss_set xf (ve_call xf c__law_lines hr (by decide) (aa_cons (ve_min2 xf (be_var) (L2.PE.look (ve_sub (be_var) (be_var)))) (aa_cons (ve_min2 xf (be_var) (L2.PE.look (ve_sub (be_var) (be_var)))) (aa_cons (ve_var) (aa_nil)))) (hl := len_cons (len_cons (len_cons (len_nil)))))) (ss_one (ss_set xf (ve_add xf.K (be_var) (L2.PE.look (L2.PE.keep (vo_comp xf (ii_seq xf (ve_var)) (own := [("a", 10), ("b", 11)]) (blkOk_by (by rfl)) (fun s H C cl fp xf => tg_t xf (tgs_cons (tg_n xf) (tgs_cons (tg_n xf) (tgs_nil)))) (fun s H C cl fp xf => tq_none) (fun s H C cl fp xf => ve_tup (aa_cons (ve_add xf.K (be_var) (be_var)) (aa_cons (ve_add xf.K (be_var) (be_var)) (aa_nil))))))))))))))) (ss_one (ss_ret (ve_tup (aa_cons (ve_var) (aa_cons (ve_var) (aa_nil)))))))
def s__law_round : SS := sSeq (sPar [2, 3, 4, 5] (mF (vLst (aCons (vTup (aCons (vC (.int 0)) (aCons (vC (.int 0)) (aNil)))) (aNil))) (mF (vC (.int 0)) (mF (vC (.int 0)) (mF (vC (.int 0)) (mNil)))))) (sSeq (sFor (itR1 (v2 (pureK2 D.mul) (v2 (pureK2 D.mul) (vC (.int 4)) (bVar 0)) (bVar 1))) (tgN 6) (sSeq (sSet 7 (v2 (pureK2 D.ix) (vLst (aCons (vTup (aCons (vC (.int 1)) (aCons (vC (.int 0)) (aNil)))) (aCons (vTup (aCons (vC (.int 0)) (aCons (vC (.int 1)) (aNil)))) (aCons (vTup (aCons (v1 (pureK1 D.neg) (vC (.int 1))) (aCons (vC (.int 0)) (aNil)))) (aCons (vTup (aCons (vC (.int 0)) (aCons (v1 (pureK1 D.neg) (vC (.int 1))) (aNil)))) (aNil)))))) (bVar 5))) (sSeq (sSet 8 (vTup (aCons (v2 (pureK2 D.add) (bVar 3) (v2 (pureK2 D.ix) (bVar 7) (vC (.int 0)))) (aCons (v2 (pureK2 D.add) (bVar 4) (v2 (pureK2 D.ix) (bVar 7) (vC (.int 1)))) (aNil))))) (sIf (vAnd (vChain (fun i j => decide (i ≤ j)) (fun i j => decide (i < j)) (vC (.int 0)) (v2 (pureK2 D.ix) (bVar 8) (vC (.int 0))) (bVar 0)) (vAnd (vChain (fun i j => decide (i ≤ j)) (fun i j => decide (i < j)) (vC (.int 0)) (v2 (pureK2 D.ix) (bVar 8) (vC (.int 1))) (bVar 1)) (v2 (pureK2 D.notInD) (bVar 8) (bVar 2)))) (sPar [2, 3, 4] (mF (v2 (pureK2 D.add) (bVar 2) (vLst (aCons (vVar 8) (aNil)))) (mF (v2 (pureK2 D.ix) (bVar 8) (vC (.int 0))) (mF (v2 (pureK2 D.ix) (bVar 8) (vC (.int 1))) (mNil))))) (sIf (v2 (pureK2 D.ltD) (v1 (pureK1 D.len) (bVar 2)) (v2 (pureK2 D.mul) (bVar 0) (bVar 1))) (sSet 5 (v2 (pureK2 D.mod) (v2 (pureK2 D.add) (bVar 5) (vC (.int 1))) (vC (.int 4)))) (sNil)))))) (sRet (vVar 2)))
def f__law_round : FS := runF 9 s__law_round
theorem sc__law_round : FnScope ["width", "height", "cells", "x", "y", "way", "turn", "step", "goal"] ["width", "height"] (defScope (top 45)) := ⟨rfl, rfl, rfl, by decide +kernel, rfl, by decide +kernel, by decide +kernel⟩
theorem c__law_round (E : Env P w K mg base) (hm : mg "_law_round" = some (.ref f)) (Fd : FunD K "_law_round" "_law_round" (defArgs (top 45)) (defBody (top 45)) (defScope (top 45)) [] [] f fd)  : Cal P w K mg base T 1 "_law_round" 2 f__law_round := by
  refine ⟨f, fd, ["width", "height"], hm, ?_, Fd.kp, Fd.bindsN fun _ _ _ _ _ _ us hl => match us, hl with | [_, _], _ => rfl⟩
  refine fn_ok Fd sc__law_round E.bi rfl rfl (by decide) (fun F cdv A outer s H e1 e2 e3 hr xf => ?_)
  subst e1 e2 e3
  exact ss_cons (ss_parT xf (gs_cons xf (gs_cons xf (gs_cons xf (gs_cons xf (gs_nil))))) (am_f (L2.PE.keep (vo_lst (aa_cons (ve_tup (aa_cons (ve_int) (aa_cons (ve_int) (aa_nil)))) (aa_nil)))) (am_f (ve_int) (am_f (ve_int) (am_f (ve_int) (am_nil)))))) (ss_cons (ss_for xf (ii_r1 xf (ve_mul (L2.PE.look (ve_mul (L2.PE.look (ve_int)) (be_var))) (be_var))) (tg_n xf) (ss_cons (ss_set xf (ve_ix xf (L2.PE.look (L2.PE.keep (vo_lst (aa_cons (ve_tup (aa_cons (ve_int) (aa_cons (ve_int) (aa_nil)))) (aa_cons (ve_tup (aa_cons (ve_int) (aa_cons (ve_int) (aa_nil)))) (aa_cons (ve_tup (aa_cons (ve_neg (L2.PE.look (ve_int))) (aa_cons (ve_int) (aa_nil)))) (aa_cons (ve_tup (aa_cons (ve_int) (aa_cons (ve_neg (L2.PE.look (ve_int))) (aa_nil)))) (aa_nil)))))))) (be_var))) (ss_cons (ss_set xf (ve_tup (aa_cons (ve_add xf.K (be_var) (L2.PE.look (ve_ix xf (be_var) (L2.PE.look (ve_int))))) (aa_cons (ve_add xf.K (be_var) (L2.PE.look (ve_ix xf (be_var) (L2.PE.look (ve_int))))) (aa_nil))))) (ss_one (ss_if (PWQ.tq (wq_and (PV.tq (cv_chain op_le op_lt (L2.PE.look (ve_int)) (L2.PE.look (ve_ix xf (be_var) (L2.PE.look (ve_int)))) (be_var)) bl_chain) (wq_and (PV.tq (cv_chain op_le op_lt (L2.PE.look (ve_int)) (L2.PE.look (ve_ix xf (be_var) (L2.PE.look (ve_int)))) (be_var)) bl_chain) (wq_and1 (PV.tq (cv_notin xf (be_var) (be_var)) bl_notin))))) (ss_one ((by first | exact ss_par3 xf (am_f (ve_add xf.K (be_var) (L2.PE.look (L2.PE.keep (vo_lst (aa_cons (ve_var) (aa_nil)))))) (am_f (ve_ix xf (be_var) (L2.PE.look (ve_int))) (am_f (ve_ix xf (be_var) (L2.PE.look (ve_int))) (am_nil)))) | exact ss_parT xf (gs_cons xf (gs_cons xf (gs_cons xf (gs_nil)))) (am_f (ve_add xf.K (be_var) (L2.PE.look (L2.PE.keep (vo_lst (aa_cons (ve_var) (aa_nil)))))) (am_f (ve_ix xf (be_var) (L2.PE.look (ve_int))) (am_f (ve_ix xf (be_var) (L2.PE.look (ve_int))) (am_nil))))))) (ss_one (ss_if (PV.tq (cv_cmpI op_lt (nomark _) (L2.PE.look (ve_len xf (be_var))) (L2.PE.look (ve_mul (be_var) (be_var)))) bl_cmpI) (ss_one (ss_set xf (ve_mod (L2.PE.look (ve_add xf.K (be_var) (L2.PE.look (ve_int)))) (L2.PE.look (ve_int))))) (ss_nil)))))))) (ss_one (ss_ret (ve_var))))
def s__law_is : SS := sSeq (sSet 5 (vLst (aCons (vVar 1) (aCons (vVar 2) (aCons (v1 (pureK1 D.tupleD) (bVar 3)) (aCons (v1 (pureK1 D.tupleD) (vCall f__law_unlike (aCons (v2 (pureK2 D.add) (bVar 4) (vLst (aCons (vC (.int 0)) (aNil)))) (aNil)))) (aNil))))))) (sRet (vCall (f__law_alike 6) (aCons (vLst (aCons (v1 (pureK1 (D.fld "Walk" "width")) (bVar 0)) (aCons (v1 (pureK1 (D.fld "Walk" "height")) (bVar 0)) (aCons (v1 (pureK1 (D.fld "Walk" "cells")) (bVar 0)) (aCons (v1 (pureK1 (D.fld "Walk" "starts")) (bVar 0)) (aNil)))))) (aCons (vVar 5) (aNil)))))
def f__law_is : FS := runF 6 s__law_is
theorem sc__law_is : FnScope ["walk", "width", "height", "cells", "starts", "due"] ["walk", "width", "height", "cells", "starts"] (defScope (top 46)) := ⟨rfl, rfl, rfl, by decide +kernel, rfl, by decide +kernel, by decide +kernel⟩
theorem c__law_is (E : Env P w K mg base) (hm : mg "_law_is" = some (.ref f)) (Fd : FunD K "_law_is" "_law_is" (defArgs (top 46)) (defBody (top 46)) (defScope (top 46)) [] [] f fd) (c__law_unlike : Cal P w K mg base T 1 "_law_unlike" 1 f__law_unlike) (c__law_alike : Cal P w K mg base T 6 "_law_alike" 2 (f__law_alike 6)) : Cal P w K mg base T 7 "_law_is" 5 f__law_is := by
  have cf_Walk_starts := E.cf_Walk_starts
  have cf_Walk_cells := E.cf_Walk_cells
  have cf_Walk_height := E.cf_Walk_height
  have cf_Walk_width := E.cf_Walk_width
  refine ⟨f, fd, ["walk", "width", "height", "cells", "starts"], hm, ?_, Fd.kp, Fd.bindsN fun _ _ _ _ _ _ us hl => match us, hl with | [_, _, _, _, _], _ => rfl⟩
  refine fn_ok Fd sc__law_is E.bi rfl rfl (by decide) (fun F cdv A outer s H e1 e2 e3 hr xf => ?_)
  subst e1 e2 e3
  exact ss_cons (ss_set xf (L2.PE.keep (vo_lst (aa_cons (ve_var) (aa_cons (ve_var) (aa_cons (ve_tuple xf (be_var)) (aa_cons (ve_tuple xf (L2.PE.look (ve_call xf c__law_unlike hr (by decide) (aa_cons (ve_add xf.K (be_var) (L2.PE.look (L2.PE.keep (vo_lst (aa_cons (ve_int) (aa_nil)))))) (aa_nil)) (hl := len_cons (len_nil))))) (aa_nil)))))))) (ss_one (ss_ret (ve_call xf c__law_alike hr (by decide) (aa_cons (L2.PE.keep (vo_lst (aa_cons (ve_fld xf cf_Walk_width (be_var)) (aa_cons (ve_fld xf cf_Walk_height (be_var)) (aa_cons (ve_fld xf cf_Walk_cells (be_var)) (aa_cons (ve_fld xf cf_Walk_starts (be_var)) (aa_nil))))))) (aa_cons (ve_var) (aa_nil))) (hl := len_cons (len_cons (len_nil))))))
def s__law_pieces : SS := sSeq (sSet 2 (vLst (aNil))) (sSeq (sFor (itR1 (v1 (pureK1 D.len) (v2 (pureK2 D.ix) (bVar 0) (vC (.int 2))))) (tgN 3) (sIf (vCall f__law_in (aCons (vVar 1) (aCons (v2 (pureK2 D.ix) (v2 (pureK2 D.ix) (bVar 0) (vC (.int 2))) (bVar 3)) (aNil)))) (sIf (vAnd (v2 (pureK2 D.neD) (bVar 2) (vLst (aNil))) (vAnd (v2 (pureK2 D.eqD) (v2 (pureK2 D.ix) (v2 (pureK2 D.ix) (bVar 2) (v2 (pureK2 D.sub) (v1 (pureK1 D.len) (bVar 2)) (vC (.int 1)))) (vC (.int 1))) (v2 (pureK2 D.sub) (bVar 3) (vC (.int 1)))) (v2 (pureK2 D.notInD) (bVar 3) (v2 (pureK2 D.ix) (bVar 0) (vC (.int 3)))))) (sSet 2 (v2 (pureK2 D.add) (vSl (bVar 2) (sN) (sS (v2 (pureK2 D.sub) (v1 (pureK1 D.len) (bVar 2)) (vC (.int 1))))) (vLst (aCons (vTup (aCons (v2 (pureK2 D.ix) (v2 (pureK2 D.ix) (bVar 2) (v2 (pureK2 D.sub) (v1 (pureK1 D.len) (bVar 2)) (vC (.int 1)))) (vC (.int 0))) (aCons (vVar 3) (aNil)))) (aNil))))) (sSet 2 (v2 (pureK2 D.add) (bVar 2) (vLst (aCons (vTup (aCons (vVar 3) (aCons (vVar 3) (aNil)))) (aNil)))))) (sNil))) (sRet (vVar 2)))
def f__law_pieces : FS := runF 4 s__law_pieces
theorem sc__law_pieces : FnScope ["walk", "window", "found", "place"] ["walk", "window"] (defScope (top 47)) := ⟨rfl, rfl, rfl, by decide +kernel, rfl, by decide +kernel, by decide +kernel⟩
theorem c__law_pieces (E : Env P w K mg base) (hm : mg "_law_pieces" = some (.ref f)) (Fd : FunD K "_law_pieces" "_law_pieces" (defArgs (top 47)) (defBody (top 47)) (defScope (top 47)) [] [] f fd) (c__law_in : Cal P w K mg base T 1 "_law_in" 2 f__law_in) : Cal P w K mg base T 2 "_law_pieces" 2 f__law_pieces := by
  refine ⟨f, fd, ["walk", "window"], hm, ?_, Fd.kp, Fd.bindsN fun _ _ _ _ _ _ us hl => match us, hl with | [_, _], _ => rfl⟩
  refine fn_ok Fd sc__law_pieces E.bi rfl rfl (by decide) (fun F cdv A outer s H e1 e2 e3 hr xf => ?_)
  subst e1 e2 e3
  exact ss_cons (ss_set xf (L2.PE.keep (vo_lst (aa_nil)))) (ss_cons (ss_for xf (ii_r1 xf (ve_len xf (L2.PE.look (ve_ix xf (be_var) (L2.PE.look (ve_int)))))) (tg_n xf) (ss_one (ss_if (L2.PE.tq xf.K (L2.PE.look (ve_call xf c__law_in hr (by decide) (aa_cons (ve_var) (aa_cons (ve_ix xf (L2.PE.look (ve_ix xf (be_var) (L2.PE.look (ve_int)))) (be_var)) (aa_nil))) (hl := len_cons (len_cons (len_nil)))))) (ss_one (ss_if (PWQ.tq (wq_and (PV.tq (cv_ne xf.K (Nat.lt_of_le_of_lt (Nat.add_le_add_left (by decide) _) xf.u) (be_var) (L2.PE.look (L2.PE.keep (vo_lst (aa_nil))))) bl_ne) (wq_and (PV.tq (cv_eq xf.K (Nat.lt_of_le_of_lt (Nat.add_le_add_left (by decide) _) xf.u) (L2.PE.look (ve_ix xf (L2.PE.look (ve_ix xf (be_var) (L2.PE.look (ve_sub (L2.PE.look (ve_len xf (be_var))) (L2.PE.look (ve_int)))))) (L2.PE.look (ve_int)))) (L2.PE.look (ve_sub (be_var) (L2.PE.look (ve_int))))) bl_eq) (wq_and1 (PV.tq (cv_notin xf (be_var) (L2.PE.look (ve_ix xf (be_var) (L2.PE.look (ve_int))))) bl_notin))))) (ss_one (ss_set xf (ve_add xf.K (L2.PE.look (ve_slice xf (be_var) (pt_n) (pt_s (L2.PE.look (ve_sub (L2.PE.look (ve_len xf (be_var))) (L2.PE.look (ve_int))))))) (L2.PE.look (L2.PE.keep (vo_lst (aa_cons (ve_tup (aa_cons (ve_ix xf (L2.PE.look (ve_ix xf (be_var) (L2.PE.look (ve_sub (L2.PE.look (ve_len xf (be_var))) (L2.PE.look (ve_int)))))) (L2.PE.look (ve_int))) (aa_cons (ve_var) (aa_nil)))) (aa_nil)))))))) (ss_one (ss_set xf (ve_add xf.K (be_var) (L2.PE.look (L2.PE.keep (vo_lst (aa_cons (ve_tup (aa_cons (ve_var) (aa_cons (ve_var) (aa_nil)))) (aa_nil)))))))))) (ss_nil)))) (ss_one (ss_ret (ve_var))))
def s__law_good_window : SS := sSeq (sIf (vOr (vNot (v1 (pureK1 (D.isBTd own_cls .tuple)) (bVar 1))) (vOr (v2 (pureK2 D.neD) (v1 (pureK1 D.len) (bVar 1)) (vC (.int 4))) (v2 (pureK2 D.neD) (vComp (itSeq (vVar 1)) (tgN 2) (List.map (·.2) ([("one", 2)] : List (Str × Nat))) (vNot (vCall f__law_number (aCons (vVar 2) (aCons (vC (.int 9)) (aNil))))) (vVar 2)) (vLst (aNil))))) (sRet (vC (.bl false))) (sNil)) (sRet (vAnd (v2 (pureK2 D.gtD) (v2 (pureK2 D.ix) (bVar 1) (vC (.int 2))) (vC (.int 0))) (vAnd (v2 (pureK2 D.gtD) (v2 (pureK2 D.ix) (bVar 1) (vC (.int 3))) (vC (.int 0))) (vAnd (v2 (pureK2 D.leD) (v2 (pureK2 D.add) (v2 (pureK2 D.ix) (bVar 1) (vC (.int 0))) (v2 (pureK2 D.ix) (bVar 1) (vC (.int 2)))) (v2 (pureK2 D.ix) (bVar 0) (vC (.int 0)))) (v2 (pureK2 D.leD) (v2 (pureK2 D.add) (v2 (pureK2 D.ix) (bVar 1) (vC (.int 1))) (v2 (pureK2 D.ix) (bVar 1) (vC (.int 3)))) (v2 (pureK2 D.ix) (bVar 0) (vC (.int 1))))))))
def f__law_good_window : FS := runF 3 s__law_good_window
theorem sc__law_good_window : FnScope ["walk", "thing", "one"] ["walk", "thing"] (defScope (top 48)) := ⟨rfl, rfl, rfl, by decide +kernel, rfl, by decide +kernel, by decide +kernel⟩
theorem c__law_good_window (E : Env P w K mg base) (hm : mg "_law_good_window" = some (.ref f)) (Fd : FunD K "_law_good_window" "_law_good_window" (defArgs (top 48)) (defBody (top 48)) (defScope (top 48)) [] [] f fd) (c__law_number : Cal P w K mg base T 1 "_law_number" 2 f__law_number) : Cal P w K mg base T 2 "_law_good_window" 2 f__law_good_window := by
  refine ⟨f, fd, ["walk", "thing"], hm, ?_, Fd.kp, Fd.bindsN fun _ _ _ _ _ _ us hl => match us, hl with | [_, _], _ => rfl⟩
  refine fn_ok Fd sc__law_good_window E.bi rfl rfl (by decide) (fun F cdv A outer s H e1 e2 e3 hr xf => ?_)
  subst e1 e2 e3
  exact ss_cons (ss_if (PWQ.tq (wq_or (tq_not (L2.PE.tq xf.K (L2.PE.look (ve_isBT .tuple xf E.ia (be_var) rfl (hm := xf.tuple) (hv := by decide +kernel))))) (wq_or (PV.tq (cv_ne xf.K (Nat.lt_of_le_of_lt (Nat.add_le_add_left (by decide) _) xf.u) (L2.PE.look (ve_len xf (be_var))) (L2.PE.look (ve_int))) bl_ne) (wq_or1 (PV.tq (cv_ne xf.K (Nat.lt_of_le_of_lt (Nat.add_le_add_left (by decide) _) xf.u) (L2.PE.look (L2.PE.keep (vo_comp xf (ii_seq xf (ve_var)) (own := [("one", 2)]) (blkOk_by (by rfl)) (fun s H C cl fp xf => tg_n xf) (fun s H C cl fp xf => pts_one (tq_not (L2.PE.tq xf.K (L2.PE.look (ve_call xf c__law_number hr (by decide) (aa_cons (ve_var) (aa_cons (ve_int) (aa_nil))) (hl := len_cons (len_cons (len_nil)))))))) (fun s H C cl fp xf => ve_var)))) (L2.PE.look (L2.PE.keep (vo_lst (aa_nil))))) bl_ne))))) (ss_one (ss_ret (ve_bl))) (ss_nil)) (ss_one (ss_ret (ve_and xf.K (PV.pe (cv_cmpI op_gt (nomark _) (L2.PE.look (ve_ix xf (be_var) (L2.PE.look (ve_int)))) (L2.PE.look (ve_int)))) (ve_and xf.K (PV.pe (cv_cmpI op_gt (nomark _) (L2.PE.look (ve_ix xf (be_var) (L2.PE.look (ve_int)))) (L2.PE.look (ve_int)))) (ve_and xf.K (PV.pe (cv_cmpI op_le (nomark _) (L2.PE.look (ve_add xf.K (L2.PE.look (ve_ix xf (be_var) (L2.PE.look (ve_int)))) (L2.PE.look (ve_ix xf (be_var) (L2.PE.look (ve_int)))))) (L2.PE.look (ve_ix xf (be_var) (L2.PE.look (ve_int)))))) (ve_one (PV.pe (cv_cmpI op_le (nomark _) (L2.PE.look (ve_add xf.K (L2.PE.look (ve_ix xf (be_var) (L2.PE.look (ve_int)))) (L2.PE.look (ve_ix xf (be_var) (L2.PE.look (ve_int)))))) (L2.PE.look (ve_ix xf (be_var) (L2.PE.look (ve_int))))))))))))
def s_Walk : SS := sSeq (sExpr (vCall f_check_size (aCons (vVar 1) (aCons (vVar 2) (aNil))))) (sSeq (sSet 5 (v2 (pureK2 D.mul) (bVar 1) (bVar 2))) (sSeq (sIf (vOr (vNot (vCall f_is_row (aCons (vVar 3) (aNil)))) (v2 (pureK2 D.neD) (v1 (pureK1 D.len) (bVar 3)) (bVar 5))) (sRaise "BadCells" (v1 (pureK1 D.neg) (vC (.int 1)))) (sNil)) (sSeq (sFor (itEnum (vVar 3)) (tgT 2 (tgsCons (tgN 6) (tgsCons (tgN 7) (tgsNil)))) (sIf (vOr (vNot (vCall f_is_cell (aCons (vVar 1) (aCons (vVar 2) (aCons (vVar 7) (aNil)))))) (v2 (pureK2 D.inD) (bVar 7) (vSl (bVar 3) (sN) (sS (bVar 6))))) (sRaise "BadCells" (vVar 6)) (sNil))) (sSeq (sIf (vNot (vCall f_is_row (aCons (vVar 4) (aNil)))) (sRaise "BadStarts" (v1 (pureK1 D.neg) (vC (.int 1)))) (sNil)) (sSeq (sFor (itEnum (vVar 4)) (tgT 2 (tgsCons (tgN 6) (tgsCons (tgN 8) (tgsNil)))) (sIf (vOr (vNot (vCall f_is_within (aCons (vVar 8) (aCons (vC (.int 0)) (aCons (v2 (pureK2 D.sub) (bVar 5) (vC (.int 1))) (aNil)))))) (v2 (pureK2 D.inD) (bVar 8) (vSl (bVar 4) (sN) (sS (bVar 6))))) (sRaise "BadStarts" (vVar 6)) (sNil))) (sNil))))))
def fl_Walk : List (Str × SE) := [("width", vVar 1), ("height", vVar 2), ("cells", v1 (pureK1 D.tupleD) (bVar 3)), ("starts", v1 (pureK1 D.tupleD) (v1 (pureK1 D.sortSet) (v2 (pureK2 D.add) (v1 (pureK1 D.listD) (bVar 4)) (vLst (aCons (vC (.int 0)) (aNil))))))]
abbrev n_Walk : Nat := 5
abbrev nN_Walk : Nat := 9
noncomputable def mk_Walk : FS := mkF "Walk" nN_Walk s_Walk fl_Walk
theorem sc_Walk : FnScope ["self", "width", "height", "cells", "starts", "many", "index", "cell", "start"] ["self", "width", "height", "cells", "starts"] (defScope (sub 15 0)) := ⟨rfl, rfl, rfl, by decide +kernel, rfl, by decide +kernel, by decide +kernel⟩
theorem k_Walk (E : Env P w K mg base) {C : Addr} (hm : mg "Walk" = some (.ref C)) (hc : Cls K C) (M : Mk K C f) (hno : ∀ q ∈ fl_Walk, NoAttr K C q.1) (Fd : FunD K "__init__" "Walk.__init__" (defArgs (sub 15 0)) (defBody (sub 15 0)) (defScope (sub 15 0)) [] [] f fd) (c_check_size : Cal P w K mg base T 3 "check_size" 2 f_check_size) (c_is_row : Cal P w K mg base T 1 "is_row" 1 f_is_row) (c_is_cell : Cal P w K mg base T 3 "is_cell" 3 f_is_cell) (c_is_within : Cal P w K mg base T 2 "is_within" 3 f_is_within) : Mak P w K mg base T 4 "Walk" n_Walk nN_Walk s_Walk fl_Walk := by
  refine ⟨C, f, fd, ["self", "width", "height", "cells", "starts"], hm, M, ?_, Fd.bindsN fun _ _ _ _ _ _ us hl => match us, hl with | [_, _, _, _, _], _ => rfl, hc, hno⟩
  refine init_ok Fd sc_Walk E.bi rfl rfl (by decide) (fun F cdv A outer s H e1 e2 e3 hr xf => ?_)
  subst e1 e2 e3
  exact si_cons (ss_expr (ve_call xf c_check_size hr (by decide) (aa_cons (ve_var) (aa_cons (ve_var) (aa_nil))) (hl := len_cons (len_cons (len_nil))))) (si_cons (ss_set xf (ve_mul (be_var) (be_var))) (si_cons (ss_if (PWQ.tq (wq_or (tq_not (L2.PE.tq xf.K (L2.PE.look (ve_call xf c_is_row hr (by decide) (aa_cons (ve_var) (aa_nil)) (hl := len_cons (len_nil)))))) (wq_or1 (PV.tq (cv_ne xf.K (Nat.lt_of_le_of_lt (Nat.add_le_add_left (by decide) _) xf.u) (L2.PE.look (ve_len xf (be_var))) (be_var)) bl_ne)))) (ss_one (ss_raise xf (ErrK.to (E.err "BadCells" (by decide))) hr (by decide) (ve_neg (L2.PE.look (ve_int))))) (ss_nil)) (si_cons (ss_for xf (ii_enum xf (ve_var)) (tg_t xf (tgs_cons (tg_n xf) (tgs_cons (tg_n xf) (tgs_nil)))) (ss_one (ss_if (PWQ.tq (wq_or (tq_not (L2.PE.tq xf.K (L2.PE.look (ve_call xf c_is_cell hr (by decide) (aa_cons (ve_var) (aa_cons (ve_var) (aa_cons (ve_var) (aa_nil)))) (hl := len_cons (len_cons (len_cons (len_nil)))))))) (wq_or1 (PV.tq (cv_in xf (be_var) (L2.PE.look (ve_slice xf (be_var) (pt_n) (pt_s (be_var))))) bl_in)))) (ss_one (ss_raise xf (ErrK.to (E.err "BadCells" (by decide))) hr (by decide) (ve_var))) (ss_nil)))) (si_cons (ss_if (tq_not (L2.PE.tq xf.K (L2.PE.look (ve_call xf c_is_row hr (by decide) (aa_cons (ve_var) (aa_nil)) (hl := len_cons (len_nil)))))) (ss_one (ss_raise xf (ErrK.to (E.err "BadStarts" (by decide))) hr (by decide) (ve_neg (L2.PE.look (ve_int))))) (ss_nil)) (si_cons (ss_for xf (ii_enum xf (ve_var)) (tg_t xf (tgs_cons (tg_n xf) (tgs_cons (tg_n xf) (tgs_nil)))) (ss_one (ss_if (PWQ.tq (wq_or (tq_not (L2.PE.tq xf.K (L2.PE.look (ve_call xf c_is_within hr (by decide) (aa_cons (ve_var) (aa_cons (ve_int) (aa_cons (ve_sub (be_var) (L2.PE.look (ve_int))) (aa_nil)))) (hl := len_cons (len_cons (len_cons (len_nil)))))))) (wq_or1 (PV.tq (cv_in xf (be_var) (L2.PE.look (ve_slice xf (be_var) (pt_n) (pt_s (be_var))))) bl_in)))) (ss_one (ss_raise xf (ErrK.to (E.err "BadStarts" (by decide))) hr (by decide) (ve_var))) (ss_nil)))) (si_tail (sj_cons xf (ve_var) (sj_cons xf (ve_var) (sj_cons xf (ve_tuple xf (be_var)) (sj_cons xf (ve_tuple xf (L2.PE.look (L2.PE.keep (vo_sortSet xf (L2.PE.look (ve_add xf.K (L2.PE.look (L2.PE.keep (vo_list xf (be_var)))) (L2.PE.look (L2.PE.keep (vo_lst (aa_cons (ve_int) (aa_nil))))))))))) (sj_nil) rfl (Or.inl rfl)) rfl (Or.inl rfl)) rfl (Or.inl rfl)) rfl (Or.inl rfl)) (by decide) (by decide)))))))
noncomputable def s_rows_walk : SS := sSeq (sExpr (vCall f_check_size (aCons (vVar 0) (aCons (vVar 1) (aNil))))) (sRet (vMake (mk_Walk) (aCons (vVar 0) (aCons (vVar 1) (aCons (vCall f_lines_of (aCons (vVar 0) (aCons (vVar 1) (aCons (vC (.bl false)) (aNil))))) (aCons (vLst (aCons (vC (.int 0)) (aNil))) (aNil)))))))
noncomputable def f_rows_walk : FS := runF 2 s_rows_walk
theorem sc_rows_walk : FnScope ["width", "height"] ["width", "height"] (defScope (top 26)) := ⟨rfl, rfl, rfl, by decide +kernel, rfl, by decide +kernel, by decide +kernel⟩
theorem c_rows_walk (E : Env P w K mg base) (hm : mg "rows_walk" = some (.ref f)) (Fd : FunD K "rows_walk" "rows_walk" (defArgs (top 26)) (defBody (top 26)) (defScope (top 26)) [] [] f fd) (c_check_size : Cal P w K mg base T 3 "check_size" 2 f_check_size) (c_lines_of : Cal P w K mg base T 1 "lines_of" 3 f_lines_of) (k_Walk : Mak P w K mg base T 4 "Walk" n_Walk nN_Walk s_Walk fl_Walk) : Cal P w K mg base T 6 "rows_walk" 2 f_rows_walk := by
  refine ⟨f, fd, ["width", "height"], hm, ?_, Fd.kp, Fd.bindsN fun _ _ _ _ _ _ us hl => match us, hl with | [_, _], _ => rfl⟩
  refine fn_ok Fd sc_rows_walk E.bi rfl rfl (by decide) (fun F cdv A outer s H e1 e2 e3 hr xf => ?_)
  subst e1 e2 e3
  exact ss_cons (ss_expr (ve_call xf c_check_size hr (by decide) (aa_cons (ve_var) (aa_cons (ve_var) (aa_nil))) (hl := len_cons (len_cons (len_nil))))) (ss_one (ss_ret (L2.PE.keep (ve_make xf k_Walk hr (by decide) (aa_cons (ve_var) (aa_cons (ve_var) (aa_cons (ve_call xf c_lines_of hr (by decide) (aa_cons (ve_var) (aa_cons (ve_var) (aa_cons (ve_bl) (aa_nil)))) (hl := len_cons (len_cons (len_cons (len_nil))))) (aa_cons (L2.PE.keep (vo_lst (aa_cons (ve_int) (aa_nil)))) (aa_nil))))) (len_cons (len_cons (len_cons (len_cons (len_nil)))))))))
noncomputable def s_snake_walk : SS := sSeq (sExpr (vCall f_check_size (aCons (vVar 0) (aCons (vVar 1) (aNil))))) (sRet (vMake (mk_Walk) (aCons (vVar 0) (aCons (vVar 1) (aCons (vCall f_lines_of (aCons (vVar 0) (aCons (vVar 1) (aCons (vC (.bl true)) (aNil))))) (aCons (vLst (aCons (vC (.int 0)) (aNil))) (aNil)))))))
noncomputable def f_snake_walk : FS := runF 2 s_snake_walk
theorem sc_snake_walk : FnScope ["width", "height"] ["width", "height"] (defScope (top 27)) := ⟨rfl, rfl, rfl, by decide +kernel, rfl, by decide +kernel, by decide +kernel⟩
theorem c_snake_walk (E : Env P w K mg base) (hm : mg "snake_walk" = some (.ref f)) (Fd : FunD K "snake_walk" "snake_walk" (defArgs (top 27)) (defBody (top 27)) (defScope (top 27)) [] [] f fd) (c_check_size : Cal P w K mg base T 3 "check_size" 2 f_check_size) (c_lines_of : Cal P w K mg base T 1 "lines_of" 3 f_lines_of) (k_Walk : Mak P w K mg base T 4 "Walk" n_Walk nN_Walk s_Walk fl_Walk) : Cal P w K mg base T 6 "snake_walk" 2 f_snake_walk := by
  refine ⟨f, fd, ["width", "height"], hm, ?_, Fd.kp, Fd.bindsN fun _ _ _ _ _ _ us hl => match us, hl with | [_, _], _ => rfl⟩
  refine fn_ok Fd sc_snake_walk E.bi rfl rfl (by decide) (fun F cdv A outer s H e1 e2 e3 hr xf => ?_)
  subst e1 e2 e3
  exact ss_cons (ss_expr (ve_call xf c_check_size hr (by decide) (aa_cons (ve_var) (aa_cons (ve_var) (aa_nil))) (hl := len_cons (len_cons (len_nil))))) (ss_one (ss_ret (L2.PE.keep (ve_make xf k_Walk hr (by decide) (aa_cons (ve_var) (aa_cons (ve_var) (aa_cons (ve_call xf c_lines_of hr (by decide) (aa_cons (ve_var) (aa_cons (ve_var) (aa_cons (ve_bl) (aa_nil)))) (hl := len_cons (len_cons (len_cons (len_nil))))) (aa_cons (L2.PE.keep (vo_lst (aa_cons (ve_int) (aa_nil)))) (aa_nil))))) (len_cons (len_cons (len_cons (len_cons (len_nil)))))))))
noncomputable def s_round_walk : SS := sSeq (sExpr (vCall f_check_size (aCons (vVar 0) (aCons (vVar 1) (aNil))))) (sSeq (sPar [2, 3, 4, 5, 6] (mO (vLst (aNil)) (mF (vC (.int 0)) (mF (vC (.int 0)) (mF (v2 (pureK2 D.sub) (bVar 0) (vC (.int 1))) (mF (v2 (pureK2 D.sub) (bVar 1) (vC (.int 1))) (mNil))))))) (sSeq (whileL (vAnd (v2 (pureK2 D.leD) (bVar 3) (bVar 5)) (v2 (pureK2 D.leD) (bVar 4) (bVar 6))) (sSeq (sSet 7 (vComp (itR2 (vVar 3) (v2 (pureK2 D.add) (bVar 5) (vC (.int 1)))) (tgN 8) (List.map (·.2) ([("column", 8)] : List (Str × Nat))) (vC (.bl true)) (vTup (aCons (vVar 8) (aCons (vVar 4) (aNil)))))) (sSeq (sSet 7 (v2 (pureK2 D.add) (bVar 7) (vComp (itR2 (v2 (pureK2 D.add) (bVar 4) (vC (.int 1))) (v2 (pureK2 D.add) (bVar 6) (vC (.int 1)))) (tgN 9) (List.map (·.2) ([("row", 9)] : List (Str × Nat))) (vC (.bl true)) (vTup (aCons (vVar 5) (aCons (vVar 9) (aNil))))))) (sSeq (sIf (v2 (pureK2 D.ltD) (bVar 4) (bVar 6)) (sSet 7 (v2 (pureK2 D.add) (bVar 7) (vComp (itR3 (v2 (pureK2 D.sub) (bVar 5) (vC (.int 1))) (v2 (pureK2 D.sub) (bVar 3) (vC (.int 1))) (v1 (pureK1 D.neg) (vC (.int 1)))) (tgN 8) (List.map (·.2) ([("column", 8)] : List (Str × Nat))) (vC (.bl true)) (vTup (aCons (vVar 8) (aCons (vVar 6) (aNil))))))) (sNil)) (sSeq (sIf (v2 (pureK2 D.ltD) (bVar 3) (bVar 5)) (sSet 7 (v2 (pureK2 D.add) (bVar 7) (vComp (itR3 (v2 (pureK2 D.sub) (bVar 6) (vC (.int 1))) (vVar 4) (v1 (pureK1 D.neg) (vC (.int 1)))) (tgN 9) (List.map (·.2) ([("row", 9)] : List (Str × Nat))) (vC (.bl true)) (vTup (aCons (vVar 3) (aCons (vVar 9) (aNil))))))) (sNil)) (sSeq (sExt 2 (vVar 7)) (sPar [3, 4, 5, 6] (mF (v2 (pureK2 D.add) (bVar 3) (vC (.int 1))) (mF (v2 (pureK2 D.add) (bVar 4) (vC (.int 1))) (mF (v2 (pureK2 D.sub) (bVar 5) (vC (.int 1))) (mF (v2 (pureK2 D.sub) (bVar 6) (vC (.int 1))) (mNil))))))))))) 100000) (sFz 2 (sRet (vMake (mk_Walk) (aCons (vVar 0) (aCons (vVar 1) (aCons (vVar 2) (aCons (vLst (aCons (vC (.int 0)) (aNil))) (aNil))))))))))
noncomputable def f_round_walk : FS := runF 10 s_round_walk
theorem sc_round_walk : FnScope ["width", "height", "found", "left", "low", "right", "high", "rim", "column", "row"] ["width", "height"] (defScope (top 28)) := ⟨rfl, rfl, rfl, by decide +kernel, rfl, by decide +kernel, by decide +kernel⟩
theorem c_round_walk (E : Env P w K mg base) (hm : mg "round_walk" = some (.ref f)) (Fd : FunD K "round_walk" "round_walk" (defArgs (top 28)) (defBody (top 28)) (defScope (top 28)) [] [] f fd) (c_check_size : Cal P w K mg base T 3 "check_size" 2 f_check_size) (k_Walk : Mak P w K mg base T 4 "Walk" n_Walk nN_Walk s_Walk fl_Walk) : Cal P w K mg base T 6 "round_walk" 2 f_round_walk := by
  refine ⟨f, fd, ["width", "height"], hm, ?_, Fd.kp, Fd.bindsN fun _ _ _ _ _ _ us hl => match us, hl with | [_, _], _ => rfl⟩
  refine fn_ok Fd sc_round_walk E.bi rfl rfl (by decide) (fun F cdv A outer s H e1 e2 e3 hr xf => ?_)
  subst e1 e2 e3
  exact ss_cons (ss_expr (ve_call xf c_check_size hr (by decide) (aa_cons (ve_var) (aa_cons (ve_var) (aa_nil))) (hl := len_cons (len_cons (len_nil))))) (ss_cons (ss_parT xf (gs_cons xf (gs_cons xf (gs_cons xf (gs_cons xf (gs_cons xf (gs_nil)))))) (am_o (vo_lst (aa_nil)) (am_f (ve_int) (am_f (ve_int) (am_f (ve_sub (be_var) (L2.PE.look (ve_int))) (am_f (ve_sub (be_var) (L2.PE.look (ve_int))) (am_nil))))))) (ss_cons (ss_while 100000 xf (PWQ.tq (wq_and (PV.tq (cv_cmpI op_le (nomark _) (be_var) (be_var)) bl_cmpI) (wq_and1 (PV.tq (cv_cmpI op_le (nomark _) (be_var) (be_var)) bl_cmpI)))) (ss_cons (ss_setC xf (ii_r2 xf (ve_var) (ve_add xf.K (be_var) (L2.PE.look (ve_int)))) (own := [("column", 8)]) (blkOk_by (by rfl)) (fun s H C cl fp xf => tg_n xf) (fun s H C cl fp xf => tq_none) (fun s H C cl fp xf => ve_tup (aa_cons (ve_var) (aa_cons (ve_var) (aa_nil))))) (ss_cons (ss_set xf (ve_add xf.K (be_var) (L2.PE.look (L2.PE.keep (vo_comp xf (ii_r2 xf (ve_add xf.K (be_var) (L2.PE.look (ve_int))) (ve_add xf.K (be_var) (L2.PE.look (ve_int)))) (own := [("row", 9)]) (blkOk_by (by rfl)) (fun s H C cl fp xf => tg_n xf) (fun s H C cl fp xf => tq_none) (fun s H C cl fp xf => ve_tup (aa_cons (ve_var) (aa_cons (ve_var) (aa_nil))))))))) (ss_cons (ss_if (PV.tq (cv_cmpI op_lt (nomark _) (be_var) (be_var)) bl_cmpI) (ss_one (ss_set xf (ve_add xf.K (be_var) (L2.PE.look (L2.PE.keep (vo_comp xf (ii_r3 xf (ve_sub (be_var) (L2.PE.look (ve_int))) (ve_sub (be_var) (L2.PE.look (ve_int))) (ve_neg (L2.PE.look (ve_int)))) (own := [("column", 8)]) (blkOk_by (by rfl)) (fun s H C cl fp xf => tg_n xf) (fun s H C cl fp xf => tq_none) (fun s H C cl fp xf => ve_tup (aa_cons (ve_var) (aa_cons (ve_var) (aa_nil)))))))))) (ss_nil)) (ss_cons (ss_if (PV.tq (cv_cmpI op_lt (nomark _) (be_var) (be_var)) bl_cmpI) (ss_one (ss_set xf (ve_add xf.K (be_var) (L2.PE.look (L2.PE.keep (vo_comp xf (ii_r3 xf (ve_sub (be_var) (L2.PE.look (ve_int))) (ve_var) (ve_neg (L2.PE.look (ve_int)))) (own := [("row", 9)]) (blkOk_by (by rfl)) (fun s H C cl fp xf => tg_n xf) (fun s H C cl fp xf => tq_none) (fun s H C cl fp xf => ve_tup (aa_cons (ve_var) (aa_cons (ve_var) (aa_nil)))))))))) (ss_nil)) (ss_cons (ss_ext (ve_var) xf) (ss_one (ss_parT xf (gs_cons xf (gs_cons xf (gs_cons xf (gs_cons xf (gs_nil))))) (am_f (ve_add xf.K (be_var) (L2.PE.look (ve_int))) (am_f (ve_add xf.K (be_var) (L2.PE.look (ve_int))) (am_f (ve_sub (be_var) (L2.PE.look (ve_int))) (am_f (ve_sub (be_var) (L2.PE.look (ve_int))) (am_nil))))))))))))) (ss_one (ss_fz 2 (ss_ret (L2.PE.keep (ve_make xf k_Walk hr (by decide) (aa_cons (ve_var) (aa_cons (ve_var) (aa_cons (ve_var) (aa_cons (L2.PE.keep (vo_lst (aa_cons (ve_int) (aa_nil)))) (aa_nil))))) (len_cons (len_cons (len_cons (len_cons (len_nil))))))))))))
noncomputable def s_tiles_walk : SS := sSeq (sExpr (vCall f_check_size (aCons (vVar 0) (aCons (vVar 1) (aNil))))) (sSeq (sFor (itSeq (vTup (aCons (vTup (aCons (vVar 2) (aCons (vVar 0) (aNil)))) (aCons (vTup (aCons (vVar 3) (aCons (vVar 1) (aNil)))) (aNil))))) (tgT 2 (tgsCons (tgN 6) (tgsCons (tgN 7) (tgsNil)))) (sIf (vNot (vCall f_is_within (aCons (vVar 6) (aCons (vC (.int 1)) (aCons (vVar 7) (aNil)))))) (sRaise "BadTiles" (vVar 6)) (sNil))) (sSeq (sPar [8, 9] (mO (vLst (aNil)) (mO (vLst (aNil)) (mNil)))) (sSeq (sFor (itR3 (vC (.int 0)) (vVar 1) (vVar 3)) (tgN 10) (sFor (itR3 (vC (.int 0)) (vVar 0) (vVar 2)) (tgN 11) (sSeq (sApp 9 (v1 (pureK1 D.len) (bVar 8))) (sSeq (sPar [12, 13] (mF (v2 (pureK2 D.min2) (bVar 2) (v2 (pureK2 D.sub) (bVar 0) (bVar 11))) (mF (v2 (pureK2 D.min2) (bVar 3) (v2 (pureK2 D.sub) (bVar 1) (bVar 10))) (mNil)))) (sExt 8 (vComp (itSeq (vCall f_lines_of (aCons (vVar 12) (aCons (vVar 13) (aCons (vVar 4) (aNil)))))) (tgT 2 (tgsCons (tgN 14) (tgsCons (tgN 15) (tgsNil)))) (List.map (·.2) ([("x", 14), ("y", 15)] : List (Str × Nat))) (vC (.bl true)) (vTup (aCons (v2 (pureK2 D.add) (bVar 11) (bVar 14)) (aCons (v2 (pureK2 D.add) (bVar 10) (bVar 15)) (aNil)))))))))) (sFz 9 (sFz 8 (sRet (vMake (mk_Walk) (aCons (vVar 0) (aCons (vVar 1) (aCons (vVar 8) (aCons (vIf (bVar 5) (vVar 9) (vLst (aCons (vC (.int 0)) (aNil)))) (aNil))))))))))))
noncomputable def f_tiles_walk : FS := runF 16 s_tiles_walk
theorem sc_tiles_walk : FnScope ["width", "height", "across", "down", "is_turning", "is_cut", "side", "most", "found", "starts", "row", "column", "wide", "high", "x", "y"] ["width", "height", "across", "down", "is_turning", "is_cut"] (defScope (top 29)) := ⟨rfl, rfl, rfl, by decide +kernel, rfl, by decide +kernel, by decide +kernel⟩
theorem c_tiles_walk (E : Env P w K mg base) (hm : mg "tiles_walk" = some (.ref f)) (Fd : FunD K "tiles_walk" "tiles_walk" (defArgs (top 29)) (defBody (top 29)) (defScope (top 29)) [] [] f fd) (c_check_size : Cal P w K mg base T 3 "check_size" 2 f_check_size) (c_is_within : Cal P w K mg base T 2 "is_within" 3 f_is_within) (c_lines_of : Cal P w K mg base T 1 "lines_of" 3 f_lines_of) (k_Walk : Mak P w K mg base T 4 "Walk" n_Walk nN_Walk s_Walk fl_Walk) : Cal P w K mg base T 6 "tiles_walk" 6 f_tiles_walk := by
  refine ⟨f, fd, ["width", "height", "across", "down", "is_turning", "is_cut"], hm, ?_, Fd.kp, Fd.bindsN fun _ _ _ _ _ _ us hl => match us, hl with | [_, _, _, _, _, _], _ => rfl⟩
  refine fn_ok Fd sc_tiles_walk E.bi rfl rfl (by decide) (fun F cdv A outer s H e1 e2 e3 hr xf => ?_)
  subst e1 e2 e3
  exact ss_cons (ss_expr (ve_call xf c_check_size hr (by decide) (aa_cons (ve_var) (aa_cons (ve_var) (aa_nil))) (hl := len_cons (len_cons (len_nil))))) (ss_cons (ss_for xf (ii_seq xf (ve_tup (aa_cons (ve_tup (aa_cons (ve_var) (aa_cons (ve_var) (aa_nil)))) (aa_cons (ve_tup (aa_cons (ve_var) (aa_cons (ve_var) (aa_nil)))) (aa_nil))))) (tg_t xf (tgs_cons (tg_n xf) (tgs_cons (tg_n xf) (tgs_nil)))) (ss_one (ss_if (tq_not (L2.PE.tq xf.K (L2.PE.look (ve_call xf c_is_within hr (by decide) (aa_cons (ve_var) (aa_cons (ve_int) (aa_cons (ve_var) (aa_nil)))) (hl := len_cons (len_cons (len_cons (len_nil)))))))) (ss_one (ss_raise xf (ErrK.to (E.err "BadTiles" (by decide))) hr (by decide) (ve_var))) (ss_nil)))) (ss_cons ((by first | exact ss_par2 xf (am_o (vo_lst (aa_nil)) (am_o (vo_lst (aa_nil)) (am_nil))) | exact ss_parT xf (gs_cons xf (gs_cons xf (gs_nil))) (am_o (vo_lst (aa_nil)) (am_o (vo_lst (aa_nil)) (am_nil))))) (ss_cons (ss_for xf (ii_r3 xf (ve_int) (ve_var) (ve_var)) (tg_n xf) (ss_one (ss_for xf (ii_r3 xf (ve_int) (ve_var) (ve_var)) (tg_n xf) (ss_cons (ss_app (ve_len xf (be_var)) xf) (ss_cons ((by first | exact ss_par2 xf (am_f (ve_min2 xf (be_var) (L2.PE.look (ve_sub (be_var) (be_var)))) (am_f (ve_min2 xf (be_var) (L2.PE.look (ve_sub (be_var) (be_var)))) (am_nil))) | exact ss_parT xf (gs_cons xf (gs_cons xf (gs_nil))) (am_f (ve_min2 xf (be_var) (L2.PE.look (ve_sub (be_var) (be_var)))) (am_f (ve_min2 xf (be_var) (L2.PE.look (ve_sub (be_var) (be_var)))) (am_nil))))) (ss_one (ss_ext (L2.PE.keep (vo_comp xf (ii_seq xf (ve_call xf c_lines_of hr (by decide) (aa_cons (ve_var) (aa_cons (ve_var) (aa_cons (ve_var) (aa_nil)))) (hl := len_cons (len_cons (len_cons (len_nil)))))) (own := [("x", 14), ("y", 15)]) (blkOk_by (by rfl)) (fun s H C cl fp xf => tg_t xf (tgs_cons (tg_n xf) (tgs_cons (tg_n xf) (tgs_nil)))) (fun s H C cl fp xf => tq_none) (fun s H C cl fp xf => ve_tup (aa_cons (ve_add xf.K (be_var) (be_var)) (aa_cons (ve_add xf.K (be_var) (be_var)) (aa_nil)))))) xf))))))) (ss_one (ss_fz 9 (ss_fz 8 (ss_ret (L2.PE.keep (ve_make xf k_Walk hr (by decide) (aa_cons (ve_var) (aa_cons (ve_var) (aa_cons (ve_var) (aa_cons (ve_if (L2.PE.tq xf.K (be_var)) (ve_var) (L2.PE.keep (vo_lst (aa_cons (ve_int) (aa_nil))))) (aa_nil))))) (len_cons (len_cons (len_cons (len_cons (len_nil))))))))))))))
noncomputable def s_mirrored_walk : SS := sSeq (sExpr (vCall f_check_walk (aCons (vVar 0) (aNil)))) (sSeq (sSet 1 (vComp (itSeq (v1 (pureK1 (D.fld "Walk" "cells")) (bVar 0))) (tgT 2 (tgsCons (tgN 2) (tgsCons (tgN 3) (tgsNil)))) (List.map (·.2) ([("column", 2), ("row", 3)] : List (Str × Nat))) (vC (.bl true)) (vTup (aCons (v2 (pureK2 D.sub) (v2 (pureK2 D.sub) (v1 (pureK1 (D.fld "Walk" "width")) (bVar 0)) (vC (.int 1))) (bVar 2)) (aCons (vVar 3) (aNil)))))) (sRet (vMake (mk_Walk) (aCons (v1 (pureK1 (D.fld "Walk" "width")) (bVar 0)) (aCons (v1 (pureK1 (D.fld "Walk" "height")) (bVar 0)) (aCons (vVar 1) (aCons (v1 (pureK1 (D.fld "Walk" "starts")) (bVar 0)) (aNil))))))))
noncomputable def f_mirrored_walk : FS := runF 4 s_mirrored_walk
theorem sc_mirrored_walk : FnScope ["walk", "cells", "column", "row"] ["walk"] (defScope (top 30)) := ⟨rfl, rfl, rfl, by decide +kernel, rfl, by decide +kernel, by decide +kernel⟩
theorem c_mirrored_walk (E : Env P w K mg base) (hm : mg "mirrored_walk" = some (.ref f)) (Fd : FunD K "mirrored_walk" "mirrored_walk" (defArgs (top 30)) (defBody (top 30)) (defScope (top 30)) [] [] f fd) (c_check_walk : Cal P w K mg base T 3 "check_walk" 1 f_check_walk) (k_Walk : Mak P w K mg base T 4 "Walk" n_Walk nN_Walk s_Walk fl_Walk) : Cal P w K mg base T 6 "mirrored_walk" 1 f_mirrored_walk := by
  have cf_Walk_cells := E.cf_Walk_cells
  have cf_Walk_width := E.cf_Walk_width
  have cf_Walk_starts := E.cf_Walk_starts
  have cf_Walk_height := E.cf_Walk_height
  refine ⟨f, fd, ["walk"], hm, ?_, Fd.kp, Fd.bindsN fun _ _ _ _ _ _ us hl => match us, hl with | [_], _ => rfl⟩
  refine fn_ok Fd sc_mirrored_walk E.bi rfl rfl (by decide) (fun F cdv A outer s H e1 e2 e3 hr xf => ?_)
  subst e1 e2 e3
  exact ss_cons (ss_expr (ve_call xf c_check_walk hr (by decide) (aa_cons (ve_var) (aa_nil)) (hl := len_cons (len_nil)))) (ss_cons (ss_setC xf (ii_seq xf (ve_fld xf cf_Walk_cells (be_var))) (own := [("column", 2), ("row", 3)]) (blkOk_by (by rfl)) (fun s H C cl fp xf => tg_t xf (tgs_cons (tg_n xf) (tgs_cons (tg_n xf) (tgs_nil)))) (fun s H C cl fp xf => tq_none) (fun s H C cl fp xf => ve_tup (aa_cons (ve_sub (L2.PE.look (ve_sub (L2.PE.look (ve_fld xf cf_Walk_width (be_var))) (L2.PE.look (ve_int)))) (be_var)) (aa_cons (ve_var) (aa_nil))))) (ss_one (ss_ret (L2.PE.keep (ve_make xf k_Walk hr (by decide) (aa_cons (ve_fld xf cf_Walk_width (be_var)) (aa_cons (ve_fld xf cf_Walk_height (be_var)) (aa_cons (ve_var) (aa_cons (ve_fld xf cf_Walk_starts (be_var)) (aa_nil))))) (len_cons (len_cons (len_cons (len_cons (len_nil))))))))))
noncomputable def s_turned_walk : SS := sSeq (sExpr (vCall f_check_walk (aCons (vVar 0) (aNil)))) (sRet (vMake (mk_Walk) (aCons (v1 (pureK1 (D.fld "Walk" "height")) (bVar 0)) (aCons (v1 (pureK1 (D.fld "Walk" "width")) (bVar 0)) (aCons (vComp (itSeq (v1 (pureK1 (D.fld "Walk" "cells")) (bVar 0))) (tgT 2 (tgsCons (tgN 1) (tgsCons (tgN 2) (tgsNil)))) (List.map (·.2) ([("column", 1), ("row", 2)] : List (Str × Nat))) (vC (.bl true)) (vTup (aCons (vVar 2) (aCons (vVar 1) (aNil))))) (aCons (v1 (pureK1 (D.fld "Walk" "starts")) (bVar 0)) (aNil)))))))
noncomputable def f_turned_walk : FS := runF 3 s_turned_walk
theorem sc_turned_walk : FnScope ["walk", "column", "row"] ["walk"] (defScope (top 31)) := ⟨rfl, rfl, rfl, by decide +kernel, rfl, by decide +kernel, by decide +kernel⟩
theorem c_turned_walk (E : Env P w K mg base) (hm : mg "turned_walk" = some (.ref f)) (Fd : FunD K "turned_walk" "turned_walk" (defArgs (top 31)) (defBody (top 31)) (defScope (top 31)) [] [] f fd) (c_check_walk : Cal P w K mg base T 3 "check_walk" 1 f_check_walk) (k_Walk : Mak P w K mg base T 4 "Walk" n_Walk nN_Walk s_Walk fl_Walk) : Cal P w K mg base T 6 "turned_walk" 1 f_turned_walk := by
  have cf_Walk_starts := E.cf_Walk_starts
  have cf_Walk_cells := E.cf_Walk_cells
  have cf_Walk_width := E.cf_Walk_width
  have cf_Walk_height := E.cf_Walk_height
  refine ⟨f, fd, ["walk"], hm, ?_, Fd.kp, Fd.bindsN fun _ _ _ _ _ _ us hl => match us, hl with | [_], _ => rfl⟩
  refine fn_ok Fd sc_turned_walk E.bi rfl rfl (by decide) (fun F cdv A outer s H e1 e2 e3 hr xf => ?_)
  subst e1 e2 e3
  exact ss_cons (ss_expr (ve_call xf c_check_walk hr (by decide) (aa_cons (ve_var) (aa_nil)) (hl := len_cons (len_nil)))) (ss_one (ss_ret (L2.PE.keep (ve_make xf k_Walk hr (by decide) (aa_cons (ve_fld xf cf_Walk_height (be_var)) (aa_cons (ve_fld xf cf_Walk_width (be_var)) (aa_cons (L2.PE.keep (vo_comp xf (ii_seq xf (ve_fld xf cf_Walk_cells (be_var))) (own := [("column", 1), ("row", 2)]) (blkOk_by (by rfl)) (fun s H C cl fp xf => tg_t xf (tgs_cons (tg_n xf) (tgs_cons (tg_n xf) (tgs_nil)))) (fun s H C cl fp xf => tq_none) (fun s H C cl fp xf => ve_tup (aa_cons (ve_var) (aa_cons (ve_var) (aa_nil)))))) (aa_cons (ve_fld xf cf_Walk_starts (be_var)) (aa_nil))))) (len_cons (len_cons (len_cons (len_cons (len_nil)))))))))
noncomputable def tbl_rows_walk_snake_walk_round_walk : Str → Option FS := fun x => if x = "rows_walk" then some f_rows_walk else if x = "snake_walk" then some f_snake_walk else if x = "round_walk" then some f_round_walk else none
noncomputable def tbl_mirrored_walk_turned_walk_runs_of : Str → Option FS := fun x => if x = "mirrored_walk" then some f_mirrored_walk else if x = "turned_walk" then some f_turned_walk else if x = "runs_of" then some f_runs_of else none
noncomputable def s__law_refusals : SS := sSeq (sAsg (tgT 4 (tgsCons (tgN 3) (tgsCons (tgN 4) (tgsCons (tgN 5) (tgsCons (tgN 6) (tgsNil)))))) (vVar 2)) (sSeq (sPar [7, 8] (mF (vCall f__law_pick (aCons (vVar 0) (aCons (vLst (aCons (vC (.int 0)) (aCons (vC (.int 9)) (aCons (vC .non) (aCons (vC (.bl true)) (aNil)))))) (aNil)))) (mF (vCall f__law_pick (aCons (vVar 0) (aCons (vLst (aCons (vC .non) (aCons (vC (.int 3)) (aCons (vC (.str "walk")) (aCons (vTup (aCons (vC (.int 2)) (aCons (vC (.int 2)) (aNil)))) (aCons (vLst (aNil)) (aNil))))))) (aNil)))) (mNil)))) (sSeq (sFor (itSeq (vLst (aCons (vC (.fn "rows_walk")) (aCons (vC (.fn "snake_walk")) (aCons (vC (.fn "round_walk")) (aNil)))))) (tgN 9) (sIf (v2 (pureK2 D.neD) (v1 (pureK1 D.reprD) (vRef ref_names told_list (vCallL 9 (tbl_rows_walk_snake_walk_round_walk) (aCons (vC (.int 2)) (aCons (vVar 7) (aNil)))))) (v1 (pureK1 D.reprD) (vTup (aCons (vC (.str "size")) (aCons (vVar 7) (aNil)))))) (sRet (vC (.bl false))) (sNil))) (sSeq (sIf (v2 (pureK2 D.neD) (v1 (pureK1 D.reprD) (vRef ref_names told_list (vMake (mk_Walk) (aCons (vVar 7) (aCons (vC (.int 2)) (aCons (vLst (aNil)) (aCons (vLst (aNil)) (aNil)))))))) (v1 (pureK1 D.reprD) (vTup (aCons (vC (.str "size")) (aCons (vVar 7) (aNil)))))) (sRet (vC (.bl false))) (sNil)) (sSeq (sPar [10, 11] (mF (vCall f__law_taken (aCons (vVar 0) (aCons (v1 (pureK1 D.len) (bVar 5)) (aNil)))) (mF (vCall f__law_pick (aCons (vVar 0) (aCons (vLst (aCons (vC .non) (aCons (vTup (aCons (vVar 3) (aCons (vC (.int 0)) (aNil)))) (aCons (vLst (aCons (vC (.int 0)) (aCons (vC (.int 0)) (aNil)))) (aCons (vTup (aCons (vC (.int 0)) (aCons (vVar 4) (aNil)))) (aCons (vTup (aCons (vC (.int 0)) (aCons (vC (.int 0)) (aCons (vC (.int 0)) (aNil))))) (aCons (vTup (aCons (vC (.bl true)) (aCons (vC (.int 0)) (aNil)))) (aNil)))))))) (aNil)))) (mNil)))) (sSeq (sIf (v2 (pureK2 D.neD) (vRef ref_names told_list (vMake (mk_Walk) (aCons (vVar 3) (aCons (vVar 4) (aCons (v2 (pureK2 D.add) (v2 (pureK2 D.add) (vSl (bVar 5) (sN) (sS (bVar 10))) (vLst (aCons (vVar 11) (aNil)))) (vSl (bVar 5) (sS (v2 (pureK2 D.add) (bVar 10) (vC (.int 1)))) (sN))) (aCons (vLst (aNil)) (aNil))))))) (vTup (aCons (vC (.str "cells")) (aCons (vVar 10) (aNil))))) (sRet (vC (.bl false))) (sNil)) (sSeq (sIf (v2 (pureK2 D.neD) (vRef ref_names told_list (vMake (mk_Walk) (aCons (vVar 3) (aCons (vVar 4) (aCons (vSl (bVar 5) (sS (vC (.int 1))) (sN)) (aCons (vLst (aNil)) (aNil))))))) (vTup (aCons (vC (.str "cells")) (aCons (v1 (pureK1 D.neg) (vC (.int 1))) (aNil))))) (sRet (vC (.bl false))) (sNil)) (sSeq (sSet 12 (vCall f__law_pick (aCons (vVar 0) (aCons (vLst (aCons (vC .non) (aCons (v1 (pureK1 D.neg) (vC (.int 1))) (aCons (v1 (pureK1 D.len) (bVar 5)) (aCons (vC (.bl true)) (aNil)))))) (aNil))))) (sSeq (sIf (v2 (pureK2 D.neD) (vRef ref_names told_list (vMake (mk_Walk) (aCons (vVar 3) (aCons (vVar 4) (aCons (vVar 5) (aCons (v2 (pureK2 D.add) (bVar 6) (vLst (aCons (vVar 12) (aNil)))) (aNil))))))) (vTup (aCons (vC (.str "starts")) (aCons (v1 (pureK1 D.len) (bVar 6)) (aNil))))) (sRet (vC (.bl false))) (sNil)) (sSeq (sIf (v2 (pureK2 D.neD) (vRef ref_names told_list (vMake (mk_Walk) (aCons (vVar 3) (aCons (vVar 4) (aCons (vVar 5) (aCons (vC .non) (aNil))))))) (vTup (aCons (vC (.str "starts")) (aCons (v1 (pureK1 D.neg) (vC (.int 1))) (aNil))))) (sRet (vC (.bl false))) (sNil)) (sSeq (sIf (v2 (pureK2 D.neD) (vRef ref_names told_list (vCall f_tiles_walk (aCons (vC (.int 2)) (aCons (vC (.int 2)) (aCons (vC (.int 3)) (aCons (vC (.int 1)) (aCons (vC (.bl false)) (aCons (vC (.bl false)) (aNil))))))))) (vTup (aCons (vC (.str "tiles")) (aCons (vC (.int 3)) (aNil))))) (sRet (vC (.bl false))) (sNil)) (sSeq (sFor (itSeq (vLst (aCons (vC (.fn "mirrored_walk")) (aCons (vC (.fn "turned_walk")) (aCons (vC (.fn "runs_of")) (aNil)))))) (tgN 9) (sIf (v2 (pureK2 D.neD) (v1 (pureK1 D.reprD) (vRef ref_names told_list (vCallL 9 (tbl_mirrored_walk_turned_walk_runs_of) (aCons (vVar 8) (aNil))))) (v1 (pureK1 D.reprD) (vTup (aCons (vC (.str "walk")) (aCons (vVar 8) (aNil)))))) (sRet (vC (.bl false))) (sNil))) (sSeq (sSet 13 (vCall f__law_bad_window (aCons (vVar 0) (aCons (vVar 2) (aNil))))) (sSeq (sIf (v2 (pureK2 D.neD) (v1 (pureK1 D.reprD) (vRef ref_names told_list (vCall f_pieces_of (aCons (vVar 1) (aCons (vVar 13) (aNil)))))) (v1 (pureK1 D.reprD) (vTup (aCons (vC (.str "window")) (aCons (vVar 13) (aNil)))))) (sRet (vC (.bl false))) (sNil)) (sRet (v2 (pureK2 D.eqD) (v1 (pureK1 D.reprD) (vRef ref_names told_list (vCall f_windows_of (aCons (vVar 1) (aCons (v2 (pureK2 D.add) (bVar 3) (vC (.int 1))) (aCons (vC (.int 1)) (aNil))))))) (v1 (pureK1 D.reprD) (vTup (aCons (vC (.str "size")) (aCons (v2 (pureK2 D.add) (bVar 3) (vC (.int 1))) (aNil))))))))))))))))))))
noncomputable def f__law_refusals : FS := runF 14 s__law_refusals
theorem sc__law_refusals : FnScope ["row", "made", "walk", "width", "height", "cells", "starts", "side", "wrong", "ask", "at", "bad", "start", "none"] ["row", "made", "walk"] (defScope (top 49)) := ⟨rfl, rfl, rfl, by decide +kernel, rfl, by decide +kernel, by decide +kernel⟩
theorem c__law_refusals (E : Env P w K mg base) (hm : mg "_law_refusals" = some (.ref f)) (Fd : FunD K "_law_refusals" "_law_refusals" (defArgs (top 49)) (defBody (top 49)) (defScope (top 49)) [] [] f fd) {a_mirrored_walk : Addr} {a_turned_walk : Addr} {a_runs_of : Addr} {a_rows_walk : Addr} {a_snake_walk : Addr} {a_round_walk : Addr} (c__law_pick : Cal P w K mg base T 2 "_law_pick" 2 f__law_pick) (n_round_walk : mg "round_walk" = some (.ref a_round_walk)) (n_snake_walk : mg "snake_walk" = some (.ref a_snake_walk)) (n_rows_walk : mg "rows_walk" = some (.ref a_rows_walk)) (k_Walk : Mak P w K mg base T 4 "Walk" n_Walk nN_Walk s_Walk fl_Walk) (c__law_taken : Cal P w K mg base T 1 "_law_taken" 2 f__law_taken) (c_tiles_walk : Cal P w K mg base T 6 "tiles_walk" 6 f_tiles_walk) (n_runs_of : mg "runs_of" = some (.ref a_runs_of)) (n_turned_walk : mg "turned_walk" = some (.ref a_turned_walk)) (n_mirrored_walk : mg "mirrored_walk" = some (.ref a_mirrored_walk)) (c__law_bad_window : Cal P w K mg base T 3 "_law_bad_window" 2 f__law_bad_window) (c_pieces_of : Cal P w K mg base T 6 "pieces_of" 2 f_pieces_of) (c_windows_of : Cal P w K mg base T 4 "windows_of" 3 f_windows_of) (c_rows_walk : Cal P w K mg base T 6 "rows_walk" 2 f_rows_walk) (c_snake_walk : Cal P w K mg base T 6 "snake_walk" 2 f_snake_walk) (c_round_walk : Cal P w K mg base T 6 "round_walk" 2 f_round_walk) (c_mirrored_walk : Cal P w K mg base T 6 "mirrored_walk" 1 f_mirrored_walk) (c_turned_walk : Cal P w K mg base T 6 "turned_walk" 1 f_turned_walk) (c_runs_of : Cal P w K mg base T 4 "runs_of" 1 f_runs_of) {cc PP : Addr} (hcd : fd.code = .ref cc) (TB : LamX.TabB base mg cc PP) (hT : (PP, ((envOfC "_law_refusals" (defScope (top 49)) 0 0 .none).qual ++ "<lambda>")) ∈ T) (hu : ∀ p ∈ T, p.1 = PP → p.2 = ((envOfC "_law_refusals" (defScope (top 49)) 0 0 .none).qual ++ "<lambda>")) (re : RefE K mg ref_names told_list "_law_refused") : CalG P w K mg base T 9 "_law_refusals" 3 f__law_refusals := by
  have ct_rows_walk_snake_walk_round_walk : ∀ x fs, tbl_rows_walk_snake_walk_round_walk x = some fs → Cal P w K mg base T 6 x 2 fs := by
    intro x fs h
    unfold tbl_rows_walk_snake_walk_round_walk at h
    split at h
    · rename_i e; subst e; cases h; exact c_rows_walk.mono (by decide)
    split at h
    · rename_i e; subst e; cases h; exact c_snake_walk.mono (by decide)
    split at h
    · rename_i e; subst e; cases h; exact c_round_walk.mono (by decide)
    cases h
  have ct_mirrored_walk_turned_walk_runs_of : ∀ x fs, tbl_mirrored_walk_turned_walk_runs_of x = some fs → Cal P w K mg base T 6 x 1 fs := by
    intro x fs h
    unfold tbl_mirrored_walk_turned_walk_runs_of at h
    split at h
    · rename_i e; subst e; cases h; exact c_mirrored_walk.mono (by decide)
    split at h
    · rename_i e; subst e; cases h; exact c_turned_walk.mono (by decide)
    split at h
    · rename_i e; subst e; cases h; exact c_runs_of.mono (by decide)
    cases h
  have hcode := fun (cdv : Value) (hc : fd.code = cdv) => hc.symm.trans hcd
  refine ⟨f, fd, ["row", "made", "walk"], hm, ?_, Fd.kp, Fd.bindsN fun _ _ _ _ _ _ us hl => match us, hl with | [_, _, _], _ => rfl⟩
  refine fng_ok Fd sc__law_refusals E.bi rfl rfl (by decide) (fun F cdv A outer s H hc gd e1 e2 e3 hr xf => ?_)
  subst e1 e2 e3
  exact ss_cons (ss_asg (ve_var) (tg_t xf (tgs_cons (tg_n xf) (tgs_cons (tg_n xf) (tgs_cons (tg_n xf) (tgs_cons (tg_n xf) (tgs_nil))))))) (ss_cons ((by first | exact ss_par2 xf (am_f (ve_call xf c__law_pick hr (by decide) (aa_cons (ve_var) (aa_cons (L2.PE.keep (vo_lst (aa_cons (ve_int) (aa_cons (ve_int) (aa_cons (ve_non) (aa_cons (ve_bl) (aa_nil))))))) (aa_nil))) (hl := len_cons (len_cons (len_nil)))) (am_f (ve_call xf c__law_pick hr (by decide) (aa_cons (ve_var) (aa_cons (L2.PE.keep (vo_lst (aa_cons (ve_non) (aa_cons (ve_int) (aa_cons (ve_str) (aa_cons (ve_tup (aa_cons (ve_int) (aa_cons (ve_int) (aa_nil)))) (aa_cons (L2.PE.keep (vo_lst (aa_nil))) (aa_nil)))))))) (aa_nil))) (hl := len_cons (len_cons (len_nil)))) (am_nil))) | exact ss_parT xf (gs_cons xf (gs_cons xf (gs_nil))) (am_f (ve_call xf c__law_pick hr (by decide) (aa_cons (ve_var) (aa_cons (L2.PE.keep (vo_lst (aa_cons (ve_int) (aa_cons (ve_int) (aa_cons (ve_non) (aa_cons (ve_bl) (aa_nil))))))) (aa_nil))) (hl := len_cons (len_cons (len_nil)))) (am_f (ve_call xf c__law_pick hr (by decide) (aa_cons (ve_var) (aa_cons (L2.PE.keep (vo_lst (aa_cons (ve_non) (aa_cons (ve_int) (aa_cons (ve_str) (aa_cons (ve_tup (aa_cons (ve_int) (aa_cons (ve_int) (aa_nil)))) (aa_cons (L2.PE.keep (vo_lst (aa_nil))) (aa_nil)))))))) (aa_nil))) (hl := len_cons (len_cons (len_nil)))) (am_nil))))) (ss_cons (ss_for xf (ii_seq xf (L2.PE.keep (vo_lst (aa_cons (ve_fn xf.mg n_rows_walk) (aa_cons (ve_fn xf.mg n_snake_walk) (aa_cons (ve_fn xf.mg n_round_walk) (aa_nil))))))) (tg_n xf) (ss_one (ss_if (PV.tq (cv_ne xf.K (Nat.lt_of_le_of_lt (Nat.add_le_add_left (by decide) _) xf.u) (L2.PE.look (ve_repr xf gd (L2.PE.look (ve_refusedE (k := 6) xf (E.ea.sub (by decide)) re TB (hcode cdv hc) hT hu hr (by decide) (fun A outer s H E0 f c hr xf => ve_callL xf ct_rows_walk_snake_walk_round_walk hr (by decide) (aa_cons (ve_int) (aa_cons (ve_var) (aa_nil))) (len_cons (len_cons (len_nil)))))))) (L2.PE.look (ve_repr xf gd (L2.PE.look (ve_tup (aa_cons (ve_str) (aa_cons (ve_var) (aa_nil)))))))) bl_ne) (ss_one (ss_ret (ve_bl))) (ss_nil)))) (ss_cons (ss_if (PV.tq (cv_ne xf.K (Nat.lt_of_le_of_lt (Nat.add_le_add_left (by decide) _) xf.u) (L2.PE.look (ve_repr xf gd (L2.PE.look (ve_refusedE (k := 5) xf (E.ea.sub (by decide)) re TB (hcode cdv hc) hT hu hr (by decide) (fun A outer s H E0 f c hr xf => L2.PE.keep (ve_make xf k_Walk hr (by decide) (aa_cons (ve_var) (aa_cons (ve_int) (aa_cons (L2.PE.keep (vo_lst (aa_nil))) (aa_cons (L2.PE.keep (vo_lst (aa_nil))) (aa_nil))))) (len_cons (len_cons (len_cons (len_cons (len_nil))))))))))) (L2.PE.look (ve_repr xf gd (L2.PE.look (ve_tup (aa_cons (ve_str) (aa_cons (ve_var) (aa_nil)))))))) bl_ne) (ss_one (ss_ret (ve_bl))) (ss_nil)) (ss_cons ((by first | exact ss_par2 xf (am_f (ve_call xf c__law_taken hr (by decide) (aa_cons (ve_var) (aa_cons (ve_len xf (be_var)) (aa_nil))) (hl := len_cons (len_cons (len_nil)))) (am_f (ve_call xf c__law_pick hr (by decide) (aa_cons (ve_var) (aa_cons (L2.PE.keep (vo_lst (aa_cons (ve_non) (aa_cons (ve_tup (aa_cons (ve_var) (aa_cons (ve_int) (aa_nil)))) (aa_cons (L2.PE.keep (vo_lst (aa_cons (ve_int) (aa_cons (ve_int) (aa_nil))))) (aa_cons (ve_tup (aa_cons (ve_int) (aa_cons (ve_var) (aa_nil)))) (aa_cons (ve_tup (aa_cons (ve_int) (aa_cons (ve_int) (aa_cons (ve_int) (aa_nil))))) (aa_cons (ve_tup (aa_cons (ve_bl) (aa_cons (ve_int) (aa_nil)))) (aa_nil))))))))) (aa_nil))) (hl := len_cons (len_cons (len_nil)))) (am_nil))) | exact ss_parT xf (gs_cons xf (gs_cons xf (gs_nil))) (am_f (ve_call xf c__law_taken hr (by decide) (aa_cons (ve_var) (aa_cons (ve_len xf (be_var)) (aa_nil))) (hl := len_cons (len_cons (len_nil)))) (am_f (ve_call xf c__law_pick hr (by decide) (aa_cons (ve_var) (aa_cons (L2.PE.keep (vo_lst (aa_cons (ve_non) (aa_cons (ve_tup (aa_cons (ve_var) (aa_cons (ve_int) (aa_nil)))) (aa_cons (L2.PE.keep (vo_lst (aa_cons (ve_int) (aa_cons (ve_int) (aa_nil))))) (aa_cons (ve_tup (aa_cons (ve_int) (aa_cons (ve_var) (aa_nil)))) (aa_cons (ve_tup (aa_cons (ve_int) (aa_cons (ve_int) (aa_cons (ve_int) (aa_nil))))) (aa_cons (ve_tup (aa_cons (ve_bl) (aa_cons (ve_int) (aa_nil)))) (aa_nil))))))))) (aa_nil))) (hl := len_cons (len_cons (len_nil)))) (am_nil))))) (ss_cons (ss_if (PV.tq (cv_ne xf.K (Nat.lt_of_le_of_lt (Nat.add_le_add_left (by decide) _) xf.u) (L2.PE.look (ve_refusedE (k := 5) xf (E.ea.sub (by decide)) re TB (hcode cdv hc) hT hu hr (by decide) (fun A outer s H E0 f c hr xf => L2.PE.keep (ve_make xf k_Walk hr (by decide) (aa_cons (ve_var) (aa_cons (ve_var) (aa_cons (ve_add xf.K (L2.PE.look (ve_add xf.K (L2.PE.look (ve_slice xf (be_var) (pt_n) (pt_s (be_var)))) (L2.PE.look (L2.PE.keep (vo_lst (aa_cons (ve_var) (aa_nil))))))) (L2.PE.look (ve_slice xf (be_var) (pt_s (L2.PE.look (ve_add xf.K (be_var) (L2.PE.look (ve_int))))) (pt_n)))) (aa_cons (L2.PE.keep (vo_lst (aa_nil))) (aa_nil))))) (len_cons (len_cons (len_cons (len_cons (len_nil))))))))) (L2.PE.look (ve_tup (aa_cons (ve_str) (aa_cons (ve_var) (aa_nil)))))) bl_ne) (ss_one (ss_ret (ve_bl))) (ss_nil)) (ss_cons (ss_if (PV.tq (cv_ne xf.K (Nat.lt_of_le_of_lt (Nat.add_le_add_left (by decide) _) xf.u) (L2.PE.look (ve_refusedE (k := 5) xf (E.ea.sub (by decide)) re TB (hcode cdv hc) hT hu hr (by decide) (fun A outer s H E0 f c hr xf => L2.PE.keep (ve_make xf k_Walk hr (by decide) (aa_cons (ve_var) (aa_cons (ve_var) (aa_cons (ve_slice xf (be_var) (pt_s (L2.PE.look (ve_int))) (pt_n)) (aa_cons (L2.PE.keep (vo_lst (aa_nil))) (aa_nil))))) (len_cons (len_cons (len_cons (len_cons (len_nil))))))))) (L2.PE.look (ve_tup (aa_cons (ve_str) (aa_cons (ve_neg (L2.PE.look (ve_int))) (aa_nil)))))) bl_ne) (ss_one (ss_ret (ve_bl))) (ss_nil)) (ss_cons (ss_set xf (ve_call xf c__law_pick hr (by decide) (aa_cons (ve_var) (aa_cons (L2.PE.keep (vo_lst (aa_cons (ve_non) (aa_cons (ve_neg (L2.PE.look (ve_int))) (aa_cons (ve_len xf (be_var)) (aa_cons (ve_bl) (aa_nil))))))) (aa_nil))) (hl := len_cons (len_cons (len_nil))))) (ss_cons (ss_if (PV.tq (cv_ne xf.K (Nat.lt_of_le_of_lt (Nat.add_le_add_left (by decide) _) xf.u) (L2.PE.look (ve_refusedE (k := 5) xf (E.ea.sub (by decide)) re TB (hcode cdv hc) hT hu hr (by decide) (fun A outer s H E0 f c hr xf => L2.PE.keep (ve_make xf k_Walk hr (by decide) (aa_cons (ve_var) (aa_cons (ve_var) (aa_cons (ve_var) (aa_cons (ve_add xf.K (be_var) (L2.PE.look (L2.PE.keep (vo_lst (aa_cons (ve_var) (aa_nil)))))) (aa_nil))))) (len_cons (len_cons (len_cons (len_cons (len_nil))))))))) (L2.PE.look (ve_tup (aa_cons (ve_str) (aa_cons (ve_len xf (be_var)) (aa_nil)))))) bl_ne) (ss_one (ss_ret (ve_bl))) (ss_nil)) (ss_cons (ss_if (PV.tq (cv_ne xf.K (Nat.lt_of_le_of_lt (Nat.add_le_add_left (by decide) _) xf.u) (L2.PE.look (ve_refusedE (k := 5) xf (E.ea.sub (by decide)) re TB (hcode cdv hc) hT hu hr (by decide) (fun A outer s H E0 f c hr xf => L2.PE.keep (ve_make xf k_Walk hr (by decide) (aa_cons (ve_var) (aa_cons (ve_var) (aa_cons (ve_var) (aa_cons (ve_non) (aa_nil))))) (len_cons (len_cons (len_cons (len_cons (len_nil))))))))) (L2.PE.look (ve_tup (aa_cons (ve_str) (aa_cons (ve_neg (L2.PE.look (ve_int))) (aa_nil)))))) bl_ne) (ss_one (ss_ret (ve_bl))) (ss_nil)) (ss_cons (ss_if (PV.tq (cv_ne xf.K (Nat.lt_of_le_of_lt (Nat.add_le_add_left (by decide) _) xf.u) (L2.PE.look (ve_refusedE (k := 6) xf (E.ea.sub (by decide)) re TB (hcode cdv hc) hT hu hr (by decide) (fun A outer s H E0 f c hr xf => ve_call xf c_tiles_walk hr (by decide) (aa_cons (ve_int) (aa_cons (ve_int) (aa_cons (ve_int) (aa_cons (ve_int) (aa_cons (ve_bl) (aa_cons (ve_bl) (aa_nil))))))) (hl := len_cons (len_cons (len_cons (len_cons (len_cons (len_cons (len_nil)))))))))) (L2.PE.look (ve_tup (aa_cons (ve_str) (aa_cons (ve_int) (aa_nil)))))) bl_ne) (ss_one (ss_ret (ve_bl))) (ss_nil)) (ss_cons (ss_for xf (ii_seq xf (L2.PE.keep (vo_lst (aa_cons (ve_fn xf.mg n_mirrored_walk) (aa_cons (ve_fn xf.mg n_turned_walk) (aa_cons (ve_fn xf.mg n_runs_of) (aa_nil))))))) (tg_n xf) (ss_one (ss_if (PV.tq (cv_ne xf.K (Nat.lt_of_le_of_lt (Nat.add_le_add_left (by decide) _) xf.u) (L2.PE.look (ve_repr xf gd (L2.PE.look (ve_refusedE (k := 6) xf (E.ea.sub (by decide)) re TB (hcode cdv hc) hT hu hr (by decide) (fun A outer s H E0 f c hr xf => ve_callL xf ct_mirrored_walk_turned_walk_runs_of hr (by decide) (aa_cons (ve_var) (aa_nil)) (len_cons (len_nil))))))) (L2.PE.look (ve_repr xf gd (L2.PE.look (ve_tup (aa_cons (ve_str) (aa_cons (ve_var) (aa_nil)))))))) bl_ne) (ss_one (ss_ret (ve_bl))) (ss_nil)))) (ss_cons (ss_set xf (ve_call xf c__law_bad_window hr (by decide) (aa_cons (ve_var) (aa_cons (ve_var) (aa_nil))) (hl := len_cons (len_cons (len_nil))))) (ss_cons (ss_if (PV.tq (cv_ne xf.K (Nat.lt_of_le_of_lt (Nat.add_le_add_left (by decide) _) xf.u) (L2.PE.look (ve_repr xf gd (L2.PE.look (ve_refusedE (k := 6) xf (E.ea.sub (by decide)) re TB (hcode cdv hc) hT hu hr (by decide) (fun A outer s H E0 f c hr xf => ve_call xf c_pieces_of hr (by decide) (aa_cons (ve_var) (aa_cons (ve_var) (aa_nil))) (hl := len_cons (len_cons (len_nil)))))))) (L2.PE.look (ve_repr xf gd (L2.PE.look (ve_tup (aa_cons (ve_str) (aa_cons (ve_var) (aa_nil)))))))) bl_ne) (ss_one (ss_ret (ve_bl))) (ss_nil)) (ss_one (ss_ret (PV.pe (cv_eq xf.K (Nat.lt_of_le_of_lt (Nat.add_le_add_left (by decide) _) xf.u) (L2.PE.look (ve_repr xf gd (L2.PE.look (ve_refusedE (k := 4) xf (E.ea.sub (by decide)) re TB (hcode cdv hc) hT hu hr (by decide) (fun A outer s H E0 f c hr xf => ve_call xf c_windows_of hr (by decide) (aa_cons (ve_var) (aa_cons (ve_add xf.K (be_var) (L2.PE.look (ve_int))) (aa_cons (ve_int) (aa_nil)))) (hl := len_cons (len_cons (len_cons (len_nil))))))))) (L2.PE.look (ve_repr xf gd (L2.PE.look (ve_tup (aa_cons (ve_str) (aa_cons (ve_add xf.K (be_var) (L2.PE.look (ve_int))) (aa_nil))))))))))))))))))))))))
noncomputable def s_law : SS := sSeq (sPar [2, 3] (mF (v2 (pureK2 D.add) (vC (.int 1)) (vCall f__law_taken (aCons (vVar 1) (aCons (vC (.int 8)) (aNil))))) (mF (v2 (pureK2 D.add) (vC (.int 1)) (vCall f__law_taken (aCons (vVar 1) (aCons (vC (.int 8)) (aNil))))) (mNil)))) (sSeq (sPar [4, 5, 6] (mF (v2 (pureK2 D.add) (vC (.int 1)) (vCall f__law_taken (aCons (vVar 1) (aCons (vVar 2) (aNil))))) (mF (v2 (pureK2 D.add) (vC (.int 1)) (vCall f__law_taken (aCons (vVar 1) (aCons (vVar 3) (aNil))))) (mF (v2 (pureK2 D.eqD) (vCall f__law_taken (aCons (vVar 1) (aCons (vC (.int 2)) (aNil)))) (vC (.int 1))) (mNil))))) (sSeq (sIf (vNot (vCall f__law_is (aCons (vCall f_rows_walk (aCons (vVar 2) (aCons (vVar 3) (aNil)))) (aCons (vVar 2) (aCons (vVar 3) (aCons (vCall f__law_lines (aCons (vVar 2) (aCons (vVar 3) (aCons (vC (.bl false)) (aNil))))) (aCons (vLst (aNil)) (aNil)))))))) (sRet (vC (.bl false))) (sNil)) (sSeq (sIf (vNot (vCall f__law_is (aCons (vCall f_snake_walk (aCons (vVar 2) (aCons (vVar 3) (aNil)))) (aCons (vVar 2) (aCons (vVar 3) (aCons (vCall f__law_lines (aCons (vVar 2) (aCons (vVar 3) (aCons (vC (.bl true)) (aNil))))) (aCons (vLst (aNil)) (aNil)))))))) (sRet (vC (.bl false))) (sNil)) (sSeq (sIf (vNot (vCall f__law_is (aCons (vCall f_round_walk (aCons (vVar 2) (aCons (vVar 3) (aNil)))) (aCons (vVar 2) (aCons (vVar 3) (aCons (vCall f__law_round (aCons (vVar 2) (aCons (vVar 3) (aNil)))) (aCons (vLst (aNil)) (aNil)))))))) (sRet (vC (.bl false))) (sNil)) (sSeq (sAsg (tgT 2 (tgsCons (tgN 7) (tgsCons (tgN 8) (tgsNil)))) (vCall f__law_tiles (aCons (vVar 2) (aCons (vVar 3) (aCons (vVar 4) (aCons (vVar 5) (aCons (vVar 6) (aNil)))))))) (sSeq (sIf (vNot (vCall f__law_is (aCons (vCall f_tiles_walk (aCons (vVar 2) (aCons (vVar 3) (aCons (vVar 4) (aCons (vVar 5) (aCons (vVar 6) (aCons (vC (.bl false)) (aNil)))))))) (aCons (vVar 2) (aCons (vVar 3) (aCons (vVar 7) (aCons (vLst (aNil)) (aNil)))))))) (sRet (vC (.bl false))) (sNil)) (sSeq (sIf (vNot (vCall f__law_is (aCons (vCall f_tiles_walk (aCons (vVar 2) (aCons (vVar 3) (aCons (vVar 4) (aCons (vVar 5) (aCons (vVar 6) (aCons (vC (.bl true)) (aNil)))))))) (aCons (vVar 2) (aCons (vVar 3) (aCons (vVar 7) (aCons (vVar 8) (aNil)))))))) (sRet (vC (.bl false))) (sNil)) (sSeq (sSet 9 (vCall f__law_walk (aCons (vVar 1) (aCons (vC (.int 6)) (aNil))))) (sSeq (sSet 10 (vMake (mk_Walk) (aCons (v2 (pureK2 D.ix) (bVar 9) (vC (.int 0))) (aCons (v2 (pureK2 D.ix) (bVar 9) (vC (.int 1))) (aCons (vCall f__law_pick (aCons (vVar 1) (aCons (vLst (aCons (v2 (pureK2 D.ix) (bVar 9) (vC (.int 2))) (aCons (v1 (pureK1 D.tupleD) (v2 (pureK2 D.ix) (bVar 9) (vC (.int 2)))) (aNil)))) (aNil)))) (aCons (v2 (pureK2 D.ix) (bVar 9) (vC (.int 3))) (aNil))))))) (sSeq (sIf (vNot (vCall f__law_is (aCons (vVar 10) (aCons (v2 (pureK2 D.ix) (bVar 9) (vC (.int 0))) (aCons (v2 (pureK2 D.ix) (bVar 9) (vC (.int 1))) (aCons (v2 (pureK2 D.ix) (bVar 9) (vC (.int 2))) (aCons (v2 (pureK2 D.ix) (bVar 9) (vC (.int 3))) (aNil)))))))) (sRet (vC (.bl false))) (sNil)) (sSeq (sSet 11 (vCall f__law_unlike (aCons (v2 (pureK2 D.add) (v2 (pureK2 D.ix) (bVar 9) (vC (.int 3))) (vLst (aCons (vC (.int 0)) (aNil)))) (aNil)))) (sSeq (sSet 12 (v2 (pureK2 D.add) (vSl (bVar 11) (sS (vC (.int 1))) (sN)) (vLst (aCons (v1 (pureK1 D.len) (v2 (pureK2 D.ix) (bVar 9) (vC (.int 2)))) (aNil))))) (sSeq (sIf (vNot (vCall (f__law_alike 6) (aCons (vCall f_runs_of (aCons (vVar 10) (aNil))) (aCons (vComp (itR1 (v1 (pureK1 D.len) (bVar 11))) (tgN 13) (List.map (·.2) ([("k", 13)] : List (Str × Nat))) (vC (.bl true)) (vTup (aCons (v2 (pureK2 D.ix) (bVar 11) (bVar 13)) (aCons (v2 (pureK2 D.sub) (v2 (pureK2 D.ix) (bVar 12) (bVar 13)) (vC (.int 1))) (aNil))))) (aNil))))) (sRet (vC (.bl false))) (sNil)) (sSeq (sFor (itR1 (vC (.int 4))) (tgN 14) (sSeq (sSet 15 (vCall f__law_window (aCons (vVar 1) (aCons (vVar 9) (aNil))))) (sSeq (sIf (vNot (vCall (f__law_alike 6) (aCons (vCall f_pieces_of (aCons (vVar 10) (aCons (vVar 15) (aNil)))) (aCons (vCall f__law_pieces (aCons (vTup (aCons (v2 (pureK2 D.ix) (bVar 9) (vC (.int 0))) (aCons (v2 (pureK2 D.ix) (bVar 9) (vC (.int 1))) (aCons (v2 (pureK2 D.ix) (bVar 9) (vC (.int 2))) (aCons (vVar 11) (aNil)))))) (aCons (vVar 15) (aNil)))) (aNil))))) (sRet (vC (.bl false))) (sNil)) (sSeq (sSet 16 (vLst (aNil))) (sSeq (sFor (itR1 (v2 (pureK2 D.add) (v2 (pureK2 D.sub) (v2 (pureK2 D.ix) (bVar 9) (vC (.int 1))) (v2 (pureK2 D.ix) (bVar 15) (vC (.int 3)))) (vC (.int 1)))) (tgN 17) (sSet 16 (v2 (pureK2 D.add) (bVar 16) (vComp (itR1 (v2 (pureK2 D.add) (v2 (pureK2 D.sub) (v2 (pureK2 D.ix) (bVar 9) (vC (.int 0))) (v2 (pureK2 D.ix) (bVar 15) (vC (.int 2)))) (vC (.int 1)))) (tgN 18) (List.map (·.2) ([("x", 18)] : List (Str × Nat))) (vC (.bl true)) (vTup (aCons (vVar 18) (aCons (vVar 17) (aCons (v2 (pureK2 D.ix) (bVar 15) (vC (.int 2))) (aCons (v2 (pureK2 D.ix) (bVar 15) (vC (.int 3))) (aNil)))))))))) (sIf (vNot (vCall (f__law_alike 6) (aCons (vCall f_windows_of (aCons (vVar 10) (aCons (v2 (pureK2 D.ix) (bVar 15) (vC (.int 2))) (aCons (v2 (pureK2 D.ix) (bVar 15) (vC (.int 3))) (aNil))))) (aCons (vVar 16) (aNil))))) (sRet (vC (.bl false))) (sNil))))))) (sSeq (sFor (itSeq (vLst (aCons (vCall f__law_window (aCons (vVar 1) (aCons (vVar 9) (aNil)))) (aCons (vCall f__law_bad_window (aCons (vVar 1) (aCons (vVar 9) (aNil)))) (aCons (vCall f__law_bad_window (aCons (vVar 1) (aCons (vVar 9) (aNil)))) (aCons (v1 (pureK1 D.listD) (vCall f__law_window (aCons (vVar 1) (aCons (vVar 9) (aNil))))) (aNil))))))) (tgN 19) (sIf (vNot (vCall (f__law_alike 6) (aCons (vCall f_is_window (aCons (vVar 10) (aCons (vVar 19) (aNil)))) (aCons (vCall f__law_good_window (aCons (vVar 9) (aCons (vVar 19) (aNil)))) (aNil))))) (sRet (vC (.bl false))) (sNil))) (sSeq (sPar [20, 21] (mF (vCall f_mirrored_walk (aCons (vVar 10) (aNil))) (mF (vCall f_turned_walk (aCons (vVar 10) (aNil))) (mNil)))) (sSeq (sIf (vNot (vCall f__law_is (aCons (vVar 20) (aCons (v2 (pureK2 D.ix) (bVar 9) (vC (.int 0))) (aCons (v2 (pureK2 D.ix) (bVar 9) (vC (.int 1))) (aCons (vComp (itSeq (v2 (pureK2 D.ix) (bVar 9) (vC (.int 2)))) (tgT 2 (tgsCons (tgN 18) (tgsCons (tgN 17) (tgsNil)))) (List.map (·.2) ([("x", 18), ("y", 17)] : List (Str × Nat))) (vC (.bl true)) (vTup (aCons (v2 (pureK2 D.sub) (v2 (pureK2 D.sub) (v2 (pureK2 D.ix) (bVar 9) (vC (.int 0))) (vC (.int 1))) (bVar 18)) (aCons (vVar 17) (aNil))))) (aCons (v2 (pureK2 D.ix) (bVar 9) (vC (.int 3))) (aNil)))))))) (sRet (vC (.bl false))) (sNil)) (sSeq (sIf (vNot (vCall f__law_is (aCons (vVar 21) (aCons (v2 (pureK2 D.ix) (bVar 9) (vC (.int 1))) (aCons (v2 (pureK2 D.ix) (bVar 9) (vC (.int 0))) (aCons (vComp (itSeq (v2 (pureK2 D.ix) (bVar 9) (vC (.int 2)))) (tgT 2 (tgsCons (tgN 18) (tgsCons (tgN 17) (tgsNil)))) (List.map (·.2) ([("x", 18), ("y", 17)] : List (Str × Nat))) (vC (.bl true)) (vTup (aCons (vVar 17) (aCons (vVar 18) (aNil))))) (aCons (v2 (pureK2 D.ix) (bVar 9) (vC (.int 3))) (aNil)))))))) (sRet (vC (.bl false))) (sNil)) (sSeq (sIf (vOr (v2 (pureK2 D.neD) (v1 (pureK1 (D.fld "Walk" "cells")) (vCall f_mirrored_walk (aCons (vVar 20) (aNil)))) (v1 (pureK1 (D.fld "Walk" "cells")) (bVar 10))) (v2 (pureK2 D.neD) (v1 (pureK1 (D.fld "Walk" "cells")) (vCall f_turned_walk (aCons (vVar 21) (aNil)))) (v1 (pureK1 (D.fld "Walk" "cells")) (bVar 10)))) (sRet (vC (.bl false))) (sNil)) (sRet (vCall f__law_refusals (aCons (vVar 1) (aCons (vVar 10) (aCons (vVar 9) (aNil)))))))))))))))))))))))))
theorem sc_law : FnScope ["script", "row", "width", "height", "across", "down", "is_turning", "cells", "begins", "walk", "made", "starts", "ends", "k", "turn", "window", "due", "y", "x", "thing", "other", "turned"] ["script"] (defScope (top 51)) := ⟨rfl, rfl, rfl, by decide +kernel, rfl, by decide +kernel, by decide +kernel⟩
theorem c_law (E : Env P w K mg base) (Fd : FunD K "law" "law" (defArgs (top 51)) (defBody (top 51)) (defScope (top 51)) [] [] f fd) (c__law_taken : Cal P w K mg base T 1 "_law_taken" 2 f__law_taken) (c__law_lines : Cal P w K mg base T 1 "_law_lines" 3 f__law_lines) (c_rows_walk : Cal P w K mg base T 6 "rows_walk" 2 f_rows_walk) (c__law_is : Cal P w K mg base T 7 "_law_is" 5 f__law_is) (c_snake_walk : Cal P w K mg base T 6 "snake_walk" 2 f_snake_walk) (c__law_round : Cal P w K mg base T 1 "_law_round" 2 f__law_round) (c_round_walk : Cal P w K mg base T 6 "round_walk" 2 f_round_walk) (c__law_tiles : Cal P w K mg base T 2 "_law_tiles" 5 f__law_tiles) (c_tiles_walk : Cal P w K mg base T 6 "tiles_walk" 6 f_tiles_walk) (c__law_walk : Cal P w K mg base T 3 "_law_walk" 2 f__law_walk) (c__law_pick : Cal P w K mg base T 2 "_law_pick" 2 f__law_pick) (k_Walk : Mak P w K mg base T 4 "Walk" n_Walk nN_Walk s_Walk fl_Walk) (c__law_unlike : Cal P w K mg base T 1 "_law_unlike" 1 f__law_unlike) (c_runs_of : Cal P w K mg base T 4 "runs_of" 1 f_runs_of) (c__law_alike : Cal P w K mg base T 6 "_law_alike" 2 (f__law_alike 6)) (c__law_window : Cal P w K mg base T 2 "_law_window" 2 f__law_window) (c__law_pieces : Cal P w K mg base T 2 "_law_pieces" 2 f__law_pieces) (c_pieces_of : Cal P w K mg base T 6 "pieces_of" 2 f_pieces_of) (c_windows_of : Cal P w K mg base T 4 "windows_of" 3 f_windows_of) (c__law_bad_window : Cal P w K mg base T 3 "_law_bad_window" 2 f__law_bad_window) (c__law_good_window : Cal P w K mg base T 2 "_law_good_window" 2 f__law_good_window) (c_is_window : Cal P w K mg base T 4 "is_window" 2 f_is_window) (c_turned_walk : Cal P w K mg base T 6 "turned_walk" 1 f_turned_walk) (c_mirrored_walk : Cal P w K mg base T 6 "mirrored_walk" 1 f_mirrored_walk) (c__law_refusals : CalG P w K mg base T 9 "_law_refusals" 3 f__law_refusals)  : FnG P w K mg base 10 f fd ["script"] (spLaw K T 509 22 s_law) := by
  have cf_Walk_cells := E.cf_Walk_cells
  refine law_fng (N := ["width", "height", "across", "down", "is_turning", "cells", "begins", "walk", "made", "starts", "ends", "k", "turn", "window", "due", "y", "x", "thing", "other", "turned"]) Fd sc_law E.bi rfl rfl (fun env => rfl) (by first | exact Or.inl rfl | exact Or.inr (Or.inl rfl)) (by first | exact Or.inl rfl | exact Or.inr rfl) (fun F cdv A outer s H hc gd e1 e2 e3 hr xf => ?_)
  subst e1 e2 e3
  exact ss_cons ((by first | exact ss_par2 xf (am_f (ve_add xf.K (L2.PE.look (ve_int)) (L2.PE.look (ve_call xf c__law_taken hr (by decide) (aa_cons (ve_var) (aa_cons (ve_int) (aa_nil))) (hl := len_cons (len_cons (len_nil)))))) (am_f (ve_add xf.K (L2.PE.look (ve_int)) (L2.PE.look (ve_call xf c__law_taken hr (by decide) (aa_cons (ve_var) (aa_cons (ve_int) (aa_nil))) (hl := len_cons (len_cons (len_nil)))))) (am_nil))) | exact ss_parT xf (gs_cons xf (gs_cons xf (gs_nil))) (am_f (ve_add xf.K (L2.PE.look (ve_int)) (L2.PE.look (ve_call xf c__law_taken hr (by decide) (aa_cons (ve_var) (aa_cons (ve_int) (aa_nil))) (hl := len_cons (len_cons (len_nil)))))) (am_f (ve_add xf.K (L2.PE.look (ve_int)) (L2.PE.look (ve_call xf c__law_taken hr (by decide) (aa_cons (ve_var) (aa_cons (ve_int) (aa_nil))) (hl := len_cons (len_cons (len_nil)))))) (am_nil))))) (ss_cons ((by first | exact ss_par3 xf (am_f (ve_add xf.K (L2.PE.look (ve_int)) (L2.PE.look (ve_call xf c__law_taken hr (by decide) (aa_cons (ve_var) (aa_cons (ve_var) (aa_nil))) (hl := len_cons (len_cons (len_nil)))))) (am_f (ve_add xf.K (L2.PE.look (ve_int)) (L2.PE.look (ve_call xf c__law_taken hr (by decide) (aa_cons (ve_var) (aa_cons (ve_var) (aa_nil))) (hl := len_cons (len_cons (len_nil)))))) (am_f (PV.pe (cv_eq xf.K (Nat.lt_of_le_of_lt (Nat.add_le_add_left (by decide) _) xf.u) (L2.PE.look (ve_call xf c__law_taken hr (by decide) (aa_cons (ve_var) (aa_cons (ve_int) (aa_nil))) (hl := len_cons (len_cons (len_nil))))) (L2.PE.look (ve_int)))) (am_nil)))) | exact ss_parT xf (gs_cons xf (gs_cons xf (gs_cons xf (gs_nil)))) (am_f (ve_add xf.K (L2.PE.look (ve_int)) (L2.PE.look (ve_call xf c__law_taken hr (by decide) (aa_cons (ve_var) (aa_cons (ve_var) (aa_nil))) (hl := len_cons (len_cons (len_nil)))))) (am_f (ve_add xf.K (L2.PE.look (ve_int)) (L2.PE.look (ve_call xf c__law_taken hr (by decide) (aa_cons (ve_var) (aa_cons (ve_var) (aa_nil))) (hl := len_cons (len_cons (len_nil)))))) (am_f (PV.pe (cv_eq xf.K (Nat.lt_of_le_of_lt (Nat.add_le_add_left (by decide) _) xf.u) (L2.PE.look (ve_call xf c__law_taken hr (by decide) (aa_cons (ve_var) (aa_cons (ve_int) (aa_nil))) (hl := len_cons (len_cons (len_nil))))) (L2.PE.look (ve_int)))) (am_nil)))))) (ss_cons (ss_if (tq_not (L2.PE.tq xf.K (L2.PE.look (ve_call xf c__law_is hr (by decide) (aa_cons (ve_call xf c_rows_walk hr (by decide) (aa_cons (ve_var) (aa_cons (ve_var) (aa_nil))) (hl := len_cons (len_cons (len_nil)))) (aa_cons (ve_var) (aa_cons (ve_var) (aa_cons (ve_call xf c__law_lines hr (by decide) (aa_cons (ve_var) (aa_cons (ve_var) (aa_cons (ve_bl) (aa_nil)))) (hl := len_cons (len_cons (len_cons (len_nil))))) (aa_cons (L2.PE.keep (vo_lst (aa_nil))) (aa_nil)))))) (hl := len_cons (len_cons (len_cons (len_cons (len_cons (len_nil)))))))))) (ss_one (ss_ret (ve_bl))) (ss_nil)) (ss_cons (ss_if (tq_not (L2.PE.tq xf.K (L2.PE.look (ve_call xf c__law_is hr (by decide) (aa_cons (ve_call xf c_snake_walk hr (by decide) (aa_cons (ve_var) (aa_cons (ve_var) (aa_nil))) (hl := len_cons (len_cons (len_nil)))) (aa_cons (ve_var) (aa_cons (ve_var) (aa_cons (ve_call xf c__law_lines hr (by decide) (aa_cons (ve_var) (aa_cons (ve_var) (aa_cons (ve_bl) (aa_nil)))) (hl := len_cons (len_cons (len_cons (len_nil))))) (aa_cons (L2.PE.keep (vo_lst (aa_nil))) (aa_nil)))))) (hl := len_cons (len_cons (len_cons (len_cons (len_cons (len_nil)))))))))) (ss_one (ss_ret (ve_bl))) (ss_nil)) (ss_cons (ss_if (tq_not (L2.PE.tq xf.K (L2.PE.look (ve_call xf c__law_is hr (by decide) (aa_cons (ve_call xf c_round_walk hr (by decide) (aa_cons (ve_var) (aa_cons (ve_var) (aa_nil))) (hl := len_cons (len_cons (len_nil)))) (aa_cons (ve_var) (aa_cons (ve_var) (aa_cons (ve_call xf c__law_round hr (by decide) (aa_cons (ve_var) (aa_cons (ve_var) (aa_nil))) (hl := len_cons (len_cons (len_nil)))) (aa_cons (L2.PE.keep (vo_lst (aa_nil))) (aa_nil)))))) (hl := len_cons (len_cons (len_cons (len_cons (len_cons (len_nil)))))))))) (ss_one (ss_ret (ve_bl))) (ss_nil)) (ss_cons (ss_asg (ve_call xf c__law_tiles hr (by decide) (aa_cons (ve_var) (aa_cons (ve_var) (aa_cons (ve_var) (aa_cons (ve_var) (aa_cons (ve_var) (aa_nil)))))) (hl := len_cons (len_cons (len_cons (len_cons (len_cons (len_nil))))))) (tg_t xf (tgs_cons (tg_n xf) (tgs_cons (tg_n xf) (tgs_nil))))) (ss_cons (ss_if (tq_not (L2.PE.tq xf.K (L2.PE.look (ve_call xf c__law_is hr (by decide) (aa_cons (ve_call xf c_tiles_walk hr (by decide) (aa_cons (ve_var) (aa_cons (ve_var) (aa_cons (ve_var) (aa_cons (ve_var) (aa_cons (ve_var) (aa_cons (ve_bl) (aa_nil))))))) (hl := len_cons (len_cons (len_cons (len_cons (len_cons (len_cons (len_nil)))))))) (aa_cons (ve_var) (aa_cons (ve_var) (aa_cons (ve_var) (aa_cons (L2.PE.keep (vo_lst (aa_nil))) (aa_nil)))))) (hl := len_cons (len_cons (len_cons (len_cons (len_cons (len_nil)))))))))) (ss_one (ss_ret (ve_bl))) (ss_nil)) (ss_cons (ss_if (tq_not (L2.PE.tq xf.K (L2.PE.look (ve_call xf c__law_is hr (by decide) (aa_cons (ve_call xf c_tiles_walk hr (by decide) (aa_cons (ve_var) (aa_cons (ve_var) (aa_cons (ve_var) (aa_cons (ve_var) (aa_cons (ve_var) (aa_cons (ve_bl) (aa_nil))))))) (hl := len_cons (len_cons (len_cons (len_cons (len_cons (len_cons (len_nil)))))))) (aa_cons (ve_var) (aa_cons (ve_var) (aa_cons (ve_var) (aa_cons (ve_var) (aa_nil)))))) (hl := len_cons (len_cons (len_cons (len_cons (len_cons (len_nil)))))))))) (ss_one (ss_ret (ve_bl))) (ss_nil)) (ss_cons (ss_set xf (ve_call xf c__law_walk hr (by decide) (aa_cons (ve_var) (aa_cons (ve_int) (aa_nil))) (hl := len_cons (len_cons (len_nil))))) (ss_cons (ss_set xf (L2.PE.keep (ve_make xf k_Walk hr (by decide) (aa_cons (ve_ix xf (be_var) (L2.PE.look (ve_int))) (aa_cons (ve_ix xf (be_var) (L2.PE.look (ve_int))) (aa_cons (ve_call xf c__law_pick hr (by decide) (aa_cons (ve_var) (aa_cons (L2.PE.keep (vo_lst (aa_cons (ve_ix xf (be_var) (L2.PE.look (ve_int))) (aa_cons (ve_tuple xf (L2.PE.look (ve_ix xf (be_var) (L2.PE.look (ve_int))))) (aa_nil))))) (aa_nil))) (hl := len_cons (len_cons (len_nil)))) (aa_cons (ve_ix xf (be_var) (L2.PE.look (ve_int))) (aa_nil))))) (len_cons (len_cons (len_cons (len_cons (len_nil)))))))) (ss_cons (ss_if (tq_not (L2.PE.tq xf.K (L2.PE.look (ve_call xf c__law_is hr (by decide) (aa_cons (ve_var) (aa_cons (ve_ix xf (be_var) (L2.PE.look (ve_int))) (aa_cons (ve_ix xf (be_var) (L2.PE.look (ve_int))) (aa_cons (ve_ix xf (be_var) (L2.PE.look (ve_int))) (aa_cons (ve_ix xf (be_var) (L2.PE.look (ve_int))) (aa_nil)))))) (hl := len_cons (len_cons (len_cons (len_cons (len_cons (len_nil)))))))))) (ss_one (ss_ret (ve_bl))) (ss_nil)) (ss_cons (ss_set xf (ve_call xf c__law_unlike hr (by decide) (aa_cons (ve_add xf.K (L2.PE.look (ve_ix xf (be_var) (L2.PE.look (ve_int)))) (L2.PE.look (L2.PE.keep (vo_lst (aa_cons (ve_int) (aa_nil)))))) (aa_nil)) (hl := len_cons (len_nil)))) (ss_cons (ss_set xf (ve_add xf.K (L2.PE.look (ve_slice xf (be_var) (pt_s (L2.PE.look (ve_int))) (pt_n))) (L2.PE.look (L2.PE.keep (vo_lst (aa_cons (ve_len xf (L2.PE.look (ve_ix xf (be_var) (L2.PE.look (ve_int))))) (aa_nil))))))) (ss_cons (ss_if (tq_not (L2.PE.tq xf.K (L2.PE.look (ve_call xf c__law_alike hr (by decide) (aa_cons (ve_call xf c_runs_of hr (by decide) (aa_cons (ve_var) (aa_nil)) (hl := len_cons (len_nil))) (aa_cons (L2.PE.keep (vo_comp xf (ii_r1 xf (ve_len xf (be_var))) (own := [("k", 13)]) (blkOk_by (by rfl)) (fun s H C cl fp xf => tg_n xf) (fun s H C cl fp xf => tq_none) (fun s H C cl fp xf => ve_tup (aa_cons (ve_ix xf (be_var) (be_var)) (aa_cons (ve_sub (L2.PE.look (ve_ix xf (be_var) (be_var))) (L2.PE.look (ve_int))) (aa_nil)))))) (aa_nil))) (hl := len_cons (len_cons (len_nil))))))) (ss_one (ss_ret (ve_bl))) (ss_nil)) (ss_cons (ss_for xf (ii_r1 xf (ve_int)) (tg_n xf) (ss_cons (ss_set xf (ve_call xf c__law_window hr (by decide) (aa_cons (ve_var) (aa_cons (ve_var) (aa_nil))) (hl := len_cons (len_cons (len_nil))))) (ss_cons (ss_if (tq_not (L2.PE.tq xf.K (L2.PE.look (ve_call xf c__law_alike hr (by decide) (aa_cons (ve_call xf c_pieces_of hr (by decide) (aa_cons (ve_var) (aa_cons (ve_var) (aa_nil))) (hl := len_cons (len_cons (len_nil)))) (aa_cons (ve_call xf c__law_pieces hr (by decide) (aa_cons (ve_tup (aa_cons (ve_ix xf (be_var) (L2.PE.look (ve_int))) (aa_cons (ve_ix xf (be_var) (L2.PE.look (ve_int))) (aa_cons (ve_ix xf (be_var) (L2.PE.look (ve_int))) (aa_cons (ve_var) (aa_nil)))))) (aa_cons (ve_var) (aa_nil))) (hl := len_cons (len_cons (len_nil)))) (aa_nil))) (hl := len_cons (len_cons (len_nil))))))) (ss_one (ss_ret (ve_bl))) (ss_nil)) (ss_cons (ss_set xf (L2.PE.keep (vo_lst (aa_nil)))) (ss_cons (ss_for xf (ii_r1 xf (ve_add xf.K (L2.PE.look (ve_sub (L2.PE.look (ve_ix xf (be_var) (L2.PE.look (ve_int)))) (L2.PE.look (ve_ix xf (be_var) (L2.PE.look (ve_int)))))) (L2.PE.look (ve_int)))) (tg_n xf) (ss_one (ss_set xf (ve_add xf.K (be_var) (L2.PE.look (L2.PE.keep (vo_comp xf (ii_r1 xf (ve_add xf.K (L2.PE.look (ve_sub (L2.PE.look (ve_ix xf (be_var) (L2.PE.look (ve_int)))) (L2.PE.look (ve_ix xf (be_var) (L2.PE.look (ve_int)))))) (L2.PE.look (ve_int)))) (own := [("x", 18)]) (blkOk_by (by rfl)) (fun s H C cl fp xf => tg_n xf) (fun s H C cl fp xf => tq_none) (fun s H C cl fp xf => ve_tup (aa_cons (ve_var) (aa_cons (ve_var) (aa_cons (ve_ix xf (be_var) (L2.PE.look (ve_int))) (aa_cons (ve_ix xf (be_var) (L2.PE.look (ve_int))) (aa_nil))))))))))))) (ss_one (ss_if (tq_not (L2.PE.tq xf.K (L2.PE.look (ve_call xf c__law_alike hr (by decide) (aa_cons (ve_call xf c_windows_of hr (by decide) (aa_cons (ve_var) (aa_cons (ve_ix xf (be_var) (L2.PE.look (ve_int))) (aa_cons (ve_ix xf (be_var) (L2.PE.look (ve_int))) (aa_nil)))) (hl := len_cons (len_cons (len_cons (len_nil))))) (aa_cons (ve_var) (aa_nil))) (hl := len_cons (len_cons (len_nil))))))) (ss_one (ss_ret (ve_bl))) (ss_nil)))))))) (ss_cons (ss_for xf (ii_seq xf (L2.PE.keep (vo_lst (aa_cons (ve_call xf c__law_window hr (by decide) (aa_cons (ve_var) (aa_cons (ve_var) (aa_nil))) (hl := len_cons (len_cons (len_nil)))) (aa_cons (ve_call xf c__law_bad_window hr (by decide) (aa_cons (ve_var) (aa_cons (ve_var) (aa_nil))) (hl := len_cons (len_cons (len_nil)))) (aa_cons (ve_call xf c__law_bad_window hr (by decide) (aa_cons (ve_var) (aa_cons (ve_var) (aa_nil))) (hl := len_cons (len_cons (len_nil)))) (aa_cons (L2.PE.keep (vo_list xf (L2.PE.look (ve_call xf c__law_window hr (by decide) (aa_cons (ve_var) (aa_cons (ve_var) (aa_nil))) (hl := len_cons (len_cons (len_nil))))))) (aa_nil)))))))) (tg_n xf) (ss_one (ss_if (tq_not (L2.PE.tq xf.K (L2.PE.look (ve_call xf c__law_alike hr (by decide) (aa_cons (ve_call xf c_is_window hr (by decide) (aa_cons (ve_var) (aa_cons (ve_var) (aa_nil))) (hl := len_cons (len_cons (len_nil)))) (aa_cons (ve_call xf c__law_good_window hr (by decide) (aa_cons (ve_var) (aa_cons (ve_var) (aa_nil))) (hl := len_cons (len_cons (len_nil)))) (aa_nil))) (hl := len_cons (len_cons (len_nil))))))) (ss_one (ss_ret (ve_bl))) (ss_nil)))) (ss_cons ((by first | exact ss_par2 xf (am_f (ve_call xf c_mirrored_walk hr (by decide) (aa_cons (ve_var) (aa_nil)) (hl := len_cons (len_nil))) (am_f (ve_call xf c_turned_walk hr (by decide) (aa_cons (ve_var) (aa_nil)) (hl := len_cons (len_nil))) (am_nil))) | exact ss_parT xf (gs_cons xf (gs_cons xf (gs_nil))) (am_f (ve_call xf c_mirrored_walk hr (by decide) (aa_cons (ve_var) (aa_nil)) (hl := len_cons (len_nil))) (am_f (ve_call xf c_turned_walk hr (by decide) (aa_cons (ve_var) (aa_nil)) (hl := len_cons (len_nil))) (am_nil))))) (ss_cons (ss_if (tq_not (L2.PE.tq xf.K (L2.PE.look (ve_call xf c__law_is hr (by decide) (aa_cons (ve_var) (aa_cons (ve_ix xf (be_var) (L2.PE.look (ve_int))) (aa_cons (ve_ix xf (be_var) (L2.PE.look (ve_int))) (aa_cons (L2.PE.keep (vo_comp xf (ii_seq xf (ve_ix xf (be_var) (L2.PE.look (ve_int)))) (own := [("x", 18), ("y", 17)]) (blkOk_by (by rfl)) (fun s H C cl fp xf => tg_t xf (tgs_cons (tg_n xf) (tgs_cons (tg_n xf) (tgs_nil)))) (fun s H C cl fp xf => tq_none) (fun s H C cl fp xf => ve_tup (aa_cons (ve_sub (L2.PE.look (ve_sub (L2.PE.look (ve_ix xf (be_var) (L2.PE.look (ve_int)))) (L2.PE.look (ve_int)))) (be_var)) (aa_cons (ve_var) (aa_nil)))))) (aa_cons (ve_ix xf (be_var) (L2.PE.look (ve_int))) (aa_nil)))))) (hl := len_cons (len_cons (len_cons (len_cons (len_cons (len_nil)))))))))) (ss_one (ss_ret (ve_bl))) (ss_nil)) (ss_cons (ss_if (tq_not (L2.PE.tq xf.K (L2.PE.look (ve_call xf c__law_is hr (by decide) (aa_cons (ve_var) (aa_cons (ve_ix xf (be_var) (L2.PE.look (ve_int))) (aa_cons (ve_ix xf (be_var) (L2.PE.look (ve_int))) (aa_cons (L2.PE.keep (vo_comp xf (ii_seq xf (ve_ix xf (be_var) (L2.PE.look (ve_int)))) (own := [("x", 18), ("y", 17)]) (blkOk_by (by rfl)) (fun s H C cl fp xf => tg_t xf (tgs_cons (tg_n xf) (tgs_cons (tg_n xf) (tgs_nil)))) (fun s H C cl fp xf => tq_none) (fun s H C cl fp xf => ve_tup (aa_cons (ve_var) (aa_cons (ve_var) (aa_nil)))))) (aa_cons (ve_ix xf (be_var) (L2.PE.look (ve_int))) (aa_nil)))))) (hl := len_cons (len_cons (len_cons (len_cons (len_cons (len_nil)))))))))) (ss_one (ss_ret (ve_bl))) (ss_nil)) (ss_cons (ss_if (PWQ.tq (wq_or (PV.tq (cv_ne xf.K (Nat.lt_of_le_of_lt (Nat.add_le_add_left (by decide) _) xf.u) (L2.PE.look (ve_fld xf cf_Walk_cells (L2.PE.look (ve_call xf c_mirrored_walk hr (by decide) (aa_cons (ve_var) (aa_nil)) (hl := len_cons (len_nil)))))) (L2.PE.look (ve_fld xf cf_Walk_cells (be_var)))) bl_ne) (wq_or1 (PV.tq (cv_ne xf.K (Nat.lt_of_le_of_lt (Nat.add_le_add_left (by decide) _) xf.u) (L2.PE.look (ve_fld xf cf_Walk_cells (L2.PE.look (ve_call xf c_turned_walk hr (by decide) (aa_cons (ve_var) (aa_nil)) (hl := len_cons (len_nil)))))) (L2.PE.look (ve_fld xf cf_Walk_cells (be_var)))) bl_ne)))) (ss_one (ss_ret (ve_bl))) (ss_nil)) (ss_one (ss_ret (ve_callG xf gd c__law_refusals hr (by decide) (aa_cons (ve_var) (aa_cons (ve_var) (aa_cons (ve_var) (aa_nil)))) (len_cons (len_cons (len_cons (len_nil))))))))))))))))))))))))))
end
end GD
end RP
end L2
set_option Elab.async false
set_option linter.all false
set_option maxRecDepth 100000
/-! P1: what loops come to, in plain Lean. -/
namespace L2
namespace RP
open PySem PySem.Spec

section
variable {t : Tg} {fc fe : SE} {body : SS} {ρ : En} {g : G} {i : Nat}
/-- a comprehension whose parts draw nothing -/
theorem compL_pure {p : D → Bool} {q : D → D} : ∀ {ds : List D}, i < ρ.length → (∀ d ∈ ds, fc (ρ.set i (.frz d)) g = .ok (.bl (p d), g)) → (∀ d ∈ ds, p d = true → fe (ρ.set i (.frz d)) g = .ok (q d, g)) → compL (tgN i) fc fe ds ρ g = .ok ((ds.filter p).map q, g)
  | [], _, _, _ => rfl
  | d :: ds, hi, h1, h2 => by
    have ih := compL_pure (ds := ds) hi (fun x hx => h1 x (List.mem_cons_of_mem _ hx)) (fun x hx => h2 x (List.mem_cons_of_mem _ hx))
    have c := h1 d List.mem_cons_self
    unfold compL
    simp only [tgN, hi, if_true]
    rw [c]
    cases hp : p d with
    | true =>
      have e := h2 d List.mem_cons_self hp
      simp only [D.truth, hp]
      rw [e]
      dsimp only
      rw [ih]
      simp [List.filter_cons, hp]
    | false =>
      simp only [D.truth, hp]
      rw [ih]
      simp [List.filter_cons, hp]
/-- .. of any target -/
theorem compL_pureT {r : D → En} {p : D → Bool} {q : D → D} : ∀ {ds : List D}, (∀ d ∈ ds, t d ρ = some (r d)) → (∀ d ∈ ds, fc (r d) g = .ok (.bl (p d), g)) → (∀ d ∈ ds, p d = true → fe (r d) g = .ok (q d, g)) → compL t fc fe ds ρ g = .ok ((ds.filter p).map q, g)
  | [], _, _, _ => rfl
  | d :: ds, h0, h1, h2 => by
    have ih := compL_pureT (ds := ds) (fun x hx => h0 x (List.mem_cons_of_mem _ hx)) (fun x hx => h1 x (List.mem_cons_of_mem _ hx)) (fun x hx => h2 x (List.mem_cons_of_mem _ hx))
    unfold compL
    rw [h0 d List.mem_cons_self]
    simp only
    rw [h1 d List.mem_cons_self]
    cases hp : p d with
    | true =>
      simp only [D.truth]
      rw [h2 d List.mem_cons_self hp]
      dsimp only
      rw [ih]
      simp [List.filter_cons, hp]
    | false =>
      simp only [D.truth]
      rw [ih]
      simp [List.filter_cons, hp]
/-- a comprehension whose parts draw -/
theorem compL_draw {I : G → Prop} {P : D → Prop} : ∀ {ds : List D} {g : G}, i < ρ.length → I g → (∀ d ∈ ds, ∀ g, I g → ∃ e g', fe (ρ.set i (.frz d)) g = .ok (e, g') ∧ I g' ∧ P e) →
    ∃ es g', compL (tgN i) (vC (.bl true)) fe ds ρ g = .ok (es, g') ∧ I g' ∧ es.length = ds.length ∧ ∀ e ∈ es, P e
  | [], g, _, hg, _ => ⟨[], g, rfl, hg, rfl, fun _ h => by cases h⟩
  | d :: ds, g, hi, hg, h => by
    obtain ⟨e, g1, e1, e2, e3⟩ := h d List.mem_cons_self g hg
    obtain ⟨es, g2, f1, f2, f3, f4⟩ := compL_draw (ds := ds) hi e2 fun x hx => h x (List.mem_cons_of_mem _ hx)
    refine ⟨e :: es, g2, ?_, f2, by simp [f3], fun x hx => ?_⟩
    · unfold compL
      simp only [tgN, hi, if_true, vC, D.truth]
      rw [e1]
      simp only
      rw [f1]
    · rcases List.mem_cons.mp hx with rfl | hx
      · exact e3
      · exact f4 x hx
/-- a for loop that goes through -/
theorem forL_inv (I : Nat → En → G → Prop) : ∀ {ds : List D} {k : Nat} {ρ : En} {g : G}, I k ρ g → (∀ j d ρ g, ds[j]? = some d → I (k + j) ρ g → ∃ ρ1 ρ2 g2 fl, t d ρ = some ρ1 ∧ body ρ1 g = .ok (fl, ρ2, g2) ∧ (fl = .nx ∨ fl = .cont) ∧ I (k + j + 1) ρ2 g2) →
    ∃ ρ' g', forL t body ds ρ g = .ok (.nx, ρ', g') ∧ I (k + ds.length) ρ' g'
  | [], k, ρ, g, h, _ => ⟨ρ, g, rfl, h⟩
  | d :: ds, k, ρ, g, h, st => by
    obtain ⟨ρ1, ρ2, g2, fl, a1, a2, a3, a4⟩ := st 0 d ρ g rfl h
    obtain ⟨ρ', g', b1, b2⟩ := forL_inv I (ds := ds) (k := k + 1) (ρ := ρ2) (g := g2) a4 fun j x ρ g hx hI => by
      have := st (j + 1) x ρ g (by simpa using hx) (by rw [show k + (j + 1) = k + 1 + j by omega]; exact hI)
      rw [show k + (j + 1) + 1 = k + 1 + j + 1 by omega] at this
      exact this
    refine ⟨ρ', g', ?_, by rw [List.length_cons, show k + (ds.length + 1) = k + 1 + ds.length by omega]; exact b2⟩
    unfold forL
    rw [a1]
    simp only
    rw [a2]
    rcases a3 with rfl | rfl <;> exact b1
/-- .. that ends with a return, or goes through -/
theorem forL_ret (I : Nat → En → G → Prop) (Rt : D → G → Prop) : ∀ {ds : List D} {k : Nat} {ρ : En} {g : G}, I k ρ g → (∀ j d ρ g, ds[j]? = some d → I (k + j) ρ g → ∃ ρ1, t d ρ = some ρ1 ∧ ((∃ ρ2 g2, body ρ1 g = .ok (.nx, ρ2, g2) ∧ I (k + j + 1) ρ2 g2) ∨ ∃ ρ2 g2 e, body ρ1 g = .ok (.ret e, ρ2, g2) ∧ Rt e g2)) →
    (∃ ρ' g', forL t body ds ρ g = .ok (.nx, ρ', g') ∧ I (k + ds.length) ρ' g') ∨ ∃ ρ' g' e, forL t body ds ρ g = .ok (.ret e, ρ', g') ∧ Rt e g'
  | [], k, ρ, g, h, _ => .inl ⟨ρ, g, rfl, h⟩
  | d :: ds, k, ρ, g, h, st => by
    obtain ⟨ρ1, a1, a2⟩ := st 0 d ρ g rfl h
    unfold forL
    rw [a1]
    simp only
    rcases a2 with ⟨ρ2, g2, a3, a4⟩ | ⟨ρ2, g2, e, a3, a4⟩
    · rw [a3]
      simp only
      rcases forL_ret I Rt (ds := ds) (k := k + 1) (ρ := ρ2) (g := g2) a4 (fun j x ρ g hx hI => by
        have := st (j + 1) x ρ g (by simpa using hx) (by rw [show k + (j + 1) = k + 1 + j by omega]; exact hI)
        rw [show k + (j + 1) + 1 = k + 1 + j + 1 by omega] at this
        exact this) with ⟨ρ', g', b1, b2⟩ | b
      · exact .inl ⟨ρ', g', b1, by rw [List.length_cons, show k + (ds.length + 1) = k + 1 + ds.length by omega]; exact b2⟩
      · exact .inr b
    · rw [a3]
      exact .inr ⟨ρ2, g2, e, rfl, a4⟩
/-- a while loop with a measure -/
theorem whileL_inv {c : SE} (I : En → G → Prop) (m : En → G → Nat) (E : En → G → Prop) : ∀ (n : Nat) {ρ : En} {g : G}, m ρ g < n → I ρ g →
    (∀ ρ g, I ρ g → ∃ cd g1 b, c ρ g = .ok (cd, g1) ∧ cd.truth = some b ∧ ((b = false ∧ E ρ g1) ∨ (b = true ∧ ∃ ρ2 g2, body ρ g1 = .ok (.nx, ρ2, g2) ∧ I ρ2 g2 ∧ m ρ2 g2 < m ρ g))) →
    ∃ ρ' g', whileL c body n ρ g = .ok (.nx, ρ', g') ∧ E ρ' g'
  | 0, ρ, g, h, _, _ => absurd h (Nat.not_lt_zero _)
  | n + 1, ρ, g, h, hI, st => by
    obtain ⟨cd, g1, b, a1, a2, a3⟩ := st ρ g hI
    unfold whileL
    rw [a1]
    simp only [Res.bind_ok]
    rw [a2]
    rcases a3 with ⟨rfl, a3⟩ | ⟨rfl, ρ2, g2, a3, a4, a5⟩
    · exact ⟨ρ, g1, rfl, a3⟩
    · simp only
      rw [a3]
      exact whileL_inv I m E n (by omega) a4 st
end
end RP
end L2
set_option Elab.async false
set_option linter.all false
set_option maxRecDepth 100000
/-! P1b: steps of evaluation. -/
namespace L2
namespace RP
open PySem PySem.Spec

section
variable {ρ ρ1 ρ2 : En} {g g1 g2 g3 : G} {x y d : D} {fa fb fc f : SE} {fr : SEs} {ds es : List D} {s t : SS} {i n : Nat} {b : Bool}
theorem v1_ok {k : D → Option D} (ha : fa ρ g = .ok (x, g1)) (h : k x = some d) : v1 (pureK1 k) fa ρ g = .ok (d, g1) := by unfold v1 pureK1; rw [ha]; simp only [Res.bind_ok]; rw [h]
theorem v2_ok {k : D → D → Option D} (ha : fa ρ g = .ok (x, g1)) (hb : fb ρ g1 = .ok (y, g2)) (h : k x y = some d) : v2 (pureK2 k) fa fb ρ g = .ok (d, g2) := by unfold v2 pureK2; rw [ha]; simp only [Res.bind_ok]; rw [hb]; simp only [Res.bind_ok]; rw [h]
theorem a0_ok : aNil ρ g = .ok ([], g) := rfl
theorem aC_ok (ha : fa ρ g = .ok (x, g1)) (hr : fr ρ g1 = .ok (ds, g2)) : aCons fa fr ρ g = .ok (x :: ds, g2) := by unfold aCons; rw [ha]; simp only [Res.bind_ok]; rw [hr]; rfl
theorem tup_ok (h : fr ρ g = .ok (ds, g1)) (hl : ds.length ≤ sizeLine) : vTup fr ρ g = .ok (.tup ds, g1) := by unfold vTup; rw [h]; simp only [Res.bind_ok]; rw [if_pos hl]
theorem lst_ok (h : fr ρ g = .ok (ds, g1)) (hl : ds.length ≤ sizeLine) : vLst fr ρ g = .ok (.lst ds, g1) := by unfold vLst; rw [h]; simp only [Res.bind_ok]; rw [if_pos hl]
theorem call_ok {fs : FS} (h : fr ρ g = .ok (ds, g1)) : vCall fs fr ρ g = fs ds g1 := by unfold vCall; rw [h]; rfl
theorem meth_ok {c m : Str} {fs : FS} {fl : List (Str × D)} (ho : fa ρ g = .ok (.ins c fl, g1)) (hm : valD fl m = none) (h : fr ρ g1 = .ok (ds, g2)) : vMeth c m fs fa fr ρ g = fs (.ins c fl :: ds) g2 := by
  unfold vMeth
  rw [ho]
  simp only [Res.bind_ok, hm, and_self, if_true]
  rw [h]
  rfl
theorem make_ok {fs : FS} (h : fr ρ g = .ok (ds, g1)) (hn : D.noRows ds = true) (hf : fs ds g1 = .ok (d, g2)) (hd : d.noRow = true) : vMake fs fr ρ g = .ok (d, g2) := by
  unfold vMake; rw [h]; simp only [Res.bind_ok, hn, if_true]; rw [hf]; simp only [hd, if_true]
theorem make_exc {fs : FS} {c : Str} (h : fr ρ g = .ok (ds, g1)) (hn : D.noRows ds = true) (hf : fs ds g1 = .exc c d g2) (hd : d.noRow = true) : vMake fs fr ρ g = .exc c d g2 := by
  unfold vMake; rw [h]; simp only [Res.bind_ok, hn, if_true]; rw [hf]; simp only [hd, if_true]
theorem comp_ok {fi : SEs} {t : Tg} {vs : List Nat} (hi : fi ρ g = .ok (ds, g1)) (hv : vs.all (notOwn ρ) = true) (hc : compL t fc f ds (wipeD ρ vs) g1 = .ok (es, g2)) : vComp fi t vs fc f ρ g = .ok (.lst es, g2) := by
  unfold vComp; rw [hi]; simp only [Res.bind_ok, hv, if_true]; rw [hc]
theorem if_ok (hc : fc ρ g = .ok (x, g1)) (hb : x.truth = some b) : sIf fc s t ρ g = if b then s ρ g1 else t ρ g1 := by
  unfold sIf; rw [hc]; simp only [Res.bind_ok]; rw [hb]; cases b <;> rfl
theorem ifv_ok (hc : fc ρ g = .ok (x, g1)) (hb : x.truth = some b) : vIf fc fa fb ρ g = if b then fa ρ g1 else fb ρ g1 := by
  unfold vIf; rw [hc]; simp only [Res.bind_ok]; rw [hb]; cases b <;> rfl
theorem and_ok (ha : fa ρ g = .ok (x, g1)) (hb : x.truth = some b) : vAnd fa fb ρ g = if b then fb ρ g1 else .ok (x, g1) := by
  unfold vAnd; rw [ha]; simp only [Res.bind_ok]; rw [hb]; cases b <;> rfl
theorem or_ok (ha : fa ρ g = .ok (x, g1)) (hb : x.truth = some b) : vOr fa fb ρ g = if b then .ok (x, g1) else fb ρ g1 := by
  unfold vOr; rw [ha]; simp only [Res.bind_ok]; rw [hb]; cases b <;> rfl
theorem not_ok (ha : fa ρ g = .ok (x, g1)) (hb : x.truth = some b) : vNot fa ρ g = .ok (.bl (!b), g1) := v1_ok ha (by unfold D.notD; rw [hb]; rfl)
theorem chain_ok {f1 f2 : Int → Int → Bool} {i j k : Int} (ha : fa ρ g = .ok (.int i, g)) (hb : fb ρ g = .ok (.int j, g)) (hc : fc ρ g = .ok (.int k, g)) : vChain f1 f2 fa fb fc ρ g = .ok (.bl (f1 i j && f2 j k), g) := by
  unfold vChain
  rw [ha]
  simp only [Res.bind_ok]
  rw [hb]
  simp only [Res.bind_ok]
  cases h : f1 i j with
  | true => simp [hc]
  | false => simp
theorem seq_nx (h : s ρ g = .ok (.nx, ρ1, g1)) : sSeq s t ρ g = t ρ1 g1 := by unfold sSeq; rw [h]
theorem seq_ret (h : s ρ g = .ok (.ret d, ρ1, g1)) : sSeq s t ρ g = .ok (.ret d, ρ1, g1) := by unfold sSeq; rw [h]
theorem seq_exc {c : Str} (h : s ρ g = .exc c d g1) : sSeq s t ρ g = .exc c d g1 := by unfold sSeq; rw [h]
theorem set_ok (h : f ρ g = .ok (d, g1)) (hi : i < ρ.length) : sSet i f ρ g = .ok (.nx, ρ.set i (.frz d), g1) := by unfold sSet; rw [h]; simp only [Res.bind_ok, hi, if_true]
theorem own_ok (h : f ρ g = .ok (d, g1)) (hi : i < ρ.length) : sOwn i f ρ g = .ok (.nx, ρ.set i (.own d), g1) := by unfold sOwn; rw [h]; simp only [Res.bind_ok, hi, if_true]
theorem ret_ok (h : f ρ g = .ok (d, g1)) : sRet f ρ g = .ok (.ret d, ρ, g1) := by unfold sRet; rw [h]; rfl
theorem ret_exc {c : Str} (h : f ρ g = .exc c d g1) : sRet f ρ g = .exc c d g1 := by unfold sRet; rw [h]; rfl
theorem expr_ok (h : f ρ g = .ok (d, g1)) : sExpr f ρ g = .ok (.nx, ρ, g1) := by unfold sExpr; rw [h]; rfl
theorem expr_exc {c : Str} (h : f ρ g = .exc c d g1) : sExpr f ρ g = .exc c d g1 := by unfold sExpr; rw [h]; rfl
theorem raise_ok {c : Str} (h : f ρ g = .ok (d, g1)) : sRaise c f ρ g = .exc c d g1 := by unfold sRaise; rw [h]; rfl
theorem fz_own (h : ρ[i]? = some (.own d)) : sFz i s ρ g = s (ρ.set i (.frz d)) g := by unfold sFz; rw [h]
theorem run_ret {nN : Nat} (h : s (startD nN ds) g = .ok (.ret d, ρ1, g1)) : runF nN s ds g = .ok (d, g1) := by unfold runF; rw [h]
theorem run_nx {nN : Nat} (h : s (startD nN ds) g = .ok (.nx, ρ1, g1)) : runF nN s ds g = .ok (.non, g1) := by unfold runF; rw [h]
theorem run_exc {nN : Nat} {c : Str} (h : s (startD nN ds) g = .exc c d g1) : runF nN s ds g = .exc c d g1 := by unfold runF; rw [h]
theorem for_ok {fi : SEs} {t : Tg} (h : fi ρ g = .ok (ds, g1)) : sFor fi t s ρ g = forL t s ds ρ g1 := by unfold sFor; rw [h]; rfl
theorem seqIt_l (h : f ρ g = .ok (.lst ds, g1)) : itSeq f ρ g = .ok (ds, g1) := by unfold itSeq; rw [h]; rfl
theorem seqIt_t (h : f ρ g = .ok (.tup ds, g1)) : itSeq f ρ g = .ok (ds, g1) := by unfold itSeq; rw [h]; rfl
theorem asg_ok {t : Tg} (h : f ρ g = .ok (d, g1)) (ht : t d ρ = some ρ1) : sAsg t f ρ g = .ok (.nx, ρ1, g1) := by unfold sAsg; rw [h]; simp only [Res.bind_ok]; rw [ht]
theorem app_ok {xs : List D} (ho : ρ[i]? = some (.own (.lst xs))) (h : f ρ g = .ok (d, g1)) (hl : xs.length < sizeLine) : sApp i f ρ g = .ok (.nx, ρ.set i (.own (.lst (xs ++ [d]))), g1) := by
  unfold sApp; rw [ho]; simp only; rw [h]; simp only [Res.bind_ok, hl, if_true]
end
end RP
end L2
set_option Elab.async false
set_option linter.all false
set_option maxRecDepth 100000
namespace L2
namespace RP
namespace GD
open PySem PySem.Spec PyProof.Rows
theorem pure1_some {k : D → Option D} {f : SE} : v1 (pureK1 k) f = fun ρ g => (f ρ g).bind fun p => match k p.1 with | some d => .ok (d, p.2) | none => .bad := rfl
theorem is_integer_int (n : Int) (g : G) : f_is_integer [.int n] g = .ok (.bl true, g) := by
  simp [f_is_integer, s_is_integer, runF, startD, sRet, vAnd, v1, pureK1, bVar, vVar, D.isBTd, D.isBT, D.bOf, D.truth, vNot, D.notD]
def takenV (m : Int) (g : G) : Int × G :=
  if 0 < g.c then (g.c % m, { g with c := g.c / m })
  else if (g.ns.length : Int) < g.a + 1 then (((g.b * 48271 + 11) % 2147483647 / 7) % m, { g with a := g.a + 1, b := (g.b * 48271 + 11) % 2147483647 })
  else match atI g.ns (g.a + 1 - 1) with
    | some cell => (cell % m, { g with a := g.a + 1, b := (g.b * 48271 + cell + 11) % 2147483647, c := if 10 ^ 18 ≤ cell then cell / m else g.c })
    | none => (0, g)
theorem mulOk_r (i : Int) : mulOk i 48271 = true := by unfold mulOk; simp
theorem taken_eq (m : Int) (h0 : 0 < m) (h1 : m < 1073741824) (g : G) (hme : g.me = none) (ha : 0 ≤ g.a) : f__law_taken [.row, .int m] g = .ok (.int (takenV m g).1, (takenV m g).2) := by
  have hr : ∀ (ρ : En) (g' : G), g'.me = none → isRow (Slot.frz .row :: ρ) g' 0 := fun ρ g' h => ⟨rfl, h⟩
  simp only [f__law_taken, s__law_taken, runF, startD, List.map, List.length, List.replicate, List.cons_append, List.nil_append]
  by_cases hc : 0 < g.c
  · simp [bVar, sSeq, sIf, sSet, sRet, v2, pureK2, vRow, hr, hme, rowGet, vC, D.cmpI, hc, D.truth, sRowPut, vVar, v1, pureK1, D.intD, D.mod, D.div, h0, h1, rowSet, takenV]
  · by_cases hl : (g.ns.length : Int) < g.a + 1
    · simp [bVar, sSeq, sIf, sSet, sRet, v2, pureK2, vRow, hr, hme, rowGet, vC, D.cmpI, hc, D.truth, sRowPut, vVar, v1, pureK1, D.intD, D.mod, D.div, h0, h1, rowSet, takenV, sNil, D.add, D.mul, mulOk_r, vRowLen, vRowCell, D.sub, D.pow, hl]
    · have hat : ∃ v, atI g.ns g.a = some v := by
        unfold atI ixN
        rw [if_pos ha]
        have h2 : g.a.toNat < g.ns.length := by omega
        have h3 : g.a < (g.ns.length : Int) := by omega
        simp [h3, h2]
      obtain ⟨cell, hcell⟩ := hat
      by_cases hb : (1000000000000000000 : Int) ≤ cell
      · simp [bVar, sSeq, sIf, sSet, sRet, v2, pureK2, vRow, hr, hme, rowGet, vC, D.cmpI, hc, D.truth, sRowPut, vVar, v1, pureK1, D.intD, D.mod, D.div, h0, h1, rowSet, takenV, sNil, D.add, D.mul, mulOk_r, vRowLen, vRowCell, D.sub, D.pow, hl, hcell, hb]
      · simp [bVar, sSeq, sIf, sSet, sRet, v2, pureK2, vRow, hr, hme, rowGet, vC, D.cmpI, hc, D.truth, sRowPut, vVar, v1, pureK1, D.intD, D.mod, D.div, h0, h1, rowSet, takenV, sNil, D.add, D.mul, mulOk_r, vRowLen, vRowCell, D.sub, D.pow, hl, hcell, hb]
end GD
end RP
end L2
set_option Elab.async false
set_option linter.all false
set_option maxRecDepth 100000
namespace L2
namespace RP
namespace GD
open PySem PySem.Spec PyProof.Rows
def dI (xs : List Int) : List D := xs.map D.int
abbrev keptD (top : Int) (outs cuts : List Int) : D := .ins "Rule" [("top", .int top), ("outs", .tup (dI outs)), ("cuts", .tup (dI cuts))]
abbrev ruleD (top : Int) (outs cuts : List Int) : D := .tup [.int top, .lst (dI outs), .lst (dI cuts)]
def cnt (cuts : List Int) (t : Int) : Nat := (cuts.filter fun c => decide (c ≤ t)).length
def outM (outs cuts : List Int) (t : Int) : Int := outs.getD (cnt cuts t) 0
theorem cnt_le (cuts : List Int) (t : Int) : cnt cuts t ≤ cuts.length := List.length_filter_le _ _
theorem atI_nat {α : Type} (xs : List α) (n : Nat) : atI xs (n : Int) = xs[n]? := by
  unfold atI ixN
  by_cases h : n < xs.length
  · simp [h]
  · have : xs[n]? = none := List.getElem?_eq_none (by omega)
    simp [h, this]
theorem outM_get {outs cuts : List Int} (h : cuts.length < outs.length) (t : Int) : (dI outs)[cnt cuts t]? = some (.int (outM outs cuts t)) := by
  have := cnt_le cuts t
  have hl : cnt cuts t < outs.length := by omega
  simp [dI, outM, hl]
theorem filter_dI (cuts : List Int) (t : Int) : ((dI cuts).filter fun d => match d with | .int c => decide (c ≤ t) | _ => false).length = cnt cuts t := by
  unfold dI cnt
  rw [List.filter_map, List.length_map]
  rfl
theorem compCut {cuts : List Int} {t : Int} {d : D} {g : G} : compL (tgN 2) (v2 (pureK2 D.leD) (bVar 2) (bVar 1)) (vVar 2) (dI cuts) [Slot.frz d, Slot.frz (.int t), Slot.none] g = .ok (((dI cuts).filter fun d => match d with | .int c => decide (c ≤ t) | _ => false).map id, g) := by
  refine compL_pure (by simp) (fun d hd => ?_) (fun d hd _ => rfl)
  obtain ⟨c, _, rfl⟩ := List.mem_map.mp hd
  rfl
theorem atI_out {outs cuts : List Int} (h : cuts.length < outs.length) (t : Int) : atI (dI outs) ((((dI cuts).filter fun d => match d with | .int c => decide (c ≤ t) | _ => false).map id).length : Int) = some (.int (outM outs cuts t)) := by
  rw [atI_nat, List.length_map, filter_dI]
  exact outM_get h t
theorem within_int (n lo hi : Int) (g : G) : f_is_within [.int n, .int lo, .int hi] g = .ok (.bl (decide (lo ≤ n) && decide (n ≤ hi)), g) :=
  run_ret (ret_ok ((and_ok (x := .bl true) (b := true) ((call_ok (aC_ok rfl a0_ok)).trans (is_integer_int n g)) rfl).trans (chain_ok rfl rfl rfl)))
theorem within_no {d : D} (h : f_is_integer [d] g = .ok (.bl false, g)) (lo hi : D) : f_is_within [d, lo, hi] g = .ok (.bl false, g) :=
  run_ret (ret_ok (and_ok (x := .bl false) (b := false) ((call_ok (aC_ok rfl a0_ok)).trans h) rfl))
end GD
end RP
end L2
set_option Elab.async false
set_option linter.all false
set_option maxRecDepth 100000
namespace L2
namespace RP
namespace GD
open PySem PySem.Spec PyProof.Rows
def stepM (outs cuts : List Int) (c x : Int) : Int := c + x - outM outs cuts (c + x)
def carriesM (outs cuts : List Int) : Int → List Int → List Int
  | _, [] => []
  | c, x :: xs => stepM outs cuts c x :: carriesM outs cuts (stepM outs cuts c x) xs
def outsM (outs cuts : List Int) : Int → List Int → List Int
  | _, [] => []
  | c, x :: xs => outM outs cuts (c + x) :: outsM outs cuts (stepM outs cuts c x) xs
theorem carriesM_len (outs cuts : List Int) : ∀ (c : Int) (xs : List Int), (carriesM outs cuts c xs).length = xs.length
  | _, [] => rfl
  | c, x :: xs => by simp [carriesM, carriesM_len]
/-- a row of values: list or tuple -/
def isSeqD (d : D) (xs : List D) : Prop := d = .lst xs ∨ d = .tup xs
theorem is_row_ok {d : D} {xs : List D} (h : isSeqD d xs) (g : G) : f_is_row [d] g = .ok (.bl true, g) := by
  rcases h with rfl | rfl <;> rfl
theorem seqIt_ok {ρ : En} {g g1 : G} {f : SE} {d : D} {xs : List D} (h : isSeqD d xs) (hf : f ρ g = .ok (d, g1)) : itSeq f ρ g = .ok (xs, g1) := by
  rcases h with rfl | rfl
  · exact seqIt_l hf
  · exact seqIt_t hf
theorem enumIt_ok {ρ : En} {g g1 : G} {f : SE} {d : D} {xs : List D} (h : isSeqD d xs) (hf : f ρ g = .ok (d, g1)) : itEnum f ρ g = .ok (enumD 0 xs, g1) := by
  unfold itEnum
  rw [hf]
  rcases h with rfl | rfl <;> rfl
end GD
end RP
end L2
set_option Elab.async false
set_option linter.all false
set_option maxRecDepth 100000
namespace L2
namespace RP
namespace GD
open PySem PySem.Spec PyProof.Rows
def lastM (outs cuts : List Int) : Int → List Int → Int
  | c, [] => c
  | c, x :: xs => lastM outs cuts (stepM outs cuts c x) xs
section
variable {top : Int} {outs cuts : List Int} {row : D}
theorem forL_nx {t : Tg} {body : SS} {d : D} {ds : List D} {ρ ρ1 ρ2 : En} {g g2 : G} (h1 : t d ρ = some ρ1) (h2 : body ρ1 g = .ok (.nx, ρ2, g2)) : forL t body (d :: ds) ρ g = forL t body ds ρ2 g2 := by
  rw [forL, h1]
  simp only
  rw [h2]
theorem forL_re {t : Tg} {body : SS} {d e : D} {ds : List D} {ρ ρ1 ρ2 : En} {g g2 : G} (h1 : t d ρ = some ρ1) (h2 : body ρ1 g = .ok (.ret e, ρ2, g2)) : forL t body (d :: ds) ρ g = .ok (.ret e, ρ2, g2) := by
  rw [forL, h1]
  simp only
  rw [h2]
theorem forL_exc {t : Tg} {body : SS} {d e : D} {c : Str} {ds : List D} {ρ ρ1 : En} {g g2 : G} (h1 : t d ρ = some ρ1) (h2 : body ρ1 g = .exc c e g2) : forL t body (d :: ds) ρ g = .exc c e g2 := by
  rw [forL, h1]
  simp only
  rw [h2]
end
end GD
end RP
end L2
set_option Elab.async false
set_option linter.all false
set_option maxRecDepth 100000
namespace L2
namespace RP
namespace GD
open PySem PySem.Spec PyProof.Rows
section
variable {top : Int} {outs cuts : List Int}
theorem outsM_app : ∀ (c : Int) (xs : List Int) (x : Int), outsM outs cuts c (xs ++ [x]) = outsM outs cuts c xs ++ [outM outs cuts (lastM outs cuts c xs + x)]
  | c, [], x => rfl
  | c, y :: ys, x => by simp [outsM, lastM, outsM_app (stepM outs cuts c y) ys x]
theorem carriesM_app : ∀ (c : Int) (xs : List Int) (x : Int), carriesM outs cuts c (xs ++ [x]) = carriesM outs cuts c xs ++ [stepM outs cuts (lastM outs cuts c xs) x]
  | c, [], x => rfl
  | c, y :: ys, x => by simp [carriesM, lastM, carriesM_app (stepM outs cuts c y) ys x]
theorem lastM_app : ∀ (c : Int) (xs : List Int) (x : Int), lastM outs cuts c (xs ++ [x]) = stepM outs cuts (lastM outs cuts c xs) x
  | c, [], x => rfl
  | c, y :: ys, x => by simp [lastM, lastM_app (stepM outs cuts c y) ys x]
theorem outsM_len : ∀ (c : Int) (xs : List Int), (outsM outs cuts c xs).length = xs.length
  | _, [] => rfl
  | c, x :: xs => by simp [outsM, outsM_len]
theorem take_succ' {α : Type} (xs : List α) (j : Nat) (x : α) (h : xs[j]? = some x) : xs.take (j + 1) = xs.take j ++ [x] := by
  rw [List.take_succ, h]; rfl
theorem add_lst {xs ys : List D} (h : xs.length + ys.length ≤ sizeLine) : D.add (.lst xs) (.lst ys) = some (.lst (xs ++ ys)) := if_pos h
theorem rangeD_get {n j : Nat} {d : D} (h : (rangeD 0 n)[j]? = some d) : d = .int (j : Nat) ∧ j < n := by
  unfold rangeD at h
  rw [List.getElem?_map] at h
  obtain ⟨k, hk, rfl⟩ := Option.map_eq_some_iff.mp h
  have := (List.getElem?_eq_some_iff.mp hk)
  obtain ⟨h1, h2⟩ := this
  simp at h1 h2
  exact ⟨by rw [← h2]; simp, h1⟩
theorem rangeD_len {a : Int} {n : Nat} : (rangeD a n).length = n := by simp [rangeD]
theorem r1_ok {f : SE} {ρ : En} {g g1 : G} {j : Int} (h : f ρ g = .ok (.int j, g1)) (hb : -(2 ^ 61) ≤ j ∧ j ≤ 16777216) : itR1 f ρ g = .ok (rangeD 0 j.toNat, g1) := by
  unfold itR1
  rw [h]
  simp only [Res.bind_ok]
  rw [if_pos hb]
theorem r2_ok {f f' : SE} {ρ : En} {g g1 g2 : G} {i j : Int} (h : f ρ g = .ok (.int i, g1)) (h' : f' ρ g1 = .ok (.int j, g2)) (hb : -(2 ^ 61) ≤ i ∧ i < 2 ^ 61 ∧ -(2 ^ 61) ≤ j ∧ j < 2 ^ 61 ∧ j - i ≤ 16777216) : itR2 f f' ρ g = .ok (rangeD i (j - i).toNat, g2) := by
  unfold itR2
  rw [h]
  simp only [Res.bind_ok]
  rw [h']
  simp only [Res.bind_ok]
  rw [if_pos hb]
abbrev walkD : D := .tup [.int 0, .int 0, .lst [], .lst []]
end
end GD
end RP
end L2
set_option Elab.async false
set_option linter.all false
set_option maxRecDepth 100000
namespace L2
namespace RP
namespace GD
open PySem PySem.Spec PyProof.Rows
/-- a loop that asks all and ends by False at the first that is not so -/
theorem forL_check {t : Tg} {body : SS} {g : G} (P : D → Bool) (J : En → Prop) : ∀ {ds : List D} {ρ : En}, J ρ → (∀ d ∈ ds, ∀ ρ, J ρ → ∃ ρ1 ρ2, t d ρ = some ρ1 ∧ body ρ1 g = (if P d then .ok (.nx, ρ2, g) else .ok (.ret (.bl false), ρ2, g)) ∧ (P d = true → J ρ2)) →
    ∃ ρ', forL t body ds ρ g = (if ds.all P then .ok (.nx, ρ', g) else .ok (.ret (.bl false), ρ', g)) ∧ (ds.all P = true → J ρ')
  | [], ρ, h, _ => ⟨ρ, rfl, fun _ => h⟩
  | d :: ds, ρ, h, st => by
    obtain ⟨ρ1, ρ2, a1, a2, a3⟩ := st d List.mem_cons_self ρ h
    cases hp : P d with
    | true =>
      rw [hp] at a2
      obtain ⟨ρ', b1, b2⟩ := forL_check P J (ds := ds) (a3 hp) fun x hx => st x (List.mem_cons_of_mem _ hx)
      exact ⟨ρ', by rw [forL_nx a1 a2, b1]; simp [hp], by simpa [hp] using b2⟩
    | false =>
      rw [hp] at a2
      exact ⟨ρ2, by rw [forL_re a1 a2]; simp [hp], by simp [hp]⟩
section
variable {top : Int} {outs cuts : List Int}
def rng (lo : Int) (n : Nat) : List Int := (List.range n).map fun i => lo + (i : Nat)
theorem rangeD_eq (lo : Int) (n : Nat) : rangeD lo n = dI (rng lo n) := by simp [rangeD, dI, rng]
theorem mem_rng {lo : Int} {n : Nat} {x : Int} : x ∈ rng lo n ↔ lo ≤ x ∧ x < lo + n := by
  unfold rng
  simp only [List.mem_map, List.mem_range]
  constructor
  · rintro ⟨i, hi, rfl⟩; omega
  · intro h; exact ⟨(x - lo).toNat, by omega, by omega⟩
def okAt (outs cuts : List Int) (low high t : Int) : Bool := decide (low ≤ t - outM outs cuts t) && decide (t - outM outs cuts t ≤ high)
/-- the law's own closed bounds -/
def shutM (top : Int) (outs cuts : List Int) (low high : Int) : Bool :=
  if decide (low ≤ 0) && decide (0 ≤ high) then (rng low (high + 1 - low).toNat).all fun c => (rng 0 (top + 1).toNat).all fun x => okAt outs cuts low high (c + x) else false
def intP (P : Int → Bool) : D → Bool
  | .int i => P i
  | _ => false
theorem all_dI (P : Int → Bool) (xs : List Int) : (dI xs).all (intP P) = xs.all P := by simp [dI, List.all_map, Function.comp_def, intP]
end
end GD
end RP
end L2
set_option Elab.async false
set_option linter.all false
set_option maxRecDepth 100000
namespace L2
namespace RP
namespace GD
open PySem PySem.Spec PyProof.Rows
section
variable {top : Int} {outs cuts : List Int}
def closedM (top : Int) (outs cuts : List Int) (low high : Int) : Bool :=
  if decide (low ≤ 0) && decide (0 ≤ high) then (rng low (high + top + 1 - low).toNat).all fun t => okAt outs cuts low high t else false
theorem closed_shut (ht : 0 ≤ top) (low high : Int) : closedM top outs cuts low high = shutM top outs cuts low high := by
  unfold closedM shutM
  cases hz : decide (low ≤ 0) && decide (0 ≤ high) with
  | false => rfl
  | true =>
    simp only [if_true]
    simp only [Bool.and_eq_true, decide_eq_true_eq] at hz
    rw [Bool.eq_iff_iff]
    simp only [List.all_eq_true, mem_rng]
    constructor
    · intro h c hc x hx
      exact h (c + x) (by omega)
    · intro h t htt
      by_cases ht2 : t ≤ high
      · have := h t (by omega) 0 (by omega)
        rwa [Int.add_zero] at this
      · have := h high (by omega) (t - high) (by omega)
        rwa [show high + (t - high) = t by omega] at this
theorem wIn_ok (d : D) (b : Bool) (g : G) (h : f_is_within [d, .int (-1000), .int 1000] g = .ok (.bl b, g)) {ρ : En} (hρ : ρ[2]? = some (.frz d)) : vCall f_is_within (aCons (vVar 2) (aCons (v1 (pureK1 D.neg) (vC (.int 1000))) (aCons (vC (.int 1000)) (aNil)))) ρ g = .ok (.bl b, g) := by
  have e : vVar 2 ρ g = .ok (d, g) := by unfold vVar; rw [hρ]
  exact (call_ok (aC_ok e (aC_ok (x := .int (-1000)) (v1_ok (x := .int 1000) rfl rfl) (aC_ok rfl a0_ok)))).trans h
end
end GD
end RP
end L2
set_option Elab.async false
set_option linter.all false
set_option maxRecDepth 100000
namespace L2
namespace RP
namespace GD
open PySem PySem.Spec PyProof.Rows
theorem intsOf_dI : ∀ xs : List Int, intsOf (dI xs) = some xs
  | [] => rfl
  | x :: xs => by
    have ih := intsOf_dI xs
    simp only [dI, List.map_cons] at ih ⊢
    unfold intsOf
    rw [ih]
    rfl
theorem minD_ok {xs : List Int} {m : Int} (h : xs.min? = some m) : D.minD (.lst (dI xs)) = some (.int m) := by
  unfold D.minD D.onInts
  simp only [intsOf_dI]
  simp [h]
theorem maxD_ok {xs : List Int} {m : Int} (h : xs.max? = some m) : D.maxD (.lst (dI xs)) = some (.int m) := by
  unfold D.maxD D.onInts
  simp only [intsOf_dI]
  simp [h]
section
variable {top : Int} {outs cuts : List Int}
def keepsM (top : Int) (outs : List Int) : Bool := decide (outs.headD 0 ≤ 0) && decide (top ≤ outs.getLastD 0)
theorem ix0 (hne : outs ≠ []) : D.ix (.tup (dI outs)) (.int 0) = some (.int (outs.headD 0)) := by
  cases outs with
  | nil => exact absurd rfl hne
  | cons x xs =>
    show atI (dI (x :: xs)) ((0 : Nat) : Int) = _
    rw [atI_nat]
    rfl
theorem ixLast (hne : outs ≠ []) : D.ix (.tup (dI outs)) (.int (-1)) = some (.int (outs.getLastD 0)) := by
  show atI (dI outs) (-1) = _
  unfold atI ixN
  have hl : 0 < outs.length := List.length_pos_iff.mpr hne
  rw [if_neg (by omega), if_pos (by simp [dI]; omega)]
  show (dI outs)[((-1 : Int) + ((dI outs).length : Int)).toNat]? = _
  have e : ((-1 : Int) + ((dI outs).length : Int)).toNat = outs.length - 1 := by simp [dI]; omega
  rw [e]
  simp [dI, List.getLastD_eq_getLast?, List.getLast?_eq_getElem?]
  rw [List.getElem?_eq_getElem (by omega)]
  rfl
def lowL (outs cuts : List Int) : List Int := 0 :: List.zipWith (fun c o => c - o) cuts outs.tail
def highL (outs cuts : List Int) : List Int := 0 :: List.zipWith (fun c o => c - 1 - o) cuts outs
def lowM (outs cuts : List Int) : Int := (lowL outs cuts).min?.getD 0
def highM (outs cuts : List Int) : Int := (highL outs cuts).max?.getD 0
theorem zipD_dI : ∀ (xs ys : List Int), zipD (dI xs) (dI ys) = (List.zip xs ys).map fun p => .tup [.int p.1, .int p.2]
  | [], _ => by simp [dI, zipD]
  | _ :: _, [] => by simp [dI, zipD]
  | x :: xs, y :: ys => by
    show D.tup [.int x, .int y] :: zipD (dI xs) (dI ys) = _
    rw [zipD_dI xs ys]
    rfl
theorem compZip {f : SE} {k : Int → Int → Int} {g : G} {xs ys : List Int} {ρ : En} (hf : ∀ x y, ∀ ρ' : En, ρ' = (ρ.set 2 (.frz (.int x))).set 3 (.frz (.int y)) → f ρ' g = .ok (.int (k x y), g)) (hl : 3 < ρ.length) :
    compL (tgT 2 (tgsCons (tgN 2) (tgsCons (tgN 3) (tgsNil)))) (vC (.bl true)) f (zipD (dI xs) (dI ys)) ρ g = .ok (dI (List.zipWith k xs ys), g) := by
  rw [zipD_dI]
  have := compL_pureT (t := tgT 2 (tgsCons (tgN 2) (tgsCons (tgN 3) (tgsNil)))) (fc := vC (.bl true)) (fe := f) (ρ := ρ) (g := g) (r := fun d => match d with | .tup [a, b] => (ρ.set 2 (.frz a)).set 3 (.frz b) | _ => ρ) (p := fun _ => true) (q := fun d => match d with | .tup [.int a, .int b] => .int (k a b) | _ => .non) (ds := (List.zip xs ys).map fun p => .tup [.int p.1, .int p.2])
    (fun d hd => by
      obtain ⟨p, _, rfl⟩ := List.mem_map.mp hd
      have h2 : 2 < ρ.length := by omega
      have h3 : 3 < (ρ.set 2 (Slot.frz (.int p.1))).length := by simpa using hl
      simp [tgT, tgsCons, tgN, tgsNil, h2, hl]) (fun _ _ => rfl) (fun d hd _ => by
      obtain ⟨p, _, rfl⟩ := List.mem_map.mp hd
      exact hf p.1 p.2 _ rfl)
  rw [this]
  rw [List.filter_eq_self.mpr (fun _ _ => rfl), List.map_map]
  unfold dI
  rw [← List.map_uncurry_zip_eq_zipWith, List.map_map]
  rfl
end
end GD
end RP
end L2
set_option Elab.async false
set_option linter.all false
set_option maxRecDepth 100000
namespace L2
namespace RP
namespace GD
open PySem PySem.Spec PyProof.Rows
theorem cutD_from (xs : List D) (k : Nat) : cutD xs (some (k : Int)) none = xs.drop k := by
  unfold cutD
  rw [HT.sIx_nat, HT.sIx_none]
  rw [List.take_of_length_le (by rw [List.length_drop]; exact Nat.le_refl _)]
  by_cases h : k ≤ xs.length
  · rw [Nat.min_eq_left h]
  · rw [Nat.min_eq_right (by omega), List.drop_length, List.drop_of_length_le (by omega)]
theorem cutD_to (xs : List D) (k : Nat) : cutD xs none (some (k : Int)) = xs.take k := by
  unfold cutD
  rw [HT.sIx_nat, HT.sIx_none, List.drop_zero, Nat.sub_zero]
  by_cases h : k ≤ xs.length
  · rw [Nat.min_eq_left h]
  · rw [Nat.min_eq_right (by omega), List.take_length, List.take_of_length_le (by omega)]
theorem zip_ok {fa fb : SE} {ρ : En} {g g1 g2 : G} {x y : D} {m n : Bool} {xs ys : List D} (ha : fa ρ g = .ok (x, g1)) (hb : fb ρ g1 = .ok (y, g2)) (hx : seqOf x = some (m, xs)) (hy : seqOf y = some (n, ys)) : itZip fa fb ρ g = .ok (zipD xs ys, g2) := by
  unfold itZip
  rw [ha]
  simp only [Res.bind_ok]
  rw [hb]
  simp only [Res.bind_ok]
  rw [hx, hy]
section
variable {top : Int} {outs cuts : List Int}
theorem cut1 : D.cut (some 1) none (.tup (dI outs)) = some (.tup (dI outs.tail)) := by
  show some (D.tup (cutD (dI outs) (some ((1 : Nat) : Int)) none)) = _
  rw [cutD_from, List.drop_one]
  simp [dI]
theorem min_cons (x : Int) (xs : List Int) : ∃ m, (x :: xs).min? = some m ∧ m ≤ x ∧ ∀ y ∈ xs, m ≤ y := by
  cases h : (x :: xs).min? with
  | none => simp at h
  | some m =>
    have := List.min?_eq_some_iff.mp h
    exact ⟨m, rfl, this.2 x List.mem_cons_self, fun y hy => this.2 y (List.mem_cons_of_mem _ hy)⟩
theorem max_cons (x : Int) (xs : List Int) : ∃ m, (x :: xs).max? = some m ∧ x ≤ m ∧ ∀ y ∈ xs, y ≤ m := by
  cases h : (x :: xs).max? with
  | none => simp at h
  | some m =>
    have := List.max?_eq_some_iff.mp h
    exact ⟨m, rfl, this.2 x List.mem_cons_self, fun y hy => this.2 y (List.mem_cons_of_mem _ hy)⟩
theorem lowM_spec : (lowL outs cuts).min? = some (lowM outs cuts) ∧ lowM outs cuts ≤ 0 ∧ ∀ y ∈ List.zipWith (fun c o => c - o) cuts outs.tail, lowM outs cuts ≤ y := by
  obtain ⟨m, h1, h2, h3⟩ := min_cons 0 (List.zipWith (fun c o => c - o) cuts outs.tail)
  have : lowM outs cuts = m := by unfold lowM lowL; rw [h1]; rfl
  rw [this]
  exact ⟨h1, h2, h3⟩
theorem highM_spec : (highL outs cuts).max? = some (highM outs cuts) ∧ 0 ≤ highM outs cuts ∧ ∀ y ∈ List.zipWith (fun c o => c - 1 - o) cuts outs, y ≤ highM outs cuts := by
  obtain ⟨m, h1, h2, h3⟩ := max_cons 0 (List.zipWith (fun c o => c - 1 - o) cuts outs)
  have : highM outs cuts = m := by unfold highM highL; rw [h1]; rfl
  rw [this]
  exact ⟨h1, h2, h3⟩
theorem zip_small {k : Int → Int → Int} (hl : cuts.length ≤ 100) (xs : List Int) : [D.int 0].length + (dI (List.zipWith k cuts xs)).length ≤ sizeLine := by
  have : 2000 ≤ sizeLine := by decide
  simp [dI]
  omega
end
end GD
end RP
end L2
set_option Elab.async false
set_option linter.all false
set_option maxRecDepth 100000
namespace L2
namespace RP
namespace GD
open PySem PySem.Spec PyProof.Rows
theorem cnt_cons (c : Int) (cs : List Int) (t : Int) : cnt (c :: cs) t = (if c ≤ t then 1 else 0) + cnt cs t := by
  unfold cnt
  by_cases h : c ≤ t
  · simp [h]; omega
  · simp [h]
theorem cnt_zero {cs : List Int} {t : Int} (h : ∀ c ∈ cs, t < c) : cnt cs t = 0 := by
  unfold cnt
  rw [List.filter_eq_nil_iff.mpr]
  · rfl
  · intro c hc
    have := h c hc
    simp; omega
theorem cnt_at : ∀ {cs : List Int} {t : Int}, cs.Pairwise (· < ·) → (∀ j c, cs[j]? = some c → j < cnt cs t → c ≤ t) ∧ ∀ j c, cs[j]? = some c → cnt cs t ≤ j → t < c
  | [], t, _ => ⟨fun j c h => by simp at h, fun j c h => by simp at h⟩
  | c :: cs, t, hp => by
    obtain ⟨h1, h2⟩ := List.pairwise_cons.mp hp
    by_cases hc : c ≤ t
    · obtain ⟨k1, k2⟩ := cnt_at (cs := cs) (t := t) h2
      rw [cnt_cons, if_pos hc]
      refine ⟨fun j d hd hj => ?_, fun j d hd hj => ?_⟩
      · cases j with
        | zero => simp at hd; omega
        | succ j => exact k1 j d (by simpa using hd) (by omega)
      · cases j with
        | zero => omega
        | succ j => exact k2 j d (by simpa using hd) (by omega)
    · have z : cnt (c :: cs) t = 0 := cnt_zero fun x hx => by
        rcases List.mem_cons.mp hx with rfl | hx
        · omega
        · have := h1 x hx; omega
      rw [z]
      refine ⟨fun j d _ hj => by omega, fun j d hd _ => ?_⟩
      have : d ∈ c :: cs := List.mem_of_getElem? hd
      rcases List.mem_cons.mp this with rfl | hx
      · omega
      · have := h1 d hx; omega
section
variable {top : Int} {outs cuts : List Int}
/-- what is drawn: parts of a rule -/
structure Good (top : Int) (outs cuts : List Int) : Prop where
  t : 1 ≤ top ∧ top ≤ 12
  len : outs.length = cuts.length + 1
  two : 2 ≤ outs.length ∧ outs.length ≤ 5
  so : outs.Pairwise (· < ·)
  sc : cuts.Pairwise (· < ·)
  bo : ∀ x ∈ outs, -24 ≤ x ∧ x ≤ 24
  bc : ∀ x ∈ cuts, -24 ≤ x ∧ x ≤ 24
theorem Good.lt (w : Good top outs cuts) : cuts.length < outs.length := by have := w.len; omega
theorem Good.ne (w : Good top outs cuts) : outs ≠ [] := fun e => by have := w.two.1; rw [e] at this; simp at this
theorem paper_ok (w : Good top outs cuts) (hk : keepsM top outs = true) (t : Int) (h1 : lowM outs cuts ≤ t) (h2 : t ≤ highM outs cuts + top) : okAt outs cuts (lowM outs cuts) (highM outs cuts) t = true := by
  obtain ⟨_, l0, ll⟩ := lowM_spec (outs := outs) (cuts := cuts)
  obtain ⟨_, g0, gg⟩ := highM_spec (outs := outs) (cuts := cuts)
  unfold keepsM at hk
  simp only [Bool.and_eq_true, decide_eq_true_eq] at hk
  have hl := w.len
  obtain ⟨a1, a2⟩ := cnt_at (t := t) w.sc
  have hc := cnt_le cuts t
  have hi : cnt cuts t < outs.length := by omega
  have ho : outM outs cuts t = outs[cnt cuts t] := by unfold outM; rw [List.getD_eq_getElem?_getD, List.getElem?_eq_getElem hi]; rfl
  unfold okAt
  simp only [Bool.and_eq_true, decide_eq_true_eq]
  rw [ho]
  generalize hn : cnt cuts t = n at *
  constructor
  · cases n with
    | zero =>
      have e : outs[0] = outs.headD 0 := by
        cases outs with
        | nil => exact absurd rfl w.ne
        | cons x xs => rfl
      rw [e]
      omega
    | succ n =>
      have hcn : n < cuts.length := by omega
      have b1 := a1 n cuts[n] (List.getElem?_eq_getElem hcn) (by omega)
      have b2 := ll (cuts[n] - outs[n + 1]) (by
        refine List.mem_of_getElem? (i := n) ?_
        rw [List.getElem?_zipWith, List.getElem?_eq_getElem hcn, List.getElem?_tail, List.getElem?_eq_getElem hi])
      omega
  · by_cases hlast : n < cuts.length
    · have b1 := a2 n cuts[n] (List.getElem?_eq_getElem hlast) (by omega)
      have b2 := gg (cuts[n] - 1 - outs[n]) (by
        refine List.mem_of_getElem? (i := n) ?_
        rw [List.getElem?_zipWith, List.getElem?_eq_getElem hlast, List.getElem?_eq_getElem hi])
      omega
    · have e : n = outs.length - 1 := by omega
      have e2 : outs[n] = outs.getLastD 0 := by
        rw [List.getLastD_eq_getLast?, List.getLast?_eq_getElem?, ← e, List.getElem?_eq_getElem hi]
        rfl
      rw [e2]
      omega
/-- the paper's bounds are closed -/
theorem paper_shut (w : Good top outs cuts) (hk : keepsM top outs = true) : shutM top outs cuts (lowM outs cuts) (highM outs cuts) = true := by
  rw [← closed_shut (by have := w.t; omega)]
  unfold closedM
  obtain ⟨_, l0, _⟩ := lowM_spec (outs := outs) (cuts := cuts)
  obtain ⟨_, g0, _⟩ := highM_spec (outs := outs) (cuts := cuts)
  rw [if_pos (by simp [l0, g0])]
  rw [List.all_eq_true]
  intro t ht
  rw [mem_rng] at ht
  exact paper_ok w hk t ht.1 (by omega)
end
end GD
end RP
end L2
set_option Elab.async false
set_option linter.all false
set_option maxRecDepth 100000
namespace L2
namespace RP
namespace GD
open PySem PySem.Spec PyProof.Rows
/-- what the draws keep -/
structure GI (g : G) : Prop where
  me : g.me = none
  a : 0 ≤ g.a
theorem takenV_rng {m : Int} (h0 : 0 < m) {g : G} (h : GI g) : 0 ≤ (takenV m g).1 ∧ (takenV m g).1 < m ∧ GI (takenV m g).2 := by
  have md : ∀ x : Int, 0 ≤ x % m ∧ x % m < m := fun x => ⟨Int.emod_nonneg _ (by omega), Int.emod_lt_of_pos _ h0⟩
  have ha := h.a
  unfold takenV
  split
  · exact ⟨(md _).1, (md _).2, ⟨h.me, h.a⟩⟩
  · split
    · exact ⟨(md _).1, (md _).2, ⟨h.me, by show 0 ≤ g.a + 1; omega⟩⟩
    · split
      · exact ⟨(md _).1, (md _).2, ⟨h.me, by show 0 ≤ g.a + 1; omega⟩⟩
      · exact ⟨Int.le_refl 0, h0, h⟩
theorem taken_ok {m : Int} (h0 : 0 < m) (h1 : m < 1073741824) {g : G} (h : GI g) : ∃ x g', f__law_taken [.row, .int m] g = .ok (.int x, g') ∧ 0 ≤ x ∧ x < m ∧ GI g' :=
  have r := takenV_rng h0 h
  ⟨_, _, taken_eq m h0 h1 g h.me h.a, r.1, r.2.1, r.2.2⟩
theorem pick_ok {xs : List D} (h0 : 0 < xs.length) (h1 : xs.length < 1000) {g : G} (h : GI g) : ∃ d g', f__law_pick [.row, .lst xs] g = .ok (d, g') ∧ d ∈ xs ∧ GI g' := by
  obtain ⟨x, g', e, a, b, c⟩ := taken_ok (m := (xs.length : Int)) (by omega) (by omega) h
  obtain ⟨n, rfl⟩ := Int.eq_ofNat_of_zero_le a
  have hn : n < xs.length := by omega
  refine ⟨xs[n], g', ?_, List.getElem_mem hn, c⟩
  refine run_ret (ret_ok (v2_ok (x := .lst xs) rfl ((call_ok (aC_ok rfl (aC_ok (v1_ok (k := D.len) (x := .lst xs) (d := .int xs.length) rfl rfl) a0_ok))).trans e) ?_))
  show atI xs (n : Int) = _
  rw [atI_nat, List.getElem?_eq_getElem hn]
end GD
end RP
end L2
set_option Elab.async false
set_option linter.all false
set_option maxRecDepth 100000
namespace L2
namespace RP
namespace GD
open PySem PySem.Spec PyProof.Rows
theorem dats_dI (n : Nat) : ∀ xs : List Int, D.dats (dI xs) n = true
  | [] => by simp [dI, D.dats]
  | x :: xs => by
    have ih := dats_dI n xs
    simp only [dI, List.map_cons, D.dats] at ih ⊢
    rw [ih]
    cases n <;> rfl
theorem eqvs_dI : ∀ xs ys : List Int, D.eqvs (dI xs) (dI ys) = decide (xs = ys)
  | [], [] => rfl
  | [], _ :: _ => rfl
  | _ :: _, [] => rfl
  | x :: xs, y :: ys => by
    have ih := eqvs_dI xs ys
    simp only [dI, List.map_cons, D.eqvs, D.eqv] at ih ⊢
    rw [ih, Bool.eq_iff_iff]
    simp
theorem eq_lst (xs ys : List Int) : D.eq (.lst (dI xs)) (.lst (dI ys)) = some (decide (xs = ys)) := by
  unfold D.eq
  rw [show D.eqS (.lst (dI xs)) (.lst (dI ys)) = none from rfl]
  simp only [D.dat, dats_dI, Bool.and_self, if_true, D.eqv, eqvs_dI]
theorem atI_last {xs : List Int} (hne : xs ≠ []) : atI (dI xs) (-1) = some (.int (xs.getLastD 0)) := ixLast hne
theorem big : 2000 ≤ sizeLine := by decide
theorem dI_app (xs ys : List Int) : dI (xs ++ ys) = dI xs ++ dI ys := List.map_append
theorem dI_len (xs : List Int) : (dI xs).length = xs.length := List.length_map _
theorem sorted_le {xs : List Int} (h : xs.Pairwise (· ≤ ·)) {j : Nat} {x : Int} (hx : xs[j]? = some x) : ∀ y ∈ xs.take j, y ≤ x := by
  intro y hy
  obtain ⟨i, hi, rfl⟩ := List.mem_iff_getElem.mp hy
  obtain ⟨hj, rfl⟩ := List.getElem?_eq_some_iff.mp hx
  rw [List.getElem_take]
  have hi' : i < j := by simp at hi; omega
  exact (List.pairwise_iff_getElem.mp h) i j (by omega) hj hi'
theorem unlike_okX (d : D) (xs : List Int) (hd0 : D.listD d = some (.lst (dI xs))) (hl : xs.length < 2000) (g : G) : ∃ ys, f__law_unlike [d] g = .ok (.lst (dI ys), g) ∧ ys.Pairwise (· < ·) ∧ (∀ y, y ∈ ys ↔ y ∈ xs) ∧ ys.length ≤ xs.length := by
  have hp := sortI_perm xs
  have hs := sortI_sorted xs
  generalize hz : sortI xs = zs at *
  have hzl := hp.length_eq
  have loop := forL_inv (t := tgN 2) (body := sIf (vOr (v2 (pureK2 D.eqD) (bVar 1) (vLst (aNil))) (v2 (pureK2 D.neD) (v2 (pureK2 D.ix) (bVar 1) (v1 (pureK1 D.neg) (vC (.int 1)))) (bVar 2))) (sApp 1 (vVar 2)) (sNil))
    (fun k ρ g' => g' = g ∧ ∃ acc a, ρ = [Slot.frz d, Slot.own (.lst (dI acc)), a] ∧ acc.Pairwise (· < ·) ∧ (∀ y, y ∈ acc ↔ y ∈ zs.take k) ∧ acc.length ≤ k) (ds := dI zs) (k := 0)
    (ρ := [Slot.frz d, Slot.own (.lst []), Slot.none]) (g := g) ⟨rfl, [], Slot.none, rfl, List.Pairwise.nil, by simp, Nat.le_refl _⟩ (fun j e ρ g' hd hI => by
      obtain ⟨rfl, acc, a, rfl, h1, h2, h3⟩ := hI
      rw [Nat.zero_add] at h2 h3 ⊢
      have hd' : zs[j]?.map D.int = some e := by rw [← List.getElem?_map]; exact hd
      obtain ⟨x, hx, rfl⟩ := Option.map_eq_some_iff.mp hd'
      have hj : j < zs.length := (List.getElem?_eq_some_iff.mp hx).1
      have ht := take_succ' zs j x hx
      have hle := sorted_le hs hx
      have happ : (∀ y ∈ acc, y < x) → sApp 1 (vVar 2) [Slot.frz d, Slot.own (.lst (dI acc)), Slot.frz (.int x)] g' = .ok (.nx, [Slot.frz d, Slot.own (.lst (dI (acc ++ [x]))), Slot.frz (.int x)], g') ∧ (acc ++ [x]).Pairwise (· < ·) ∧ (∀ y, y ∈ acc ++ [x] ↔ y ∈ zs.take (j + 1)) ∧ (acc ++ [x]).length ≤ j + 1 := fun hlt => by
        refine ⟨?_, ?_, ?_, by simp; omega⟩
        · rw [app_ok (xs := dI acc) (d := .int x) (g1 := g') rfl rfl (by rw [dI_len]; have := big; omega), dI_app]
          rfl
        · rw [List.pairwise_append]
          exact ⟨h1, by simp, fun y hy z hz => by simp at hz; subst hz; exact hlt y hy⟩
        · intro y; rw [ht]; simp [h2]
      by_cases he : acc = []
      · subst he
        obtain ⟨k1, k2, k3, k4⟩ := happ (by simp)
        refine ⟨_, _, g', .nx, rfl, (if_ok (x := .bl true) (b := true) ((or_ok (x := .bl true) (b := true) rfl rfl).trans rfl) rfl).trans k1, .inl rfl, rfl, _, _, rfl, k2, k3, k4⟩
      · have c1 : v2 (pureK2 D.eqD) (bVar 1) (vLst aNil) [Slot.frz d, Slot.own (.lst (dI acc)), Slot.frz (.int x)] g' = .ok (.bl false, g') := v2_ok (k := D.eqD) (x := .lst (dI acc)) (y := .lst (dI [])) rfl rfl (by unfold D.eqD; rw [eq_lst]; simp [he, D.bOf])
        have c2 : v2 (pureK2 D.neD) (v2 (pureK2 D.ix) (bVar 1) (v1 (pureK1 D.neg) (vC (.int 1)))) (bVar 2) [Slot.frz d, Slot.own (.lst (dI acc)), Slot.frz (.int x)] g' = .ok (.bl (!(acc.getLastD 0 == x)), g') := v2_ok (k := D.neD) (x := .int (acc.getLastD 0)) (y := .int x) (v2_ok (x := .lst (dI acc)) (y := .int (-1)) rfl rfl (atI_last he)) rfl rfl
        have hlast : ∃ pre l, acc = pre ++ [l] := by
          rcases List.eq_nil_or_concat acc with h | ⟨pre, l, h⟩
          · exact absurd h he
          · exact ⟨pre, l, by rw [h]; simp⟩
        obtain ⟨pre, l, hacc⟩ := hlast
        have hg : acc.getLastD 0 = l := by rw [hacc]; simp
        rw [hg] at c2
        have hlm : l ∈ zs.take j := (h2 l).mp (by rw [hacc]; simp)
        by_cases hlx : l = x
        · refine ⟨_, _, g', .nx, rfl, (if_ok (x := .bl false) (b := false) ((or_ok (x := .bl false) (b := false) c1 rfl).trans (by rw [if_neg (by decide), c2]; simp [hlx])) rfl).trans rfl, .inl rfl, rfl, acc, _, rfl, h1, fun y => ?_, by omega⟩
          rw [ht, List.mem_append, h2, List.mem_singleton]
          constructor
          · exact .inl
          · rintro (h | rfl)
            · exact h
            · rw [← hlx]; exact hlm
        · obtain ⟨k1, k2, k3, k4⟩ := happ (fun y hy => by
            have hlx2 : l < x := by have := hle l hlm; omega
            rw [hacc] at hy h1
            rcases List.mem_append.mp hy with hy | hy
            · have := (List.pairwise_append.mp h1).2.2 y hy l (by simp); omega
            · simp at hy; omega)
          refine ⟨_, _, g', .nx, rfl, (if_ok (x := .bl true) (b := true) ((or_ok (x := .bl false) (b := false) c1 rfl).trans (by rw [if_neg (by decide), c2]; simp [hlx])) rfl).trans k1, .inl rfl, rfl, _, _, rfl, k2, k3, k4⟩)
  obtain ⟨ρ', g', l1, rfl, acc, a, rfl, h1, h2, h3⟩ := loop
  rw [Nat.zero_add, dI_len] at h3 h2
  rw [List.take_length] at h2
  refine ⟨acc, ?_, h1, fun y => (h2 y).trans hp.mem_iff, by omega⟩
  have so : v1 (pureK1 D.sortedX) (v1 (pureK1 D.listD) (bVar 0)) [Slot.frz d, Slot.own (.lst []), Slot.none] g' = .ok (.lst (dI zs), g') := v1_ok (k := D.sortedX) (x := .lst (dI xs)) (v1_ok (k := D.listD) (x := d) rfl hd0) (by
    show (intsOf (dI xs)).map _ = _
    rw [intsOf_dI, ← hz]
    rfl)
  exact run_ret ((seq_nx (ρ1 := [Slot.frz d, Slot.own (.lst []), Slot.none]) (g1 := g') rfl).trans ((seq_nx ((for_ok (seqIt_l so)).trans l1)).trans ((fz_own rfl).trans (ret_ok rfl))))
theorem unlike_ok (xs : List Int) (hl : xs.length < 2000) (g : G) : ∃ ys, f__law_unlike [.lst (dI xs)] g = .ok (.lst (dI ys), g) ∧ ys.Pairwise (· < ·) ∧ (∀ y, y ∈ ys ↔ y ∈ xs) ∧ ys.length ≤ xs.length := unlike_okX (.lst (dI xs)) xs rfl hl g
end GD
end RP
end L2
set_option Elab.async false
set_option linter.all false
set_option maxRecDepth 100000
namespace L2
namespace RP
namespace GD
open PySem PySem.Spec PyProof.Rows
/-- ints of things that are ints -/
theorem ints_of {P : Int → Prop} : ∀ {es : List D}, (∀ e ∈ es, ∃ v, e = .int v ∧ P v) → ∃ vs : List Int, es = dI vs ∧ ∀ v ∈ vs, P v
  | [], _ => ⟨[], rfl, by simp⟩
  | e :: es, h => by
    obtain ⟨v, rfl, hv⟩ := h e List.mem_cons_self
    obtain ⟨vs, rfl, hs⟩ := ints_of (es := es) fun x hx => h x (List.mem_cons_of_mem _ hx)
    exact ⟨v :: vs, rfl, fun x hx => (List.mem_cons.mp hx).elim (fun e => e ▸ hv) (hs x)⟩
theorem head_split {x0 : Int} {Z : List Int} (h1 : Z.Pairwise (· < ·)) (h0 : x0 ≤ 0) (hm : x0 ∈ Z) (ha : ∀ z ∈ Z, z = x0 ∨ 1 ≤ z) : ∃ mid, Z = x0 :: mid ∧ ∀ z ∈ mid, 1 ≤ z := by
  cases Z with
  | nil => simp at hm
  | cons z zs =>
    obtain ⟨k1, k2⟩ := List.pairwise_cons.mp h1
    have hz : z = x0 := by
      rcases ha z List.mem_cons_self with h | h
      · exact h
      · rcases List.mem_cons.mp hm with h' | h'
        · omega
        · have := k1 x0 h'; omega
    subst hz
    refine ⟨zs, rfl, fun y hy => ?_⟩
    rcases ha y (List.mem_cons_of_mem _ hy) with h | h
    · have := k1 y hy; omega
    · exact h
/-- what _law_rule draws -/
structure RuleG (top : Int) (outs cuts : List Int) : Prop where
  ex : ∃ x0 mid l, outs = x0 :: (mid ++ [l]) ∧ -1 ≤ x0 ∧ x0 ≤ 0 ∧ (∀ z ∈ mid, 1 ≤ z ∧ z < top) ∧ top ≤ l ∧ l ≤ top + 2 ∧ mid.length ≤ 2
  so : outs.Pairwise (· < ·)
  sc : cuts.Pairwise (· < ·)
  bc : ∀ x ∈ cuts, -2 ≤ x ∧ x ≤ top + 6
  len : cuts.length + 1 = outs.length
theorem max_app0 (xs : List Int) : ∃ m, (xs ++ [0]).max? = some m ∧ 0 ≤ m ∧ (∀ y ∈ xs, y ≤ m) ∧ (m = 0 ∨ m ∈ xs) := by
  cases h : (xs ++ [0]).max? with
  | none => simp at h
  | some m =>
    have := List.max?_eq_some_iff.mp h
    refine ⟨m, rfl, this.2 0 (by simp), fun y hy => this.2 y (by simp [hy]), ?_⟩
    rcases List.mem_append.mp this.1 with h | h
    · exact .inr h
    · simp at h; exact .inl h
end GD
end RP
end L2
set_option Elab.async false
set_option linter.all false
set_option maxRecDepth 100000
namespace L2
namespace RP
namespace GD
open PySem PySem.Spec PyProof.Rows
/-- plain values, at most n deep -/
def plainD : Nat → D → Prop
  | _, .non => True
  | _, .bl _ => True
  | _, .int _ => True
  | n + 1, .tup xs => xs.length ≤ 16777216 ∧ ∀ x ∈ xs, plainD n x
  | n + 1, .lst xs => xs.length ≤ 16777216 ∧ ∀ x ∈ xs, plainD n x
  | _, _ => False
theorem plain_ints {n : Nat} {xs : List Int} : ∀ x ∈ dI xs, plainD n x := fun x hx => by
  obtain ⟨v, _, rfl⟩ := List.mem_map.mp hx
  cases n <;> trivial
theorem alike_seq {n : Nat} {d : D} {xs : List D} {g : G} (hs : isSeqD d xs) (hl : xs.length ≤ 16777216) (ih : ∀ x ∈ xs, f__law_alike n [x, x] g = .ok (.bl true, g)) : f__law_alike (n + 1) [d, d] g = .ok (.bl true, g) := by
  let ρ0 : En := [Slot.frz d, Slot.frz d, Slot.none, Slot.none]
  have len : ∀ i : Nat, i = 0 ∨ i = 1 → ∀ g, v1 (pureK1 D.len) (bVar i) ρ0 g = .ok (.int xs.length, g) := fun i hi g => by
    rcases hs with rfl | rfl <;> rcases hi with rfl | rfl <;> rfl
  have ix : ∀ (i k : Nat) (x : D) (ρ : En), ρ[i]? = some (.frz d) → ρ[2]? = some (.frz (.int (k : Nat))) → xs[k]? = some x → v2 (pureK2 D.ix) (bVar i) (bVar 2) ρ g = .ok (x, g) := fun i k x ρ h1 h2 h3 => by
    have a : bVar i ρ g = .ok (d, g) := by unfold bVar; rw [h1]
    have b : bVar 2 ρ g = .ok (.int (k : Nat), g) := by unfold bVar; rw [h2]
    refine v2_ok (k := D.ix) a b ?_
    rcases hs with rfl | rfl <;> (show atI xs (k : Int) = _; rw [atI_nat]; exact h3)
  have cp : compL (tgN 2) (vNot (vCall (f__law_alike n) (aCons (v2 (pureK2 D.ix) (bVar 0) (bVar 2)) (aCons (v2 (pureK2 D.ix) (bVar 1) (bVar 2)) (aNil))))) (vVar 2) (rangeD 0 xs.length) ρ0 g = .ok ([], g) := by
    have := compL_pure (i := 2) (fc := vNot (vCall (f__law_alike n) (aCons (v2 (pureK2 D.ix) (bVar 0) (bVar 2)) (aCons (v2 (pureK2 D.ix) (bVar 1) (bVar 2)) (aNil))))) (fe := vVar 2) (p := fun _ => false) (q := id) (ds := rangeD 0 xs.length) (ρ := ρ0) (g := g) (by simp [ρ0]) (fun e he => by
      obtain ⟨j, hj⟩ := List.mem_iff_getElem?.mp he
      obtain ⟨rfl, hl⟩ := rangeD_get hj
      exact not_ok (b := true) ((call_ok (aC_ok (ix 0 j xs[j] _ rfl rfl (List.getElem?_eq_getElem hl)) (aC_ok (ix 1 j xs[j] _ rfl rfl (List.getElem?_eq_getElem hl)) a0_ok))).trans (ih _ (List.getElem_mem hl))) rfl) (fun e _ h => by cases h)
    rw [this]
    simp
  have it : itR1 (v1 (pureK1 D.len) (bVar 1)) ρ0 g = .ok (rangeD 0 xs.length, g) := by
    rw [r1_ok (j := (xs.length : Int)) (len 1 (.inr rfl) g) ⟨by omega, by omega⟩]
    simp
  have isb : v1 (pureK1 (D.isBT2 own_cls .tuple .list)) (bVar 1) ρ0 g = .ok (.bl true, g) := by rcases hs with rfl | rfl <;> rfl
  have c2 : vOr (vNot (v1 (pureK1 (D.isBT2 own_cls .tuple .list)) (bVar 0))) (v2 (pureK2 D.neD) (v1 (pureK1 (D.isBTd own_cls .list)) (bVar 0)) (v1 (pureK1 (D.isBTd own_cls .list)) (bVar 1))) ρ0 g = .ok (.bl false, g) := by rcases hs with rfl | rfl <;> rfl
  have c3 : v2 (pureK2 D.neD) (v1 (pureK1 D.len) (bVar 0)) (v1 (pureK1 D.len) (bVar 1)) ρ0 g = .ok (.bl false, g) := v2_ok (k := D.neD) (len 0 (.inl rfl) g) (len 1 (.inr rfl) g) (by simp [D.neD, D.eq, D.eqS, D.bOf])
  show runF 4 (s__law_alike (f__law_alike n)) [d, d] g = _
  exact run_ret (seq_ret ((if_ok (b := true) isb rfl).trans ((seq_nx ((if_ok (b := false) c2 rfl).trans rfl)).trans ((seq_nx ((if_ok (b := false) c3 rfl).trans rfl)).trans (ret_ok (v2_ok (k := D.eqD) (x := .lst []) (y := .lst []) (comp_ok it rfl cp) rfl rfl))))))
theorem alike_self : ∀ {n : Nat} {d : D} {g : G}, plainD n d → f__law_alike (n + 1) [d, d] g = .ok (.bl true, g)
  | n, .non, g, _ => rfl
  | n, .bl b, g, _ => by cases b <;> rfl
  | n, .int i, g, _ => by
    have e : v2 (pureK2 D.eqD) (bVar 0) (bVar 1) [Slot.frz (.int i), Slot.frz (.int i), Slot.none, Slot.none] g = .ok (.bl true, g) := v2_ok (k := D.eqD) (x := .int i) (y := .int i) rfl rfl (by simp [D.eqD, D.eq, D.eqS, D.bOf])
    show runF 4 (s__law_alike (f__law_alike n)) [.int i, .int i] g = _
    exact run_ret ((seq_nx ((if_ok (x := .bl false) (b := false) rfl rfl).trans rfl)).trans ((seq_nx ((if_ok (x := .bl false) (b := false) rfl rfl).trans rfl)).trans ((seq_nx ((if_ok (x := .bl false) (b := false) rfl rfl).trans rfl)).trans (ret_ok ((and_ok (x := .bl true) (b := true) rfl rfl).trans ((and_ok (x := .bl true) (b := true) rfl rfl).trans e))))))
  | 0, .tup xs, _, h => h.elim
  | 0, .lst xs, _, h => h.elim
  | n + 1, .tup xs, g, h => alike_seq (.inr rfl) h.1 fun x hx => alike_self (h.2 x hx)
  | n + 1, .lst xs, g, h => alike_seq (.inl rfl) h.1 fun x hx => alike_self (h.2 x hx)
  | 0, .str _, _, h => h.elim
  | 0, .dk _, _, h => h.elim
  | 0, .dt _, _, h => h.elim
  | 0, .ins _ _, _, h => h.elim
  | 0, .fn _, _, h => h.elim
  | 0, .row, _, h => h.elim
  | n + 1, .str _, _, h => h.elim
  | n + 1, .dk _, _, h => h.elim
  | n + 1, .dt _, _, h => h.elim
  | n + 1, .ins _ _, _, h => h.elim
  | n + 1, .fn _, _, h => h.elim
  | n + 1, .row, _, h => h.elim
theorem sl_ok {fa : SE} {fl fh : SPt} {ρ : En} {g g1 g2 g3 : G} {x d : D} {l h : Option Int} (ha : fa ρ g = .ok (x, g1)) (hl : fl ρ g1 = .ok (l, g2)) (hh : fh ρ g2 = .ok (h, g3)) (hc : x.cut l h = some d) : vSl fa fl fh ρ g = .ok (d, g3) := by
  unfold vSl
  rw [ha]
  simp only [Res.bind_ok]
  rw [hl]
  simp only [Res.bind_ok]
  rw [hh]
  simp only [Res.bind_ok]
  rw [hc]
theorem sS_ok {f : SE} {ρ : En} {g g1 : G} {i : Int} (h : f ρ g = .ok (.int i, g1)) : sS f ρ g = .ok (some i, g1) := by
  unfold sS
  rw [h]
  rfl
theorem getLastD_app (xs : List Int) (x : Int) : (xs ++ [x]).getLastD 0 = x := by simp
end GD
end RP
end L2
set_option Elab.async false
set_option linter.all false
set_option maxRecDepth 100000
namespace L2
namespace RP
namespace GD
open PySem PySem.Spec PyProof.Rows
abbrev fwCond : SE := vOr (vNot (vCall f_is_within (aCons (vVar 4) (aCons (vVar 1) (aCons (vVar 2) (aNil)))))) (vAnd (v2 (pureK2 D.gtD) (bVar 3) (vC (.int 0))) (v2 (pureK2 D.leD) (bVar 4) (v2 (pureK2 D.ix) (bVar 0) (v2 (pureK2 D.sub) (bVar 3) (vC (.int 1))))))
theorem wi_t {v lo hi : Int} (h2 : lo ≤ v) (h3 : v ≤ hi) (g : G) : (Res.ok (D.bl (decide (lo ≤ v) && decide (v ≤ hi)), g) : Res (D × G)) = .ok (.bl true, g) := by simp [h2, h3]
section
variable {row : D} {xs : List D} {lo hi : Int}
/-- a thing in its place is right -/
def rightAt (xs : List D) (lo hi : Int) (i : Nat) : Prop := ∃ v, xs[i]? = some (.int v) ∧ lo ≤ v ∧ v ≤ hi ∧ (0 < i → ∃ u, xs[i - 1]? = some (.int u) ∧ u < v)
/-- .. is wrong -/
def wrongAt (xs : List D) (lo hi : Int) (i : Nat) : Prop := (∃ d, xs[i]? = some d ∧ ∀ g, f_is_within [d, .int lo, .int hi] g = .ok (.bl false, g)) ∨ ∃ v u, xs[i]? = some (.int v) ∧ 0 < i ∧ xs[i - 1]? = some (.int u) ∧ v ≤ u
theorem ixRow (hs : isSeqD row xs) {i : Nat} {u d e : D} {g : G} (h0 : 0 < i) (hu : xs[i - 1]? = some u) {a b : Slot} : v2 (pureK2 D.ix) (bVar 0) (v2 (pureK2 D.sub) (bVar 3) (vC (.int 1))) [Slot.frz row, a, b, .frz (.int (i : Nat)), .frz d] g = .ok (u, g) := by
  refine v2_ok (k := D.ix) (x := row) (y := .int ((i - 1 : Nat) : Int)) rfl (v2_ok (k := D.sub) (x := .int (i : Nat)) (y := .int 1) rfl rfl ?_) ?_
  · show some (D.int ((i : Int) - 1)) = _
    rw [show ((i : Int) - 1) = ((i - 1 : Nat) : Int) by omega]
  · rcases hs with rfl | rfl <;> (show atI xs _ = _; rw [atI_nat, hu])
theorem fw_right (hs : isSeqD row xs) {i : Nat} (h : rightAt xs lo hi i) (g : G) : ∃ v, xs[i]? = some (.int v) ∧ fwCond [Slot.frz row, .frz (.int lo), .frz (.int hi), .frz (.int (i : Nat)), .frz (.int v)] g = .ok (.bl false, g) := by
  obtain ⟨v, h1, h2, h3, h4⟩ := h
  refine ⟨v, h1, (or_ok (x := .bl false) (b := false) (not_ok (x := .bl true) (b := true) ((call_ok (ds := [.int v, .int lo, .int hi]) (g1 := g) rfl).trans ((within_int v lo hi g).trans (wi_t h2 h3 g))) rfl) rfl).trans ?_⟩
  rw [if_neg (by decide)]
  have c : v2 (pureK2 D.gtD) (bVar 3) (vC (.int 0)) [Slot.frz row, .frz (.int lo), .frz (.int hi), .frz (.int (i : Nat)), .frz (.int v)] g = .ok (.bl (decide ((i : Int) > 0)), g) := v2_ok (k := D.gtD) (x := .int (i : Nat)) (y := .int 0) rfl rfl rfl
  by_cases h0 : 0 < i
  · obtain ⟨u, hu, huv⟩ := h4 h0
    refine (and_ok (b := true) c (by simp [D.truth]; omega)).trans ?_
    rw [if_pos rfl]
    exact v2_ok (k := D.leD) (x := .int v) (y := .int u) rfl (ixRow (e := .non) hs h0 hu) (by show some (D.bl (decide (v ≤ u))) = _; simp; omega)
  · refine (and_ok (b := false) c (by simp [D.truth]; omega)).trans ?_
    rw [if_neg (by decide)]
    rw [decide_eq_false (p := (i : Int) > 0) (by omega)]
theorem fw_wrong (hs : isSeqD row xs) {i : Nat} (h : wrongAt xs lo hi i) (g : G) : ∃ d, xs[i]? = some d ∧ fwCond [Slot.frz row, .frz (.int lo), .frz (.int hi), .frz (.int (i : Nat)), .frz d] g = .ok (.bl true, g) := by
  rcases h with ⟨d, h1, h2⟩ | ⟨v, u, h1, h0, hu, h2⟩
  · exact ⟨d, h1, (or_ok (x := .bl true) (b := true) (not_ok (x := .bl false) (b := false) ((call_ok (ds := [d, .int lo, .int hi]) (g1 := g) rfl).trans (h2 g)) rfl) rfl).trans rfl⟩
  · refine ⟨_, h1, ?_⟩
    have c0 : vNot (vCall f_is_within (aCons (vVar 4) (aCons (vVar 1) (aCons (vVar 2) (aNil))))) [Slot.frz row, .frz (.int lo), .frz (.int hi), .frz (.int (i : Nat)), .frz (.int v)] g = .ok (.bl (!(decide (lo ≤ v) && decide (v ≤ hi))), g) := not_ok ((call_ok (ds := [.int v, .int lo, .int hi]) (g1 := g) rfl).trans (within_int v lo hi g)) rfl
    refine (or_ok (b := !(decide (lo ≤ v) && decide (v ≤ hi))) c0 rfl).trans ?_
    cases hb : !(decide (lo ≤ v) && decide (v ≤ hi)) with
    | true => rfl
    | false =>
      rw [if_neg (by decide)]
      have c : v2 (pureK2 D.gtD) (bVar 3) (vC (.int 0)) [Slot.frz row, .frz (.int lo), .frz (.int hi), .frz (.int (i : Nat)), .frz (.int v)] g = .ok (.bl (decide ((i : Int) > 0)), g) := v2_ok (k := D.gtD) (x := .int (i : Nat)) (y := .int 0) rfl rfl rfl
      refine (and_ok (b := true) c (by simp [D.truth]; omega)).trans ?_
      rw [if_pos rfl]
      exact v2_ok (k := D.leD) (x := .int v) (y := .int u) rfl (ixRow (e := .non) hs h0 hu) (by show some (D.bl (decide (v ≤ u))) = _; simp; omega)
end
end GD
end RP
end L2
set_option Elab.async false
set_option linter.all false
set_option maxRecDepth 100000
namespace L2
namespace RP
namespace GD
open PySem PySem.Spec PyProof.Rows
abbrev RS1 : SS := sIf (vNot (vCall f_is_within (aCons (vVar 1) (aCons (vC (.int 1)) (aCons (vC (.int 12)) (aNil)))))) (sRaise "BadTop" (vVar 1)) (sNil)
abbrev RS2 : SS := sIf (vOr (vNot (vCall f_is_row (aCons (vVar 2) (aNil)))) (vNot (vChain (fun i j => decide (i ≤ j)) (fun i j => decide (i ≤ j)) (vC (.int 2)) (v1 (pureK1 D.len) (bVar 2)) (vC (.int 5))))) (sRaise "BadOuts" (v1 (pureK1 D.neg) (vC (.int 1)))) (sNil)
abbrev RS4 : SS := sIf (v2 (pureK2 D.isNotD) (bVar 4) (vC .non)) (sRaise "BadOuts" (vVar 4)) (sNil)
abbrev RS5 : SS := sIf (vOr (vNot (vCall f_is_row (aCons (vVar 3) (aNil)))) (v2 (pureK2 D.neD) (v1 (pureK1 D.len) (bVar 3)) (v2 (pureK2 D.sub) (v1 (pureK1 D.len) (bVar 2)) (vC (.int 1))))) (sRaise "BadCuts" (v1 (pureK1 D.neg) (vC (.int 1)))) (sNil)
abbrev RS7 : SS := sIf (v2 (pureK2 D.isNotD) (bVar 4) (vC .non)) (sRaise "BadCuts" (vVar 4)) (sNil)
abbrev RFr (t o c : D) (x : Slot) : En := [.frz .row, .frz t, .frz o, .frz c, x]
section
variable {t o c : D} {x : Slot} {g : G} {xs ys : List D} {s : SS} {top : Int}
theorem rs1_ok (h : 1 ≤ top ∧ top ≤ 12) : sSeq RS1 s (RFr (.int top) o c x) g = s (RFr (.int top) o c x) g :=
  seq_nx ((if_ok (x := .bl false) (b := false) (not_ok (x := .bl true) (b := true) ((call_ok (aC_ok rfl (aC_ok rfl (aC_ok rfl a0_ok)))).trans ((within_int top 1 12 g).trans (by simp [h]))) rfl) rfl).trans rfl)
theorem rs1_exc (h : f_is_within [t, .int 1, .int 12] g = .ok (.bl false, g)) : sSeq RS1 s (RFr t o c x) g = .exc "BadTop" t g :=
  seq_exc ((if_ok (x := .bl true) (b := true) (not_ok (x := .bl false) (b := false) ((call_ok (aC_ok rfl (aC_ok rfl (aC_ok rfl a0_ok)))).trans h) rfl) rfl).trans (raise_ok rfl))
theorem len_seq (hs : isSeqD o xs) : D.len o = some (.int xs.length) := by rcases hs with rfl | rfl <;> rfl
theorem rs2_ok (hs : isSeqD o xs) (h : 2 ≤ xs.length ∧ xs.length ≤ 5) : sSeq RS2 s (RFr t o c x) g = s (RFr t o c x) g := by
  refine seq_nx ((if_ok (x := .bl false) (b := false) ((or_ok (x := .bl false) (b := false) (not_ok (x := .bl true) (b := true) ((call_ok (aC_ok rfl a0_ok)).trans (is_row_ok hs g)) rfl) rfl).trans ?_) rfl).trans rfl)
  rw [if_neg (by decide)]
  refine not_ok (b := true) (chain_ok (i := 2) (j := (xs.length : Int)) (k := 5) rfl (v1_ok (k := D.len) rfl (len_seq hs)) rfl) ?_
  have h1 : (2 : Int) ≤ xs.length := by omega
  have h2 : (xs.length : Int) ≤ 5 := by omega
  simp [D.truth, h1, h2]
theorem rs4_ok : sSeq RS4 s (RFr t o c (.frz .non)) g = s (RFr t o c (.frz .non)) g := rfl
theorem rs4_exc (k : Int) : sSeq RS4 s (RFr t o c (.frz (.int k))) g = .exc "BadOuts" (.int k) g := rfl
theorem rs7_ok : sSeq RS7 s (RFr t o c (.frz .non)) g = s (RFr t o c (.frz .non)) g := rfl
theorem rs7_exc (k : Int) : sSeq RS7 s (RFr t o c (.frz (.int k))) g = .exc "BadCuts" (.int k) g := rfl
theorem rs5_cond (ho : isSeqD o xs) (hc : isSeqD c ys) : vOr (vNot (vCall f_is_row (aCons (vVar 3) (aNil)))) (v2 (pureK2 D.neD) (v1 (pureK1 D.len) (bVar 3)) (v2 (pureK2 D.sub) (v1 (pureK1 D.len) (bVar 2)) (vC (.int 1)))) (RFr t o c x) g = .ok (.bl (!((ys.length : Int) == xs.length - 1)), g) := by
  refine (or_ok (x := .bl false) (b := false) (not_ok (x := .bl true) (b := true) ((call_ok (aC_ok rfl a0_ok)).trans (is_row_ok hc g)) rfl) rfl).trans ?_
  rw [if_neg (by decide)]
  exact v2_ok (k := D.neD) (v1_ok (k := D.len) rfl (len_seq hc)) (v2_ok (k := D.sub) (v1_ok (k := D.len) rfl (len_seq ho)) rfl rfl) rfl
theorem rs5_ok (ho : isSeqD o xs) (hc : isSeqD c ys) (h : ys.length + 1 = xs.length) : sSeq RS5 s (RFr t o c x) g = s (RFr t o c x) g :=
  seq_nx ((if_ok (b := false) (rs5_cond ho hc) (by simp [D.truth]; omega)).trans rfl)
theorem rs5_exc (ho : isSeqD o xs) (hc : isSeqD c ys) (h : ys.length + 1 ≠ xs.length) : sSeq RS5 s (RFr t o c x) g = .exc "BadCuts" (.int (-1)) g :=
  seq_exc ((if_ok (b := true) (rs5_cond ho hc) (by simp [D.truth]; omega)).trans (raise_ok rfl))
end
theorem right_ints {xs : List Int} {lo hi : Int} (hp : xs.Pairwise (· < ·)) (hb : ∀ x ∈ xs, lo ≤ x ∧ x ≤ hi) {ds : List D} {n : Nat} (hd : ∀ i, i < n → ds[i]? = xs[i]?.map D.int) (hn : n ≤ xs.length) : ∀ i, i < n → rightAt ds lo hi i := fun i hi => by
  have hil : i < xs.length := by omega
  have h := hb xs[i] (List.getElem_mem hil)
  refine ⟨xs[i], by rw [hd i hi, List.getElem?_eq_getElem hil]; rfl, h.1, h.2, fun h0 => ⟨xs[i - 1], by rw [hd (i - 1) (by omega), List.getElem?_eq_getElem (by omega)]; rfl, (List.pairwise_iff_getElem.mp hp) (i - 1) i (by omega) hil (by omega)⟩⟩
theorem dI_get (xs : List Int) (i : Nat) : (dI xs)[i]? = xs[i]?.map D.int := List.getElem?_map
section
variable {top : Int} {outs cuts : List Int} {o c : D}
end
end GD
end RP
end L2
set_option Elab.async false
set_option linter.all false
set_option maxRecDepth 100000
namespace L2
namespace RP
namespace GD
open PySem PySem.Spec PyProof.Rows
theorem sorted_ext : ∀ {xs ys : List Int}, xs.Pairwise (· < ·) → ys.Pairwise (· < ·) → (∀ x, x ∈ xs ↔ x ∈ ys) → xs = ys
  | [], [], _, _, _ => rfl
  | [], y :: ys, _, _, h => by have := (h y).mpr List.mem_cons_self; simp at this
  | x :: xs, [], _, _, h => by have := (h x).mp List.mem_cons_self; simp at this
  | x :: xs, y :: ys, h1, h2, h => by
    obtain ⟨a1, a2⟩ := List.pairwise_cons.mp h1
    obtain ⟨b1, b2⟩ := List.pairwise_cons.mp h2
    have e : x = y := by
      rcases List.mem_cons.mp ((h x).mp List.mem_cons_self) with e | hx
      · exact e
      · rcases List.mem_cons.mp ((h y).mpr List.mem_cons_self) with e | hy
        · exact e.symm
        · have := a1 y hy; have := b1 x hx; omega
    subst e
    congr 1
    refine sorted_ext a2 b2 fun z => ⟨fun hz => ?_, fun hz => ?_⟩
    · rcases List.mem_cons.mp ((h z).mp (List.mem_cons_of_mem _ hz)) with e | h'
      · have := a1 z hz; omega
      · exact h'
    · rcases List.mem_cons.mp ((h z).mpr (List.mem_cons_of_mem _ hz)) with e | h'
      · have := b1 z hz; omega
      · exact h'
theorem sortI_lt {xs : List Int} (h : xs.Nodup) : (sortI xs).Pairwise (· < ·) := by
  have h1 := sortI_sorted xs
  have h2 : (sortI xs).Nodup := (sortI_perm xs).nodup_iff.mpr h
  exact (h1.and h2).imp fun h => by omega
theorem sorted_len : ∀ {xs : List Int} {lo hi : Int}, xs.Pairwise (· < ·) → (∀ x ∈ xs, lo ≤ x ∧ x ≤ hi) → xs.length ≤ (hi - lo + 1).toNat
  | [], _, _, _, _ => Nat.zero_le _
  | x :: xs, lo, hi, h, hb => by
    obtain ⟨a1, a2⟩ := List.pairwise_cons.mp h
    have h0 := hb x List.mem_cons_self
    have := sorted_len (lo := x + 1) (hi := hi) a2 fun y hy => ⟨by have := a1 y hy; omega, (hb y (List.mem_cons_of_mem _ hy)).2⟩
    simp
    omega
theorem nodup_len {xs : List Int} {lo hi : Int} (h : xs.Nodup) (hb : ∀ x ∈ xs, lo ≤ x ∧ x ≤ hi) : xs.length ≤ (hi - lo + 1).toNat := by
  rw [← (sortI_perm xs).length_eq]
  exact sorted_len (sortI_lt h) fun x hx => hb x ((sortI_perm xs).mem_iff.mp hx)
section
variable {top : Int} {outs cuts : List Int}
/-- the carries that some row leads to -/
inductive Reach (top : Int) (outs cuts : List Int) : Int → Prop
  | zero : Reach top outs cuts 0
  | step {c x : Int} (h : Reach top outs cuts c) (h0 : 0 ≤ x) (h1 : x ≤ top) : Reach top outs cuts (stepM outs cuts c x)
theorem reach_in (w : Good top outs cuts) (hk : keepsM top outs = true) {c : Int} (h : Reach top outs cuts c) : lowM outs cuts ≤ c ∧ c ≤ highM outs cuts := by
  induction h with
  | zero => exact ⟨(lowM_spec (outs := outs) (cuts := cuts)).2.1, (highM_spec (outs := outs) (cuts := cuts)).2.1⟩
  | @step c x h h0 h1 ih =>
    have := paper_ok w hk (c + x) (by omega) (by omega)
    unfold okAt at this
    simp only [Bool.and_eq_true, decide_eq_true_eq] at this
    exact this
theorem low_high (w : Good top outs cuts) : -48 ≤ lowM outs cuts ∧ lowM outs cuts ≤ 0 ∧ 0 ≤ highM outs cuts ∧ highM outs cuts ≤ 48 := by
  obtain ⟨l1, l2, _⟩ := lowM_spec (outs := outs) (cuts := cuts)
  obtain ⟨g1, g2, _⟩ := highM_spec (outs := outs) (cuts := cuts)
  have zw : ∀ (k : Int → Int → Int) (xs ys : List Int) (P : Int → Prop), (∀ x ∈ xs, ∀ y ∈ ys, P (k x y)) → ∀ z ∈ List.zipWith k xs ys, P z := by
    intro k xs
    induction xs with
    | nil => intro ys P _ z hz; simp at hz
    | cons x xs ih =>
      intro ys P h z hz
      cases ys with
      | nil => simp at hz
      | cons y ys =>
        simp only [List.zipWith_cons_cons, List.mem_cons] at hz
        rcases hz with rfl | hz
        · exact h x List.mem_cons_self y List.mem_cons_self
        · exact ih ys P (fun a ha b hb => h a (List.mem_cons_of_mem _ ha) b (List.mem_cons_of_mem _ hb)) z hz
  have lm : lowM outs cuts ∈ lowL outs cuts := (List.min?_eq_some_iff.mp l1).1
  have gm : highM outs cuts ∈ highL outs cuts := (List.max?_eq_some_iff.mp g1).1
  refine ⟨?_, l2, g2, ?_⟩
  · rcases List.mem_cons.mp lm with h | h
    · omega
    · exact zw (fun c o => c - o) cuts outs.tail (fun z => -48 ≤ z) (fun x hx y hy => by
        have := w.bc x hx
        have := w.bo y (List.mem_of_mem_tail hy)
        show -48 ≤ x - y
        omega) _ h
  · rcases List.mem_cons.mp gm with h | h
    · omega
    · exact zw (fun c o => c - 1 - o) cuts outs (fun z => z ≤ 48) (fun x hx y hy => by
        have := w.bc x hx
        have := w.bo y hy
        show x - 1 - y ≤ 48
        omega) _ h
/-- the search, between two things that are waiting -/
structure Srch (top : Int) (outs cuts : List Int) (ks ws : List Int) : Prop where
  nd : ks.Nodup
  z : 0 ∈ ks
  r : ∀ x ∈ ks, Reach top outs cuts x
  w : ∀ x ∈ ws, x ∈ ks
  c : ∀ x ∈ ks, x ∈ ws ∨ ∀ y, 0 ≤ y → y ≤ top → stepM outs cuts x y ∈ ks
/-- .. behind n greys at one of them -/
structure SrchIn (top : Int) (outs cuts : List Int) (here : Int) (n : Nat) (ks ws : List Int) : Prop where
  nd : ks.Nodup
  z : 0 ∈ ks
  r : ∀ x ∈ ks, Reach top outs cuts x
  w : ∀ x ∈ ws, x ∈ ks
  c : ∀ x ∈ ks, x ∈ ws ∨ x = here ∨ ∀ y, 0 ≤ y → y ≤ top → stepM outs cuts x y ∈ ks
  h : here ∈ ks
  d : ∀ y : Int, 0 ≤ y → y < n → stepM outs cuts here y ∈ ks
def measM (N : Nat) (ks ws : List Int) : Nat := 2 * (N - ks.length) + ws.length
theorem Srch.into {ks ws ws' : List Int} {here : Int} (s : Srch top outs cuts ks ws) (h : ∀ x, x ∈ ws ↔ x = here ∨ x ∈ ws') : SrchIn top outs cuts here 0 ks ws' :=
  ⟨s.nd, s.z, s.r, fun x hx => s.w x ((h x).mpr (.inr hx)), fun x hx => by
    rcases s.c x hx with h1 | h1
    · rcases (h x).mp h1 with h2 | h2
      · exact .inr (.inl h2)
      · exact .inl h2
    · exact .inr (.inr h1), s.w here ((h here).mpr (.inl rfl)), fun y h0 h1 => by omega⟩
theorem SrchIn.out {ks ws : List Int} {here : Int} {n : Nat} (s : SrchIn top outs cuts here n ks ws) (hn : top < n) : Srch top outs cuts ks ws :=
  ⟨s.nd, s.z, s.r, s.w, fun x hx => by
    rcases s.c x hx with h | rfl | h
    · exact .inl h
    · exact .inr fun y h0 h1 => s.d y h0 (by omega)
    · exact .inr h⟩
theorem SrchIn.old {ks ws : List Int} {here : Int} {n : Nat} (s : SrchIn top outs cuts here n ks ws) (hm : stepM outs cuts here n ∈ ks) : SrchIn top outs cuts here (n + 1) ks ws :=
  ⟨s.nd, s.z, s.r, s.w, s.c, s.h, fun y h0 h1 => by
    by_cases h : y < n
    · exact s.d y h0 h
    · rw [show y = n by omega]; exact hm⟩
theorem SrchIn.new {ks ws : List Int} {here : Int} {n : Nat} (s : SrchIn top outs cuts here n ks ws) (hn : (n : Int) ≤ top) (hm : stepM outs cuts here n ∉ ks) : SrchIn top outs cuts here (n + 1) (ks ++ [stepM outs cuts here n]) (ws ++ [stepM outs cuts here n]) :=
  ⟨by
    rw [List.nodup_append]
    exact ⟨s.nd, by simp, fun x hx y hy => by simp at hy; subst hy; exact fun e => hm (e ▸ hx)⟩, by simp [s.z], fun x hx => by
      rcases List.mem_append.mp hx with h | h
      · exact s.r x h
      · simp at h; subst h; exact (s.r _ s.h).step (by omega) hn, fun x hx => by
      rcases List.mem_append.mp hx with h | h
      · exact List.mem_append_left _ (s.w x h)
      · exact List.mem_append_right _ h, fun x hx => by
      rcases List.mem_append.mp hx with h | h
      · rcases s.c x h with h1 | h1 | h1
        · exact .inl (List.mem_append_left _ h1)
        · exact .inr (.inl h1)
        · exact .inr (.inr fun y a b => List.mem_append_left _ (h1 y a b))
      · exact .inl (List.mem_append_right _ h), List.mem_append_left _ s.h, fun y h0 h1 => by
      by_cases h : y < n
      · exact List.mem_append_left _ (s.d y h0 h)
      · rw [show y = n by omega]; simp⟩
theorem Srch.all {ks : List Int} (s : Srch top outs cuts ks []) (x : Int) : x ∈ ks ↔ Reach top outs cuts x := ⟨s.r x, fun h => by
  induction h with
  | zero => exact s.z
  | step h h0 h1 ih =>
    rcases s.c _ ih with h' | h'
    · simp at h'
    · exact h' _ h0 h1⟩
theorem Srch.start : Srch top outs cuts [0] [0] := ⟨by simp, by simp, fun x hx => by simp at hx; subst hx; exact .zero, fun x hx => hx, fun x hx => .inl hx⟩
/-- how many can be found -/
theorem reach_len (w : Good top outs cuts) (hk : keepsM top outs = true) {ks : List Int} (nd : ks.Nodup) (r : ∀ x ∈ ks, Reach top outs cuts x) : ks.length ≤ 97 := by
  have b := low_high w
  have := nodup_len (lo := lowM outs cuts) (hi := highM outs cuts) nd fun x hx => reach_in w hk (r x hx)
  omega
/-- all carries, in order -/
structure IsAll (top : Int) (outs cuts : List Int) (rs : List Int) : Prop where
  s : rs.Pairwise (· < ·)
  m : ∀ x, x ∈ rs ↔ Reach top outs cuts x
theorem IsAll.uniq {rs rs' : List Int} (a : IsAll top outs cuts rs) (b : IsAll top outs cuts rs') : rs = rs' := sorted_ext a.s b.s fun x => (a.m x).trans (b.m x).symm
theorem Srch.isAll {ks : List Int} (s : Srch top outs cuts ks []) : IsAll top outs cuts (sortI ks) := ⟨sortI_lt s.nd, fun x => (sortI_perm ks).mem_iff.trans (s.all x)⟩
end
end GD
end RP
end L2
set_option Elab.async false
set_option linter.all false
set_option maxRecDepth 100000
namespace L2
namespace RP
namespace GD
open PySem PySem.Spec PyProof.Rows
def kvT (ks : List Int) : List (Key × D) := ks.map fun x => (.inl x, .bl true)
theorem valD_kvT (ks : List Int) (t : Int) : (valD (kvT ks) (.inl t)).isSome = decide (t ∈ ks) := by
  induction ks with
  | nil => rfl
  | cons k ks ih =>
    show (if (Sum.inl k : Key) = .inl t then some (D.bl true) else valD (kvT ks) (.inl t)).isSome = _
    by_cases h : k = t
    · subst h; simp
    · have : ¬ (Sum.inl k : Key) = .inl t := fun e => h (Sum.inl.inj e)
      rw [if_neg this, ih]
      have h' : ¬ t = k := fun e => h e.symm
      simp [h']
theorem putD_kvT {ks : List Int} {t : Int} (h : t ∉ ks) : putD (kvT ks) (.inl t) (.bl true) = kvT (ks ++ [t]) := by
  induction ks with
  | nil => rfl
  | cons k ks ih =>
    have hk : ¬ (Sum.inl k : Key) = .inl t := fun e => h (by rw [Sum.inl.inj e]; exact List.mem_cons_self)
    show (if (Sum.inl k : Key) = .inl t then _ else ((Sum.inl k : Key), D.bl true) :: putD (kvT ks) (.inl t) (.bl true)) = _
    rw [if_neg hk, ih fun e => h (List.mem_cons_of_mem _ e)]
    rfl
theorem intKeys_kvT : ∀ ks : List Int, intKeys (kvT ks) = some ks
  | [] => rfl
  | k :: ks => by
    show (intKeys (kvT ks)).map (k :: ·) = _
    rw [intKeys_kvT ks]
    rfl
theorem notIn_kvT (ks : List Int) (t : Int) : D.notInD (.int t) (.dk (kvT ks)) = some (.bl (!decide (t ∈ ks))) := by
  show D.bOf (((keyOf (.int t)).map fun k => (valD (kvT ks) k).isSome).map (!·)) = _
  simp only [keyOf, Option.map_some, valD_kvT]
  rfl
theorem kvT_len (ks : List Int) : (kvT ks).length = ks.length := List.length_map _
section
variable {top : Int} {outs cuts : List Int}
theorem IsAll.ne {rs : List Int} (a : IsAll top outs cuts rs) : rs ≠ [] := fun e => by
  have := (a.m 0).mpr .zero
  rw [e] at this
  simp at this
end
end GD
end RP
end L2
set_option Elab.async false
set_option linter.all false
set_option maxRecDepth 100000
namespace L2
namespace RP
namespace GD
open PySem PySem.Spec PyProof.Rows
theorem any_eqv (ks : List Int) (t : Int) : ((dI ks).any fun z => D.eqv z (.int t)) = decide (t ∈ ks) := by
  induction ks with
  | nil => rfl
  | cons k ks ih =>
    show ((k == t) || (dI ks).any fun z => D.eqv z (.int t)) = _
    rw [ih, Bool.eq_iff_iff]
    simp only [Bool.or_eq_true, beq_iff_eq, decide_eq_true_eq, List.mem_cons]
    exact ⟨fun h => h.imp Eq.symm id, fun h => h.imp Eq.symm id⟩
theorem flat_dI : ∀ ks : List Int, (dI ks).all D.flat = true
  | [] => rfl
  | k :: ks => by
    show (true && (dI ks).all D.flat) = true
    rw [flat_dI ks]; rfl
theorem notIn_lst (ks : List Int) (t : Int) : D.notInD (.int t) (.lst (dI ks)) = some (.bl (!decide (t ∈ ks))) := by
  unfold D.notInD D.inB
  simp only [flat_dI, D.flat, Bool.and_self, if_true, any_eqv]
  rfl
theorem par2_ok {i j : Nat} {f1 f2 : SE} {ρ : En} {g g1 g2 : G} {x y : D} (h1 : f1 ρ g = .ok (x, g1)) (h2 : f2 ρ g1 = .ok (y, g2)) (hi : i < ρ.length) (hj : j < ρ.length) : sPar [i, j] (mF f1 (mF f2 mNil)) ρ g = .ok (.nx, (ρ.set j (.frz y)).set i (.frz x), g2) := by
  unfold sPar mF
  simp only [h1, h2, Res.bind_ok, mNil]
  rw [if_pos (by simp [hi, hj])]
  rfl
section
variable {top : Int} {outs cuts : List Int}
end
end GD
end RP
end L2
set_option Elab.async false
set_option linter.all false
set_option maxRecDepth 100000
namespace L2
namespace RP
namespace GD
open PySem PySem.Spec PyProof.Rows
def absI (i : Int) : Int := if i < 0 then -i else i
section
variable {top : Int} {outs cuts : List Int}
/-- the carry behind n times one grey -/
def runM (outs cuts : List Int) (x : Int) : Nat → Int
  | 0 => 0
  | n + 1 => stepM outs cuts (runM outs cuts x n) x
/-- when it leaves a bound, if it does -/
inductive Leaves (outs cuts : List Int) (x b : Int) : Option Nat → Prop
  | some {k : Nat} (h1 : ∀ i, i < k → absI (runM outs cuts x i) ≤ b) (h2 : b < absI (runM outs cuts x k)) (h3 : (k : Int) ≤ 2 * b + 1) : Leaves outs cuts x b (some k)
  | none (h : ∀ n, absI (runM outs cuts x n) ≤ b) : Leaves outs cuts x b none
theorem run_same {x : Int} {i j : Nat} (h : runM outs cuts x i = runM outs cuts x j) : ∀ n, runM outs cuts x (i + n) = runM outs cuts x (j + n)
  | 0 => h
  | n + 1 => by
    show stepM outs cuts (runM outs cuts x (i + n)) x = stepM outs cuts (runM outs cuts x (j + n)) x
    rw [run_same h n]
theorem run_round {x b : Int} {i k : Nat} (hik : i < k) (h : runM outs cuts x i = runM outs cuts x k) (hb : ∀ j, j < k → absI (runM outs cuts x j) ≤ b) : ∀ n, absI (runM outs cuts x n) ≤ b := by
  intro n
  induction n using Nat.strongRecOn with
  | _ n ih =>
    by_cases hn : n < k
    · exact hb n hn
    · have e := run_same h (n - k)
      rw [show k + (n - k) = n by omega] at e
      rw [← e]
      exact ih _ (by omega)
abbrev RFrm (kept : D) (b : Int) (found : List D) (x : Slot) (r c m : Slot) : En := [.frz kept, .frz (.int b), .own (.lst found), x, r, c, m]
theorem Leaves.uniq {x b : Int} {o o' : Option Nat} (a : Leaves outs cuts x b o) (c : Leaves outs cuts x b o') : o = o' := by
  cases a with
  | none h =>
    cases c with
    | none _ => rfl
    | @some k' _ h2 _ => have := h k'; omega
  | @some k h1 h2 h3 =>
    cases c with
    | none h => have := h k; omega
    | @some k' h1' h2' h3' =>
      have : k = k' := by
        rcases Nat.lt_trichotomy k k' with h | h | h
        · have := h1' k h; omega
        · exact h
        · have := h1 k' h; omega
      rw [this]
/-- the rows that leave -/
def rowsOf (x : Int) : Option Nat → List D
  | some k => [.lst (dI (List.replicate k x))]
  | none => []
/-- the shorter of two rows, the first one where they are as long -/
def bestM (top : Int) : Option Nat → Option Nat → D
  | none, none => .non
  | some k, none => .lst (dI (List.replicate k 0))
  | none, some k => .lst (dI (List.replicate k top))
  | some k, some l => if l < k then .lst (dI (List.replicate l top)) else .lst (dI (List.replicate k 0))
theorem minLen1 (xs : List D) : D.minLen (.lst [.lst xs]) = some (.lst xs) := rfl
theorem minLen2 (xs ys : List D) : D.minLen (.lst [.lst xs, .lst ys]) = some (if ys.length < xs.length then .lst ys else .lst xs) := by
  show ([D.lst xs, .lst ys])[if decide ((ys.length : Int) < xs.length) then 1 else 0]? = _
  by_cases h : ys.length < xs.length
  · have : (ys.length : Int) < xs.length := by omega
    simp [h, this]
  · have : ¬ (ys.length : Int) < xs.length := by omega
    simp [h, this]
end
end GD
end RP
end L2
set_option Elab.async false
set_option linter.all false
set_option maxRecDepth 100000
namespace L2
namespace RP
namespace GD
open PySem PySem.Spec PyProof.Rows
def optD : Option (List Int) → D
  | none => .non
  | some xs => .lst (dI xs)
def updB (x : Int) : Option Nat → Option (List Int) → Option (List Int)
  | none, best => best
  | some k, none => some (List.replicate k x)
  | some k, some ys => if k < ys.length then some (List.replicate k x) else some ys
section
variable {top : Int} {outs cuts : List Int}
abbrev LFrm (rule : D) (b : Int) (best : Option (List Int)) (x : Slot) (c m t : Slot) : En := [.frz rule, .frz (.int b), .frz (optD best), x, c, m, t]
theorem flat_row (x : Int) : ∀ k : Nat, (List.replicate k [D.int x]).flatten = dI (List.replicate k x)
  | 0 => rfl
  | n + 1 => by rw [List.replicate_succ, List.flatten_cons, flat_row x n, List.replicate_succ]; rfl
theorem mul_row (x : Int) (k : Nat) (hk : k ≤ 2001) : D.mul (.lst [.int x]) (.int (k : Nat)) = some (.lst (dI (List.replicate k x))) := by
  have h3 : 3000 ≤ sizeLine := by decide
  unfold D.mul
  dsimp only
  have e : [D.int x].length * (k : Int).toNat ≤ sizeLine := by rw [Int.toNat_natCast]; simp only [List.length_singleton]; omega
  rw [if_pos ⟨by omega, by omega, e⟩, Int.toNat_natCast, flat_row]
end
end GD
end RP
end L2
set_option Elab.async false
set_option linter.all false
set_option maxRecDepth 100000
namespace L2
namespace RP
namespace GD
open PySem PySem.Spec PyProof.Rows
theorem forL_excat {t : Tg} {body : SS} {c : Str} {e : D} {g' : G} (I : Nat → En → G → Prop) (K : Nat) : ∀ {ds : List D} {k : Nat} {ρ : En} {g : G}, k ≤ K → K < k + ds.length → I k ρ g →
    (∀ j d ρ g, ds[j]? = some d → k + j < K → I (k + j) ρ g → ∃ ρ1 ρ2 g2, t d ρ = some ρ1 ∧ body ρ1 g = .ok (.nx, ρ2, g2) ∧ I (k + j + 1) ρ2 g2) →
    (∀ j d ρ g, ds[j]? = some d → k + j = K → I (k + j) ρ g → ∃ ρ1, t d ρ = some ρ1 ∧ body ρ1 g = .exc c e g') → forL t body ds ρ g = .exc c e g'
  | [], k, ρ, g, h1, h2, _, _, _ => by simp at h2; omega
  | d :: ds, k, ρ, g, h1, h2, hI, st, ex => by
    by_cases h : k = K
    · obtain ⟨ρ1, a1, a2⟩ := ex 0 d ρ g rfl h hI
      exact forL_exc a1 a2
    · obtain ⟨ρ1, ρ2, g2, a1, a2, a3⟩ := st 0 d ρ g rfl (by omega) hI
      rw [forL_nx a1 a2]
      refine forL_excat I K (k := k + 1) (by omega) (by simp at h2; omega) a3 (fun j x ρ g hx hj hI => ?_) (fun j x ρ g hx hj hI => ?_)
      · have := st (j + 1) x ρ g (by simpa using hx) (by omega) (by rw [show k + (j + 1) = k + 1 + j by omega]; exact hI)
        rw [show k + (j + 1) + 1 = k + 1 + j + 1 by omega] at this
        exact this
      · exact ex (j + 1) x ρ g (by simpa using hx) (by omega) (by rw [show k + (j + 1) = k + 1 + j by omega]; exact hI)
section
variable {top : Int} {outs cuts : List Int}
theorem outM_mem (h : cuts.length < outs.length) (t : Int) : outM outs cuts t ∈ outs := by
  have hi : cnt cuts t < outs.length := by have := cnt_le cuts t; omega
  have : outM outs cuts t = outs[cnt cuts t] := by unfold outM; rw [List.getD_eq_getElem?_getD, List.getElem?_eq_getElem hi]; rfl
  rw [this]
  exact List.getElem_mem hi
theorem head_le (w : Good top outs cuts) : ∀ x ∈ outs, outs.headD 0 ≤ x := by
  have hs := w.so
  cases outs with
  | nil => simp
  | cons y ys =>
    intro x hx
    show y ≤ x
    rcases List.mem_cons.mp hx with rfl | hx
    · exact Int.le_refl _
    · have := (List.pairwise_cons.mp hs).1 x hx; omega
theorem le_last (w : Good top outs cuts) : ∀ x ∈ outs, x ≤ outs.getLastD 0 := by
  have hs := w.so
  rcases List.eq_nil_or_concat outs with h | ⟨pre, l, h⟩
  · rw [h]; simp
  · rw [List.concat_eq_append] at h
    subst h
    intro x hx
    rw [getLastD_app]
    rcases List.mem_append.mp hx with hx | hx
    · have := (List.pairwise_append.mp hs).2.2 x hx l (by simp); omega
    · simp at hx; omega
/-- what does not keep is never closed -/
theorem closed_none (w : Good top outs cuts) (hk : keepsM top outs = false) (low high : Int) : closedM top outs cuts low high = false := by
  rw [Bool.eq_false_iff]
  intro hc
  unfold closedM at hc
  split at hc
  · rename_i hz
    simp only [Bool.and_eq_true, decide_eq_true_eq] at hz
    rw [List.all_eq_true] at hc
    have ht := w.t
    have at_ : ∀ t, low ≤ t → t ≤ high + top → low ≤ t - outM outs cuts t ∧ t - outM outs cuts t ≤ high := fun t h1 h2 => by
      have := hc t (by rw [mem_rng]; omega)
      unfold okAt at this
      simpa using this
    have : keepsM top outs = true := by
      unfold keepsM
      simp only [Bool.and_eq_true, decide_eq_true_eq]
      constructor
      · have h1 := at_ low (by omega) (by omega)
        have h2 := head_le w _ (outM_mem w.lt low)
        omega
      · have h1 := at_ (high + top) (by omega) (by omega)
        have h2 := le_last w _ (outM_mem w.lt (high + top))
        omega
    rw [hk] at this
    cases this
  · cases hc
theorem set_exc {f : SE} {ρ : En} {g g1 : G} {i : Nat} {c : Str} {d : D} (h : f ρ g = .exc c d g1) : sSet i f ρ g = .exc c d g1 := by unfold sSet; rw [h]; rfl
theorem v1_exc {k : D → Option D} {f : SE} {ρ : En} {g g1 : G} {c : Str} {d : D} (h : f ρ g = .exc c d g1) : v1 (pureK1 k) f ρ g = .exc c d g1 := by unfold v1; rw [h]; rfl
theorem if_exc {f : SE} {s t : SS} {ρ : En} {g g1 : G} {c : Str} {d : D} (h : f ρ g = .exc c d g1) : sIf f s t ρ g = .exc c d g1 := by unfold sIf; rw [h]; rfl
end
def badRules : List D := [.non, .int 3, .tup [.int 1, .tup [.int 0, .int 1], .tup [.int 1]], .str "rule", .lst [], .dk []]
theorem repr_rules : badRules.all (fun d => (D.reprD (.tup [.str "rule", d])).isSome) = true := by decide +kernel
theorem repr_tops : ([D.int 0, .int 13, .non, .bl true, .str "1"]).all (fun d => (D.reprD (.tup [.str "top", d])).isSome) = true := by decide +kernel
theorem repr_bounds : ([D.int (-1), .int 1001, .non, .bl true]).all (fun d => (D.reprD (.tup [.str "bound", d])).isSome) = true := by decide +kernel
theorem repr_str {d : D} (h : (D.reprD d).isSome = true) : ∃ s, D.reprD d = some (.str s) := by
  unfold D.reprD at h ⊢
  cases q : d.reprT with
  | none => rw [q] at h; cases h
  | some s => exact ⟨s, rfl⟩
theorem ne_str (s : Str) : D.neD (.str s) (.str s) = some (.bl false) := by simp [D.neD, D.eq, D.eqS, D.bOf]
theorem eq_str (s : Str) : D.eqD (.str s) (.str s) = some (.bl true) := by simp [D.eqD, D.eq, D.eqS, D.bOf]
theorem eq_tag {s : Str} (hs : PyData.strOk s = true) (i : Int) : D.eq (.tup [.str s, .int i]) (.tup [.str s, .int i]) = some true := by
  unfold D.eq
  rw [show D.eqS (.tup [.str s, .int i]) (.tup [.str s, .int i]) = none from rfl]
  simp [D.dat, D.dats, hs, D.eqv, D.eqvs]
theorem ne_tag {s : Str} (hs : PyData.strOk s = true) (i : Int) : D.neD (.tup [.str s, .int i]) (.tup [.str s, .int i]) = some (.bl false) := by
  unfold D.neD; rw [eq_tag hs]; rfl
theorem eqd_tag {s : Str} (hs : PyData.strOk s = true) (i : Int) : D.eqD (.tup [.str s, .int i]) (.tup [.str s, .int i]) = some (.bl true) := by
  unfold D.eqD; rw [eq_tag hs]; rfl
theorem ref_exc {excs : List Str} {l : List (Str × Str)} {fb : SE} {ρ : En} {g g1 : G} {c tag : Str} {d : D} (h : fb (notNow ρ) g = .exc c d g1) (hc : c ∈ excs) (ht : tagOf l c = some tag) : vRef excs l fb ρ g = .ok (.tup [.str tag, d], g1) := by
  unfold vRef
  rw [h]
  simp only
  rw [if_pos hc, ht]
theorem noRows_dI : ∀ xs : List Int, D.noRows (dI xs) = true
  | [] => rfl
  | x :: xs => by
    show (true && D.noRows (dI xs)) = true
    rw [noRows_dI xs]; rfl
theorem noRows_app : ∀ xs ys : List D, D.noRows (xs ++ ys) = (D.noRows xs && D.noRows ys)
  | [], ys => rfl
  | x :: xs, ys => by
    show (x.noRow && D.noRows (xs ++ ys)) = ((x.noRow && D.noRows xs) && D.noRows ys)
    rw [noRows_app xs ys, Bool.and_assoc]
theorem ok_outs : PyData.strOk ("outs" : Str) = true := by decide +kernel
theorem ok_cuts : PyData.strOk ("cuts" : Str) = true := by decide +kernel
theorem ok_row : PyData.strOk ("row" : Str) = true := by decide +kernel
theorem ok_off : PyData.strOk ("off" : Str) = true := by decide +kernel
end GD
end RP
end L2
set_option Elab.async false
set_option linter.all false
set_option maxRecDepth 100000
namespace L2
namespace RP
namespace GD
open PySem PySem.Spec PyProof.Rows
theorem cutD_mid {xs : List D} {K : Nat} (w : D) : (∀ i, i < K → i < xs.length → (xs.take K ++ [w] ++ xs.drop (K + 1))[i]? = xs[i]?) := fun i hi hl => by
  rw [List.append_assoc, List.getElem?_append_left (by rw [List.length_take]; omega), List.getElem?_take, if_pos hi]
theorem mid_at {xs : List D} {K : Nat} (hK : K ≤ xs.length) (w : D) (ys : List D) : (xs.take K ++ [w] ++ ys)[K]? = some w := by
  rw [List.append_assoc, List.getElem?_append_right (by rw [List.length_take]; omega), List.length_take, Nat.min_eq_left hK, Nat.sub_self]
  rfl
theorem mid_len {xs : List D} {K : Nat} (hK : K < xs.length) (w : D) : (xs.take K ++ [w] ++ xs.drop (K + 1)).length = xs.length := by
  simp only [List.length_append, List.length_take, List.length_drop, List.length_singleton]
  omega
def wrongs : List D := [.non, .int 25, .int (-25), .bl true]
theorem wrongs_no (d : D) (h : d ∈ wrongs) (g : G) : f_is_within [d, .int (-24), .int 24] g = .ok (.bl false, g) := by
  simp only [wrongs, List.mem_cons, List.not_mem_nil, or_false] at h
  rcases h with rfl | rfl | rfl | rfl <;> rfl
theorem wrongs_row (d : D) (h : d ∈ wrongs) : d.noRow = true := by
  simp only [wrongs, List.mem_cons, List.not_mem_nil, or_false] at h
  rcases h with rfl | rfl | rfl | rfl <;> rfl
theorem noRows_take : ∀ (xs : List D) (k : Nat), D.noRows xs = true → D.noRows (xs.take k) = true
  | [], k, _ => by simp [D.noRows]
  | x :: xs, 0, _ => rfl
  | x :: xs, k + 1, h => by
    have h : (x.noRow && D.noRows xs) = true := h
    rw [Bool.and_eq_true] at h
    show (x.noRow && D.noRows (xs.take k)) = true
    rw [h.1, noRows_take xs k h.2]
    rfl
theorem noRows_drop : ∀ (xs : List D) (k : Nat), D.noRows xs = true → D.noRows (xs.drop k) = true
  | [], k, _ => by simp [D.noRows]
  | x :: xs, 0, h => h
  | x :: xs, k + 1, h => by
    have h : (x.noRow && D.noRows xs) = true := h
    rw [Bool.and_eq_true] at h
    exact noRows_drop xs k h.2
section
variable {top : Int} {outs cuts : List Int}
theorem mid_val {xs : List Int} {K : Nat} (hK : K < xs.length) (hl : xs.length ≤ 100) (wr : D) {i : Nat} {ρ : En} {g : G} (h1 : ρ[i]? = some (.frz (.lst (dI xs)))) (h7 : ρ[7]? = some (.frz (.int (K : Nat)))) (h8 : ρ[8]? = some (.frz wr)) :
    v2 (pureK2 D.add) (v2 (pureK2 D.add) (vSl (bVar i) sN (sS (bVar 7))) (vLst (aCons (vVar 8) aNil))) (vSl (bVar i) (sS (v2 (pureK2 D.add) (bVar 7) (vC (.int 1)))) sN) ρ g = .ok (.lst ((dI xs).take K ++ [wr] ++ (dI xs).drop (K + 1)), g) := by
  have hbig := big
  have b1 : bVar i ρ g = .ok (.lst (dI xs), g) := by unfold bVar; rw [h1]
  have b7 : bVar 7 ρ g = .ok (.int (K : Nat), g) := by unfold bVar; rw [h7]
  have b8 : vVar 8 ρ g = .ok (wr, g) := by unfold vVar; rw [h8]
  have s1 : vSl (bVar i) sN (sS (bVar 7)) ρ g = .ok (.lst ((dI xs).take K), g) := sl_ok b1 rfl (sS_ok b7) (by show some (D.lst (cutD (dI xs) none (some (K : Int)))) = _; rw [cutD_to])
  have s2 : vSl (bVar i) (sS (v2 (pureK2 D.add) (bVar 7) (vC (.int 1)))) sN ρ g = .ok (.lst ((dI xs).drop (K + 1)), g) := sl_ok b1 (sS_ok (v2_ok (k := D.add) (x := .int (K : Nat)) (y := .int 1) b7 rfl rfl)) rfl (by show some (D.lst (cutD (dI xs) (some ((K + 1 : Nat) : Int)) none)) = _; rw [cutD_from])
  refine v2_ok (k := D.add) (v2_ok (k := D.add) s1 (lst_ok (ds := [wr]) (aC_ok b8 a0_ok) (by simp; omega)) (add_lst ?_)) s2 (add_lst ?_)
  · simp only [List.length_take, List.length_singleton, dI_len]; omega
  · simp only [List.length_append, List.length_take, List.length_drop, List.length_singleton, dI_len]; omega
abbrev WFr (top : Int) (outs cuts : List Int) (odd non at_ wr : Slot) : En := [.frz .row, .frz (ruleD top outs cuts), .frz (.int top), .frz (.lst (dI outs)), .frz (.lst (dI cuts)), odd, non, at_, wr]
end
end GD
end RP
end L2
set_option Elab.async false
set_option linter.all false
set_option maxRecDepth 100000
namespace L2
namespace RP
namespace GD
open PySem PySem.Spec PyProof.Rows
section
variable {top : Int} {outs cuts : List Int}
abbrev QFr (top : Int) (outs cuts greys : List Int) (wrong bound ask at_ bad : Slot) : En := [.frz .row, .frz (ruleD top outs cuts), .frz (keptD top outs cuts), .frz (.lst (dI greys)), wrong, bound, ask, at_, bad]
end
end GD
end RP
end L2
set_option Elab.async false
set_option linter.all false
set_option maxRecDepth 100000
namespace L2
namespace RP
namespace GD
open PySem PySem.Spec PyProof.Rows
abbrev LAW (top : Int) (outs cuts : List Int) (kept greys due one paper bound some_ thing ask : Slot) : En :=
  [.none, .frz .row, .frz (ruleD top outs cuts), .frz (.int top), .frz (.lst (dI outs)), .frz (.lst (dI cuts)), kept, greys, due, one, paper, bound, some_, thing, ask]
section
variable {top : Int} {outs cuts : List Int}
theorem pick_seq {xs : List Int} {g : G} (hg : GI g) : ∃ d g', f__law_pick [.row, .lst [.lst (dI xs), .tup (dI xs)]] g = .ok (d, g') ∧ isSeqD d (dI xs) ∧ GI g' := by
  obtain ⟨d, g', e, m, h⟩ := pick_ok (xs := [.lst (dI xs), .tup (dI xs)]) (by simp) (by simp) hg
  refine ⟨d, g', e, ?_, h⟩
  simp only [List.mem_cons, List.not_mem_nil, or_false] at m
  exact m
theorem seq_noRow {d : D} {xs : List Int} (h : isSeqD d (dI xs)) : d.noRow = true := by
  rcases h with rfl | rfl
  · exact noRows_dI xs
  · exact noRows_dI xs
theorem plain_seq {n : Nat} {xs : List Int} (h : xs.length ≤ 1000) : plainD (n + 1) (.tup (dI xs)) ∧ plainD (n + 1) (.lst (dI xs)) :=
  ⟨⟨by rw [dI_len]; omega, plain_ints⟩, ⟨by rw [dI_len]; omega, plain_ints⟩⟩
theorem ix_len {xs : List Int} (hne : xs ≠ []) {i : Nat} {ρ : En} {g : G} (h : ρ[i]? = some (.frz (.lst (dI xs)))) : v2 (pureK2 D.ix) (bVar i) (v2 (pureK2 D.sub) (v1 (pureK1 D.len) (bVar i)) (vC (.int 1))) ρ g = .ok (.int (xs.getLastD 0), g) := by
  have b1 : bVar i ρ g = .ok (.lst (dI xs), g) := by unfold bVar; rw [h]
  have hl : 0 < xs.length := List.length_pos_iff.mpr hne
  refine v2_ok (k := D.ix) (y := .int ((xs.length - 1 : Nat) : Int)) b1 (v2_ok (k := D.sub) (x := .int xs.length) (y := .int 1) (v1_ok (k := D.len) b1 (by show some (D.int ((dI xs).length : Int)) = _; rw [dI_len])) rfl ?_) ?_
  · show some (D.int ((xs.length : Int) - 1)) = _
    rw [show ((xs.length : Int) - 1) = ((xs.length - 1 : Nat) : Int) by omega]
  · show atI (dI xs) ((xs.length - 1 : Nat) : Int) = _
    rw [atI_nat, dI_get, List.getLastD_eq_getLast?, List.getLast?_eq_getElem?, List.getElem?_eq_getElem (by omega)]
    rfl
end
end GD
end RP
end L2
set_option Elab.async false
set_option linter.all false
set_option maxRecDepth 100000
/-! T0: facts of dicts, lists. -/
namespace L2
namespace RP
open PySem PySem.Spec PyProof.Rows
section
variable {κ : Type} [DecidableEq κ]
theorem valD_some : ∀ (kvs : List (κ × D)) (k : κ), (valD kvs k).isSome = decide (k ∈ kvs.map (·.1))
  | [], _ => rfl
  | p :: r, k => by
    show (if p.1 = k then some p.2 else valD r k).isSome = _
    by_cases h : p.1 = k
    · rw [if_pos h]; simp [h]
    · rw [if_neg h, valD_some r k]
      have h' : ¬ k = p.1 := fun e => h e.symm
      simp [h']
theorem valD_iff (kvs : List (κ × D)) (k : κ) : (valD kvs k).isSome = true ↔ k ∈ kvs.map (·.1) := by rw [valD_some, decide_eq_true_eq]
theorem valD_mem : ∀ {kvs : List (κ × D)} {k : κ} {d : D}, (kvs.map (·.1)).Nodup → (k, d) ∈ kvs → valD kvs k = some d
  | [], _, _, _, h => by simp at h
  | p :: r, k, d, nd, h => by
    rw [List.map_cons, List.nodup_cons] at nd
    show (if p.1 = k then some p.2 else valD r k) = _
    rcases List.mem_cons.mp h with e | h'
    · rw [← e]; simp
    · have : p.1 ≠ k := fun e => nd.1 (by rw [e]; exact List.mem_map.mpr ⟨_, h', rfl⟩)
      rw [if_neg this]
      exact valD_mem nd.2 h'
theorem putD_new : ∀ {kvs : List (κ × D)} {k : κ} {d : D}, k ∉ kvs.map (·.1) → putD kvs k d = kvs ++ [(k, d)]
  | [], _, _, _ => rfl
  | p :: r, k, d, h => by
    rw [List.map_cons, List.mem_cons, not_or] at h
    show (if p.1 = k then _ else p :: putD r k d) = _
    rw [if_neg (fun e => h.1 e.symm), putD_new h.2]
    rfl
theorem map_same {k : κ} {d : D} : ∀ {kvs : List (κ × D)}, (∀ p ∈ kvs, p.2 = d) → kvs.map (fun q => if q.1 = k then (q.1, d) else q) = kvs
  | [], _ => rfl
  | p :: r, h => by
    rw [List.map_cons, map_same fun q hq => h q (List.mem_cons_of_mem _ hq)]
    have := h p List.mem_cons_self
    split
    · rw [← this]
    · rfl
theorem putD_same : ∀ {kvs : List (κ × D)} {k : κ} {d : D}, k ∈ kvs.map (·.1) → (∀ p ∈ kvs, p.2 = d) → putD kvs k d = kvs
  | [], _, _, h, _ => by simp at h
  | p :: r, k, d, h, hd => by
    show (if p.1 = k then (p.1, d) :: r.map (fun q => if q.1 = k then (q.1, d) else q) else p :: putD r k d) = _
    have hp := hd p List.mem_cons_self
    by_cases e : p.1 = k
    · rw [if_pos e, map_same fun q hq => hd q (List.mem_cons_of_mem _ hq), ← hp]
    · rw [if_neg e]
      rw [List.map_cons, List.mem_cons] at h
      rw [putD_same (h.resolve_left fun z => e z.symm) fun q hq => hd q (List.mem_cons_of_mem _ hq)]
end
theorem intKeys_of : ∀ {kvs : List (Key × D)} {ns : List Int}, kvs.map (·.1) = ns.map Sum.inl → intKeys kvs = some ns
  | [], [], _ => rfl
  | [], _ :: _, h => by cases h
  | _ :: _, [], h => by cases h
  | (k, d) :: r, n :: ns, h => by
    rw [List.map_cons, List.map_cons] at h
    injection h with h1 h2
    have h1 : k = .inl n := h1
    subst h1
    show (intKeys r).map (n :: ·) = _
    rw [intKeys_of h2]
    rfl
theorem notIn_dk (kvs : List (Key × D)) (t : Int) : D.notInD (.int t) (.dk kvs) = some (.bl (!(valD kvs (.inl t)).isSome)) := by
  show D.bOf (((keyOf (.int t)).map fun k => (valD kvs k).isSome).map (!·)) = _
  rfl
theorem in_dk (kvs : List (Key × D)) (t : Int) : D.inD (.int t) (.dk kvs) = some (.bl ((valD kvs (.inl t)).isSome)) := by
  show D.bOf ((keyOf (.int t)).map fun k => (valD kvs k).isSome) = _
  rfl
theorem ix_dk {kvs : List (Key × D)} {t : Int} {d : D} (h : valD kvs (.inl t) = some d) : D.ix (.dk kvs) (.int t) = some d := h
theorem put_ok {i : Nat} {fk fv : SE} {ρ : En} {g g1 g2 : G} {ds v k ds' : D} (ho : ρ[i]? = some (.own ds)) (hv : fv ρ g = .ok (v, g1)) (hk : fk ρ g1 = .ok (k, g2)) (hp : putKey ds k v = some ds') : sPut i fk fv ρ g = .ok (.nx, ρ.set i (.own ds'), g2) := by
  unfold sPut
  rw [ho]
  simp only
  rw [hv]
  simp only [Res.bind_ok]
  rw [hk]
  simp only [Res.bind_ok]
  rw [hp]
theorem putKey_dk {kvs : List (Key × D)} {t : Int} {d : D} (h : kvs.length < sizeLine) : putKey (.dk kvs) (.int t) d = some (.dk (putD kvs (.inl t) d)) := by
  show (if kvs.length < sizeLine then some (D.dk (putD kvs (.inl t) d)) else none) = _
  rw [if_pos h]
theorem idx_ok {fa fe : SE} {ρ : En} {g g1 g2 : G} {xs : List D} {y : D} {j : Nat} (ha : fa ρ g = .ok (.lst xs, g1)) (he : fe ρ g1 = .ok (y, g2)) (h : D.idxL xs y = some j) : vIdx fa fe ρ g = .ok (.int (j : Nat), g2) := by
  unfold vIdx
  rw [ha]
  simp only [Res.bind_ok]
  rw [he]
  simp only [Res.bind_ok]
  rw [h]
theorem idxI_of : ∀ {xs : List Int} {y : Int} {j : Nat}, xs.Nodup → xs[j]? = some y → idxI y xs = some j
  | [], _, _, _, h => by simp at h
  | x :: xs, y, 0, _, h => by
    simp at h
    unfold idxI
    rw [if_pos h]
  | x :: xs, y, j + 1, nd, h => by
    rw [List.nodup_cons] at nd
    have h' : xs[j]? = some y := by simpa using h
    have : x ≠ y := fun e => nd.1 (e ▸ List.mem_of_getElem? h')
    unfold idxI
    rw [if_neg this, idxI_of nd.2 h']
    rfl
theorem nd_inj {n : Nat} {f : Nat → Int} (h : ((List.range n).map f).Nodup) {a b : Nat} (ha : a < n) (hb : b < n) (e : f a = f b) : a = b := by
  rw [List.Nodup, List.pairwise_map, List.pairwise_iff_getElem] at h
  rcases Nat.lt_trichotomy a b with c | c | c
  · exact absurd (by rw [List.getElem_range, List.getElem_range]; exact e) (h a b (by simpa using ha) (by simpa using hb) c)
  · exact c
  · exact absurd (by rw [List.getElem_range, List.getElem_range]; exact e.symm) (h b a (by simpa using hb) (by simpa using ha) c)
end RP
end L2
set_option Elab.async false
set_option linter.all false
set_option maxRecDepth 100000
namespace L2
namespace RP
namespace GD
open PySem PySem.Spec PyProof.Rows
abbrev cellD (c : Int × Int) : D := .tup [.int c.1, .int c.2]
def cellsD (cs : List (Int × Int)) : List D := cs.map cellD
theorem cellsD_len (cs : List (Int × Int)) : (cellsD cs).length = cs.length := List.length_map _
theorem cellsD_app (a b : List (Int × Int)) : cellsD (a ++ b) = cellsD a ++ cellsD b := List.map_append
theorem cellsD_get (cs : List (Int × Int)) (i : Nat) : (cellsD cs)[i]? = cs[i]?.map cellD := List.getElem?_map
theorem dats_cells (n : Nat) : ∀ cs : List (Int × Int), D.dats (cellsD cs) (n + 1) = true
  | [] => by simp [cellsD, D.dats]
  | c :: cs => by
    show (D.dat (cellD c) (n + 1) && D.dats (cellsD cs) (n + 1)) = true
    rw [dats_cells n cs]
    cases n <;> rfl
theorem any_cell (cs : List (Int × Int)) (c : Int × Int) : ((cellsD cs).any fun z => D.eqv z (cellD c)) = decide (c ∈ cs) := by
  induction cs with
  | nil => rfl
  | cons k ks ih =>
    show ((k.1 == c.1 && (k.2 == c.2 && true)) || (cellsD ks).any fun z => D.eqv z (cellD c)) = _
    rw [ih, Bool.eq_iff_iff]
    simp only [Bool.or_eq_true, Bool.and_eq_true, beq_iff_eq, decide_eq_true_eq, List.mem_cons, and_true]
    exact ⟨fun h => h.imp (fun ⟨a, b⟩ => Prod.ext a.symm b.symm) id, fun h => h.imp (fun e => by rw [e]; exact ⟨rfl, rfl⟩) id⟩
theorem inCells_l (cs : List (Int × Int)) (c : Int × Int) : D.inB (cellD c) (.lst (cellsD cs)) = some (decide (c ∈ cs)) := by
  unfold D.inB
  dsimp only
  rw [if_neg (by simp [D.flat]), if_pos (by rw [dats_cells 58]; rfl), any_cell]
theorem inCells_t (cs : List (Int × Int)) (c : Int × Int) : D.inB (cellD c) (.tup (cellsD cs)) = some (decide (c ∈ cs)) := by
  unfold D.inB
  dsimp only
  rw [if_neg (by simp [D.flat]), if_pos (by rw [dats_cells 58]; rfl), any_cell]
theorem inInts_l (ks : List Int) (t : Int) : D.inB (.int t) (.lst (dI ks)) = some (decide (t ∈ ks)) := by
  unfold D.inB
  dsimp only
  rw [if_pos (by simp [flat_ints ks, D.flat]), any_ints]
where
  flat_ints : ∀ ks : List Int, (dI ks).all D.flat = true
    | [] => rfl
    | k :: ks => by
      show (true && (dI ks).all D.flat) = true
      rw [flat_ints ks]; rfl
  any_ints : ((dI ks).any fun z => D.eqv z (.int t)) = decide (t ∈ ks) := by
    induction ks with
    | nil => rfl
    | cons k ks ih =>
      show ((k == t) || (dI ks).any fun z => D.eqv z (.int t)) = _
      rw [ih, Bool.eq_iff_iff]
      simp only [Bool.or_eq_true, beq_iff_eq, decide_eq_true_eq, List.mem_cons]
      exact ⟨fun h => h.imp Eq.symm id, fun h => h.imp Eq.symm id⟩
theorem inInts_t (ks : List Int) (t : Int) : D.inB (.int t) (.tup (dI ks)) = some (decide (t ∈ ks)) := inInts_l ks t
theorem eq_int (i j : Int) : D.eqD (.int i) (.int j) = some (.bl (i == j)) := rfl
theorem len_isSeq {d : D} {xs : List D} (h : isSeqD d xs) : D.len d = some (.int xs.length) := by rcases h with rfl | rfl <;> rfl
section
variable {w h x y : Int}
theorem is_cell_ok (hx : 0 ≤ x ∧ x < w) (hy : 0 ≤ y ∧ y < h) (g : G) : f_is_cell [.int w, .int h, cellD (x, y)] g = .ok (.bl true, g) := by
  refine run_ret (ret_ok ((and_ok (x := .bl true) (b := true) rfl rfl).trans ((if_pos rfl).trans ((and_ok (x := .bl true) (b := true) ((call_ok (ds := [.int x, .int 0, .int (w - 1)]) (g1 := g) rfl).trans ((within_int x 0 (w - 1) g).trans (wi_t hx.1 (by omega) g))) rfl).trans ((if_pos rfl).trans ((call_ok (ds := [.int y, .int 0, .int (h - 1)]) (g1 := g) rfl).trans ((within_int y 0 (h - 1) g).trans (wi_t hy.1 (by omega) g))))))))
theorem is_cell_two {a b : D} {p q : Bool} {g : G} (ha : f_is_within [a, .int 0, .int (w - 1)] g = .ok (.bl p, g)) (hb : f_is_within [b, .int 0, .int (h - 1)] g = .ok (.bl q, g)) : f_is_cell [.int w, .int h, .tup [a, b]] g = .ok (.bl (p && q), g) := by
  refine run_ret (ret_ok ((and_ok (x := .bl true) (b := true) rfl rfl).trans ((if_pos rfl).trans ((and_ok (x := .bl p) (b := p) ((call_ok (ds := [a, .int 0, .int (w - 1)]) (g1 := g) rfl).trans ha) rfl).trans ?_))))
  cases p with
  | true => exact (call_ok (ds := [b, .int 0, .int (h - 1)]) (g1 := g) rfl).trans hb
  | false => rfl
end
theorem check_size_ok {w h : Int} (hw : 1 ≤ w ∧ w ≤ 8) (hh : 1 ≤ h ∧ h ≤ 8) (g : G) : f_check_size [.int w, .int h] g = .ok (.non, g) := by
  have b : ∀ (v : Int) (a b : Slot), 1 ≤ v ∧ v ≤ 8 → sIf (vNot (vCall f_is_within (aCons (vVar 2) (aCons (vC (.int 1)) (aCons (vC (.int 8)) (aNil)))))) (sRaise "BadSize" (vVar 2)) (sNil) [a, b, .frz (.int v)] g = .ok (.nx, [a, b, .frz (.int v)], g) := fun v a b hv =>
    (if_ok (x := .bl false) (b := false) (not_ok (x := .bl true) (b := true) ((call_ok (ds := [.int v, .int 1, .int 8]) (g1 := g) rfl).trans ((within_int v 1 8 g).trans (wi_t hv.1 hv.2 g))) rfl) rfl).trans rfl
  exact run_nx ((for_ok (seqIt_t (ds := [.int w, .int h]) rfl)).trans ((forL_nx (t := tgN 2) rfl (b w _ _ hw)).trans ((forL_nx (t := tgN 2) rfl (b h _ _ hh)).trans rfl)))
/-- a side that is none -/
theorem check_size_bad {d d2 : D} {g : G} (hd : f_is_within [d, .int 1, .int 8] g = .ok (.bl false, g)) : f_check_size [d, d2] g = .exc "BadSize" d g :=
  run_exc ((for_ok (seqIt_t (ds := [d, d2]) rfl)).trans (forL_exc (t := tgN 2) rfl ((if_ok (x := .bl true) (b := true) (not_ok (x := .bl false) (b := false) ((call_ok (ds := [d, .int 1, .int 8]) (g1 := g) rfl).trans hd) rfl) rfl).trans ((if_pos rfl).trans (raise_ok rfl)))))
theorem check_size_bad2 {w : Int} {d : D} {g : G} (hw : 1 ≤ w ∧ w ≤ 8) (hd : f_is_within [d, .int 1, .int 8] g = .ok (.bl false, g)) : f_check_size [.int w, d] g = .exc "BadSize" d g :=
  run_exc ((for_ok (seqIt_t (ds := [.int w, d]) rfl)).trans ((forL_nx (t := tgN 2) rfl ((if_ok (x := .bl false) (b := false) (not_ok (x := .bl true) (b := true) ((call_ok (ds := [.int w, .int 1, .int 8]) (g1 := g) rfl).trans ((within_int w 1 8 g).trans (wi_t hw.1 hw.2 g))) rfl) rfl).trans rfl)).trans (forL_exc (t := tgN 2) rfl ((if_ok (x := .bl true) (b := true) (not_ok (x := .bl false) (b := false) ((call_ok (ds := [d, .int 1, .int 8]) (g1 := g) rfl).trans hd) rfl) rfl).trans ((if_pos rfl).trans (raise_ok rfl))))))
/-- what a walk is made of -/
structure GW (w h : Int) (cs : List (Int × Int)) (st : List Int) : Prop where
  hw : 1 ≤ w ∧ w ≤ 8
  hh : 1 ≤ h ∧ h ≤ 8
  len : (cs.length : Int) = w * h
  r : ∀ c ∈ cs, (0 ≤ c.1 ∧ c.1 < w) ∧ (0 ≤ c.2 ∧ c.2 < h)
  nd : cs.Nodup
  sn : st.Nodup
  sr : ∀ s ∈ st, 0 ≤ s ∧ s < w * h
abbrev walkO (w h : Int) (cs : List (Int × Int)) (ss : List Int) : D := .ins "Walk" [("width", .int w), ("height", .int h), ("cells", .tup (cellsD cs)), ("starts", .tup (dI ss))]
def startsS (st : List Int) : List Int := sortI (unDbl (st ++ [0]))
abbrev WFm (w h o s : D) (m i c t : Slot) : En := [.frz .row, .frz w, .frz h, .frz o, .frz s, m, i, c, t]
abbrev wkCells : SS := sIf (vOr (vNot (vCall f_is_cell (aCons (vVar 1) (aCons (vVar 2) (aCons (vVar 7) (aNil)))))) (v2 (pureK2 D.inD) (bVar 7) (vSl (bVar 3) (sN) (sS (bVar 6))))) (sRaise "BadCells" (vVar 6)) (sNil)
abbrev wkStarts : SS := sIf (vOr (vNot (vCall f_is_within (aCons (vVar 8) (aCons (vC (.int 0)) (aCons (v2 (pureK2 D.sub) (bVar 5) (vC (.int 1))) (aNil)))))) (v2 (pureK2 D.inD) (bVar 8) (vSl (bVar 4) (sN) (sS (bVar 6))))) (sRaise "BadStarts" (vVar 6)) (sNil)
theorem s_Walk_eq : s_Walk = sSeq (sExpr (vCall f_check_size (aCons (vVar 1) (aCons (vVar 2) (aNil))))) (sSeq (sSet 5 (v2 (pureK2 D.mul) (bVar 1) (bVar 2))) (sSeq (sIf (vOr (vNot (vCall f_is_row (aCons (vVar 3) (aNil)))) (v2 (pureK2 D.neD) (v1 (pureK1 D.len) (bVar 3)) (bVar 5))) (sRaise "BadCells" (v1 (pureK1 D.neg) (vC (.int 1)))) (sNil)) (sSeq (sFor (itEnum (vVar 3)) (tgT 2 (tgsCons (tgN 6) (tgsCons (tgN 7) (tgsNil)))) wkCells) (sSeq (sIf (vNot (vCall f_is_row (aCons (vVar 4) (aNil)))) (sRaise "BadStarts" (v1 (pureK1 D.neg) (vC (.int 1)))) (sNil)) (sSeq (sFor (itEnum (vVar 4)) (tgT 2 (tgsCons (tgN 6) (tgsCons (tgN 8) (tgsNil)))) wkStarts) sNil))))) := rfl
theorem cut_seq {o : D} {xs : List D} (hs : isSeqD o xs) (i : Nat) : ∃ d, D.cut none (some (i : Int)) o = some d ∧ isSeqD d (xs.take i) := by
  rcases hs with rfl | rfl
  · exact ⟨.lst (xs.take i), by show some (D.lst (cutD xs none (some (i : Int)))) = _; rw [cutD_to], .inl rfl⟩
  · exact ⟨.tup (xs.take i), by show some (D.tup (cutD xs none (some (i : Int)))) = _; rw [cutD_to], .inr rfl⟩
theorem in_seqC {d : D} {cs : List (Int × Int)} (hs : isSeqD d (cellsD cs)) (c : Int × Int) : D.inD (cellD c) d = some (.bl (decide (c ∈ cs))) := by
  unfold D.inD
  rcases hs with rfl | rfl
  · rw [inCells_l]; rfl
  · rw [inCells_t]; rfl
theorem in_seqI {d : D} {ks : List Int} (hs : isSeqD d (dI ks)) (t : Int) : D.inD (.int t) d = some (.bl (decide (t ∈ ks))) := by
  unfold D.inD
  rcases hs with rfl | rfl
  · rw [inInts_l]; rfl
  · rw [inInts_t]; rfl
section
variable {w h : Int} {o s : D} {cs : List (Int × Int)} {st : List Int}
/-- a cell in its place is right -/
theorem wk_cell_ok (ho : isSeqD o (cellsD cs)) {i : Nat} {c : Int × Int} (hc : cs[i]? = some c) (hr : (0 ≤ c.1 ∧ c.1 < w) ∧ (0 ≤ c.2 ∧ c.2 < h)) (hn : c ∉ cs.take i) (m t : Slot) (g : G) : wkCells (WFm (.int w) (.int h) o s m (.frz (.int (i : Nat))) (.frz (cellD c)) t) g = .ok (.nx, WFm (.int w) (.int h) o s m (.frz (.int (i : Nat))) (.frz (cellD c)) t, g) := by
  obtain ⟨d, h1, h2⟩ := cut_seq ho i
  rw [show (cellsD cs).take i = cellsD (cs.take i) by unfold cellsD; rw [List.map_take]] at h2
  have sl := sl_ok (fa := bVar 3) (fl := sN) (fh := sS (bVar 6)) (ρ := WFm (.int w) (.int h) o s m (.frz (.int (i : Nat))) (.frz (cellD c)) t) (g := g) (g1 := g) (g2 := g) (g3 := g) (x := o) (l := none) (h := some (i : Int)) rfl rfl rfl h1
  refine (if_ok (x := .bl false) (b := false) ((or_ok (x := .bl false) (b := false) (not_ok (x := .bl true) (b := true) ((call_ok (ds := [.int w, .int h, cellD c]) (g1 := g) rfl).trans (is_cell_ok hr.1 hr.2 g)) rfl) rfl).trans ((if_neg (by decide)).trans (v2_ok (k := D.inD) (x := cellD c) rfl sl (by rw [in_seqC h2, decide_eq_false hn])))) rfl).trans rfl
theorem wk_cell_bad {i : Nat} {d : D} (hd : ∀ g, f_is_cell [.int w, .int h, d] g = .ok (.bl false, g)) (m t : Slot) (g : G) : wkCells (WFm (.int w) (.int h) o s m (.frz (.int (i : Nat))) (.frz d) t) g = .exc "BadCells" (.int (i : Nat)) g :=
  (if_ok (x := .bl true) (b := true) ((or_ok (x := .bl true) (b := true) (not_ok (x := .bl false) (b := false) ((call_ok (ds := [.int w, .int h, d]) (g1 := g) rfl).trans (hd g)) rfl) rfl).trans rfl) rfl).trans ((if_pos rfl).trans (raise_ok rfl))
theorem wk_start_ok {m : Int} (hs : isSeqD s (dI st)) {i : Nat} {v : Int} (hv : st[i]? = some v) (hr : 0 ≤ v ∧ v < m) (hn : v ∉ st.take i) (c : Slot) (g : G) : wkStarts (WFm (.int w) (.int h) o s (.frz (.int m)) (.frz (.int (i : Nat))) c (.frz (.int v))) g = .ok (.nx, WFm (.int w) (.int h) o s (.frz (.int m)) (.frz (.int (i : Nat))) c (.frz (.int v)), g) := by
  obtain ⟨d, h1, h2⟩ := cut_seq hs i
  rw [show (dI st).take i = dI (st.take i) by unfold dI; rw [List.map_take]] at h2
  have sl := sl_ok (fa := bVar 4) (fl := sN) (fh := sS (bVar 6)) (ρ := WFm (.int w) (.int h) o s (.frz (.int m)) (.frz (.int (i : Nat))) c (.frz (.int v))) (g := g) (g1 := g) (g2 := g) (g3 := g) (x := s) (l := none) (h := some (i : Int)) rfl rfl rfl h1
  refine (if_ok (x := .bl false) (b := false) ((or_ok (x := .bl false) (b := false) (not_ok (x := .bl true) (b := true) ((call_ok (ds := [.int v, .int 0, .int (m - 1)]) (g1 := g) rfl).trans ((within_int v 0 (m - 1) g).trans (wi_t hr.1 (by omega) g))) rfl) rfl).trans ((if_neg (by decide)).trans (v2_ok (k := D.inD) (x := .int v) rfl sl (by rw [in_seqI h2, decide_eq_false hn])))) rfl).trans rfl
theorem wk_start_bad {m : Int} {i : Nat} {d : D} (hd : ∀ g, f_is_within [d, .int 0, .int (m - 1)] g = .ok (.bl false, g)) (c : Slot) (g : G) : wkStarts (WFm (.int w) (.int h) o s (.frz (.int m)) (.frz (.int (i : Nat))) c (.frz d)) g = .exc "BadStarts" (.int (i : Nat)) g :=
  (if_ok (x := .bl true) (b := true) ((or_ok (x := .bl true) (b := true) (not_ok (x := .bl false) (b := false) ((call_ok (ds := [d, .int 0, .int (m - 1)]) (g1 := g) rfl).trans (hd g)) rfl) rfl).trans rfl) rfl).trans ((if_pos rfl).trans (raise_ok rfl))
theorem not_take {α : Type} {xs : List α} (nd : xs.Nodup) {i : Nat} {x : α} (hx : xs[i]? = some x) : x ∉ xs.take i := fun hm => by
  have : (xs.take (i + 1)).Nodup := nd.sublist (List.take_sublist _ _)
  rw [List.take_succ, hx, List.nodup_append] at this
  exact this.2.2 x hm x (by simp) rfl
/-- the steps ahead of the cells' loop -/
theorem wk_pre (hw : 1 ≤ w ∧ w ≤ 8) (hh : 1 ≤ h ∧ h ≤ 8) {xs : List D} (ho : isSeqD o xs) (hl : (xs.length : Int) = w * h) (rest : SS) (g : G) :
    sSeq (sExpr (vCall f_check_size (aCons (vVar 1) (aCons (vVar 2) (aNil))))) (sSeq (sSet 5 (v2 (pureK2 D.mul) (bVar 1) (bVar 2))) (sSeq (sIf (vOr (vNot (vCall f_is_row (aCons (vVar 3) (aNil)))) (v2 (pureK2 D.neD) (v1 (pureK1 D.len) (bVar 3)) (bVar 5))) (sRaise "BadCells" (v1 (pureK1 D.neg) (vC (.int 1)))) (sNil)) rest)) (WFm (.int w) (.int h) o s .none .none .none .none) g = rest (WFm (.int w) (.int h) o s (.frz (.int (w * h))) .none .none .none) g := by
  have m1 : D.mul (.int w) (.int h) = some (.int (w * h)) := by
    show (if mulOk w h then some (D.int (w * h)) else none) = _
    rw [if_pos (by unfold mulOk; simp only [Bool.or_eq_true, decide_eq_true_eq]; left; omega)]
  have s2 := set_ok (i := 5) (ρ := WFm (.int w) (.int h) o s .none .none .none .none) (f := v2 (pureK2 D.mul) (bVar 1) (bVar 2)) (g := g) (g1 := g) (v2_ok (k := D.mul) (x := .int w) (y := .int h) rfl rfl m1) (by simp)
  exact (seq_nx (expr_ok ((call_ok (ds := [.int w, .int h]) (g1 := g) rfl).trans (check_size_ok hw hh g)))).trans ((seq_nx s2).trans (seq_nx ((if_ok (x := .bl false) (b := false) ((or_ok (x := .bl false) (b := false) (not_ok (x := .bl true) (b := true) ((call_ok (ds := [o]) (g1 := g) rfl).trans (is_row_ok ho g)) rfl) rfl).trans ((if_neg (by decide)).trans (v2_ok (k := D.neD) (x := .int xs.length) (y := .int (w * h)) (v1_ok (k := D.len) rfl (len_isSeq ho)) rfl (by rw [hl]; simp [D.neD, D.eq, D.eqS, D.bOf])))) rfl).trans rfl)))
theorem wk_pre_bad (hw : 1 ≤ w ∧ w ≤ 8) (hh : 1 ≤ h ∧ h ≤ 8) {xs : List D} (ho : isSeqD o xs) (hl : (xs.length : Int) ≠ w * h) (rest : SS) (g : G) :
    sSeq (sExpr (vCall f_check_size (aCons (vVar 1) (aCons (vVar 2) (aNil))))) (sSeq (sSet 5 (v2 (pureK2 D.mul) (bVar 1) (bVar 2))) (sSeq (sIf (vOr (vNot (vCall f_is_row (aCons (vVar 3) (aNil)))) (v2 (pureK2 D.neD) (v1 (pureK1 D.len) (bVar 3)) (bVar 5))) (sRaise "BadCells" (v1 (pureK1 D.neg) (vC (.int 1)))) (sNil)) rest)) (WFm (.int w) (.int h) o s .none .none .none .none) g = .exc "BadCells" (.int (-1)) g := by
  have m1 : D.mul (.int w) (.int h) = some (.int (w * h)) := by
    show (if mulOk w h then some (D.int (w * h)) else none) = _
    rw [if_pos (by unfold mulOk; simp only [Bool.or_eq_true, decide_eq_true_eq]; left; omega)]
  have s2 := set_ok (i := 5) (ρ := WFm (.int w) (.int h) o s .none .none .none .none) (f := v2 (pureK2 D.mul) (bVar 1) (bVar 2)) (g := g) (g1 := g) (v2_ok (k := D.mul) (x := .int w) (y := .int h) rfl rfl m1) (by simp)
  exact (seq_nx (expr_ok ((call_ok (ds := [.int w, .int h]) (g1 := g) rfl).trans (check_size_ok hw hh g)))).trans ((seq_nx s2).trans (seq_exc ((if_ok (x := .bl true) (b := true) ((or_ok (x := .bl false) (b := false) (not_ok (x := .bl true) (b := true) ((call_ok (ds := [o]) (g1 := g) rfl).trans (is_row_ok ho g)) rfl) rfl).trans ((if_neg (by decide)).trans (v2_ok (k := D.neD) (x := .int xs.length) (y := .int (w * h)) (v1_ok (k := D.len) rfl (len_isSeq ho)) rfl (by simp [D.neD, D.eq, D.eqS, D.bOf, hl])))) rfl).trans ((if_pos rfl).trans (raise_ok rfl)))))
theorem wk_cells (gw : GW w h cs st) (ho : isSeqD o (cellsD cs)) (m : Slot) (g : G) : ∃ i c, sFor (itEnum (vVar 3)) (tgT 2 (tgsCons (tgN 6) (tgsCons (tgN 7) (tgsNil)))) wkCells (WFm (.int w) (.int h) o s m .none .none .none) g = .ok (.nx, WFm (.int w) (.int h) o s m i c .none, g) := by
  have loop := forL_inv (t := tgT 2 (tgsCons (tgN 6) (tgsCons (tgN 7) (tgsNil)))) (body := wkCells) (fun _ ρ g' => g' = g ∧ ∃ i c, ρ = WFm (.int w) (.int h) o s m i c .none) (ds := enumD 0 (cellsD cs)) (k := 0) (ρ := WFm (.int w) (.int h) o s m .none .none .none) (g := g) ⟨rfl, _, _, rfl⟩ (fun j d ρ g' hd hI => by
    obtain ⟨rfl, i, c, rfl⟩ := hI
    rw [enumD_get] at hd
    obtain ⟨e, he, rfl⟩ := Option.map_eq_some_iff.mp hd
    rw [cellsD_get] at he
    obtain ⟨c1, hc, rfl⟩ := Option.map_eq_some_iff.mp he
    have := wk_cell_ok (s := s) ho hc (gw.r c1 (List.mem_of_getElem? hc)) (not_take gw.nd hc) m .none g'
    rw [Nat.zero_add]
    exact ⟨_, _, _, .nx, rfl, this, .inl rfl, rfl, _, _, rfl⟩)
  obtain ⟨ρ', g', l1, rfl, i, c, rfl⟩ := loop
  exact ⟨i, c, (for_ok (enumIt_ok ho rfl)).trans l1⟩
theorem wk_starts {m : Int} (hn : st.Nodup) (hr : ∀ v ∈ st, 0 ≤ v ∧ v < m) (hs : isSeqD s (dI st)) (i c : Slot) (g : G) : ∃ i' t, sFor (itEnum (vVar 4)) (tgT 2 (tgsCons (tgN 6) (tgsCons (tgN 8) (tgsNil)))) wkStarts (WFm (.int w) (.int h) o s (.frz (.int m)) i c .none) g = .ok (.nx, WFm (.int w) (.int h) o s (.frz (.int m)) i' c t, g) := by
  have loop := forL_inv (t := tgT 2 (tgsCons (tgN 6) (tgsCons (tgN 8) (tgsNil)))) (body := wkStarts) (fun _ ρ g' => g' = g ∧ ∃ i t, ρ = WFm (.int w) (.int h) o s (.frz (.int m)) i c t) (ds := enumD 0 (dI st)) (k := 0) (ρ := WFm (.int w) (.int h) o s (.frz (.int m)) i c .none) (g := g) ⟨rfl, _, _, rfl⟩ (fun j d ρ g' hd hI => by
    obtain ⟨rfl, i, t, rfl⟩ := hI
    rw [enumD_get] at hd
    obtain ⟨e, he, rfl⟩ := Option.map_eq_some_iff.mp hd
    rw [dI_get] at he
    obtain ⟨v, hv, rfl⟩ := Option.map_eq_some_iff.mp he
    have := wk_start_ok (w := w) (h := h) (o := o) hs hv (hr v (List.mem_of_getElem? hv)) (not_take hn hv) c g'
    rw [Nat.zero_add]
    exact ⟨_, _, _, .nx, rfl, this, .inl rfl, rfl, _, _, rfl⟩)
  obtain ⟨ρ', g', l1, rfl, i', t, rfl⟩ := loop
  exact ⟨i', t, (for_ok (enumIt_ok hs rfl)).trans l1⟩
theorem listD_seq {d : D} {xs : List D} (h : isSeqD d xs) : D.listD d = some (.lst xs) := by rcases h with rfl | rfl <;> rfl
theorem tupleD_seq {d : D} {xs : List D} (h : isSeqD d xs) : D.tupleD d = some (.tup xs) := by rcases h with rfl | rfl <;> rfl
theorem walk_made (gw : GW w h cs st) (ho : isSeqD o (cellsD cs)) (hs : isSeqD s (dI st)) (hl : st.length ≤ 100) (g : G) : mk_Walk [.int w, .int h, o, s] g = .ok (walkO w h cs (startsS st), g) :=
  mkF_ok fun M => by
    have hbig := big
    obtain ⟨i, c, e1⟩ := wk_cells (s := s) gw ho (.frz (.int (w * h))) { g with me := some M }
    obtain ⟨i', t, e2⟩ := wk_starts (w := w) (h := h) (o := o) gw.sn gw.sr hs i c { g with me := some M }
    refine ⟨WFm (.int w) (.int h) o s (.frz (.int (w * h))) i' c t, ?_, rfl, ?_⟩
    · rw [s_Walk_eq]
      exact (wk_pre gw.hw gw.hh ho (by rw [cellsD_len]; exact gw.len) _ _).trans ((seq_nx e1).trans ((seq_nx ((if_ok (x := .bl false) (b := false) (not_ok (x := .bl true) (b := true) ((call_ok (ds := [s]) (g1 := { g with me := some M }) rfl).trans (is_row_ok hs _)) rfl) rfl).trans rfl)).trans ((seq_nx e2).trans rfl)))
    · refine .cons (fun g => rfl) (.cons (fun g => rfl) (.cons (fun g => v1_ok (k := D.tupleD) rfl (tupleD_seq ho)) (.cons (fun g => ?_) .nil)))
      refine v1_ok (k := D.tupleD) (x := .lst (dI (startsS st))) (v1_ok (k := D.sortSet) (x := .lst (dI (st ++ [0]))) (v2_ok (k := D.add) (x := .lst (dI st)) (y := .lst (dI [0])) (v1_ok (k := D.listD) rfl (listD_seq hs)) rfl (by rw [dI_app]; exact add_lst (by rw [dI_len, dI_len]; simp; omega))) ?_) rfl
      show (intsOf (dI (st ++ [0]))).bind _ = _
      rw [intsOf_dI]
      exact if_pos (by simp; omega)
end
end GD
end RP
end L2
set_option Elab.async false
set_option linter.all false
set_option maxRecDepth 100000
namespace L2
namespace RP
namespace GD
open PySem PySem.Spec PyProof.Rows
theorem compL_intA {i : Nat} {fe : SE} {ρ : En} {g : G} {q : Int → D} : ∀ {xs : List Int}, i < ρ.length → (∀ x ∈ xs, fe (ρ.set i (.frz (.int x))) g = .ok (q x, g)) → compL (tgN i) (vC (.bl true)) fe (dI xs) ρ g = .ok (xs.map q, g)
  | [], _, _ => rfl
  | x :: xs, hi, h => by
    have ih := compL_intA (xs := xs) hi (fun y hy => h y (List.mem_cons_of_mem _ hy))
    show compL (tgN i) (vC (.bl true)) fe (.int x :: dI xs) ρ g = _
    unfold compL
    simp only [tgN, hi, if_true, vC, D.truth]
    rw [h x List.mem_cons_self]
    dsimp only
    rw [ih]
    rfl
theorem ext_ok {i : Nat} {f : SE} {ρ : En} {g g1 : G} {xs ys : List D} (ho : ρ[i]? = some (.own (.lst xs))) (h : f ρ g = .ok (.lst ys, g1)) (hl : xs.length + ys.length ≤ sizeLine) : sExt i f ρ g = .ok (.nx, ρ.set i (.own (.lst (xs ++ ys))), g1) := by
  unfold sExt
  rw [ho]
  simp only
  rw [h]
  simp only [Res.bind_ok]
  rw [if_pos hl]
/-- a row of cells -/
def rowM (w : Nat) (y : Int) (tn : Bool) : List (Int × Int) :=
  if tn && (y % 2 == 1) then ((rng 0 w).map fun x => (x, y)).reverse else (rng 0 w).map fun x => (x, y)
def linesM (w n : Nat) (tn : Bool) : List (Int × Int) := (rng 0 n).flatMap fun y => rowM w y tn
theorem rng_succ0 (n : Nat) : rng 0 (n + 1) = rng 0 n ++ [(n : Int)] := by unfold rng; rw [List.range_succ, List.map_append]; simp
theorem rng_len (a : Int) (n : Nat) : (rng a n).length = n := by simp [rng]
theorem linesM_succ (w n : Nat) (tn : Bool) : linesM w (n + 1) tn = linesM w n tn ++ rowM w n tn := by unfold linesM; rw [rng_succ0, List.flatMap_append]; simp
theorem rowM_len (w : Nat) (y : Int) (tn : Bool) : (rowM w y tn).length = w := by unfold rowM; split <;> simp [rng_len]
theorem linesM_len (w : Nat) (tn : Bool) : ∀ n, (linesM w n tn).length = n * w
  | 0 => by simp [linesM, rng]
  | n + 1 => by rw [linesM_succ, List.length_append, linesM_len w tn n, rowM_len, Nat.succ_mul]
/-- the line of a row, turned or not -/
theorem row_val {w : Nat} {y : Int} {tn : Bool} {b r l : Nat} {ρ : En} {g : G} (h2 : ρ[b]? = some (.frz (.bl tn))) (h4 : ρ[r]? = some (.frz (.int y))) (h5 : ρ[l]? = some (.frz (.lst (cellsD ((rng 0 w).map fun x => (x, y)))))) :
    vIf (vAnd (bVar b) (v2 (pureK2 D.eqD) (v2 (pureK2 D.mod) (bVar r) (vC (.int 2))) (vC (.int 1)))) (v1 (pureK1 D.revD) (bVar l)) (vVar l) ρ g = .ok (.lst (cellsD (rowM w y tn)), g) := by
  have e2 : bVar b ρ g = .ok (.bl tn, g) := by unfold bVar; rw [h2]
  have e4 : bVar r ρ g = .ok (.int y, g) := by unfold bVar; rw [h4]
  have e5 : bVar l ρ g = .ok (.lst (cellsD ((rng 0 w).map fun x => (x, y))), g) := by unfold bVar; rw [h5]
  have e5' : vVar l ρ g = .ok (.lst (cellsD ((rng 0 w).map fun x => (x, y))), g) := by unfold vVar; rw [h5]
  have c : vAnd (bVar b) (v2 (pureK2 D.eqD) (v2 (pureK2 D.mod) (bVar r) (vC (.int 2))) (vC (.int 1))) ρ g = .ok (.bl (tn && (y % 2 == 1)), g) := by
    refine (and_ok (b := tn) e2 rfl).trans ?_
    cases tn with
    | true => exact v2_ok (k := D.eqD) (x := .int (y % 2)) (y := .int 1) (v2_ok (k := D.mod) (x := .int y) (y := .int 2) e4 rfl rfl) rfl rfl
    | false => rfl
  refine (ifv_ok (b := tn && (y % 2 == 1)) c rfl).trans ?_
  unfold rowM
  cases tn && (y % 2 == 1) with
  | true =>
    refine v1_ok (k := D.revD) e5 ?_
    show some (D.lst (cellsD _).reverse) = _
    rw [if_pos rfl]
    unfold cellsD
    rw [List.map_reverse]
  | false => exact e5'
theorem line_comp {w : Nat} {y : Int} {r c : Nat} {fi : SEs} {ρ : En} {g : G} (hi : fi ρ g = .ok (rangeD 0 w, g)) (hv : notOwn ρ c = true) (hc : c < ρ.length) (hr : r ≠ c) (h4 : ρ[r]? = some (.frz (.int y))) :
    vComp fi (tgN c) [c] (vC (.bl true)) (vTup (aCons (vVar c) (aCons (vVar r) (aNil)))) ρ g = .ok (.lst (cellsD ((rng 0 w).map fun x => (x, y))), g) := by
  have cp := compL_intA (i := c) (fe := vTup (aCons (vVar c) (aCons (vVar r) (aNil)))) (ρ := wipeD ρ [c]) (g := g) (q := fun x => cellD (x, y)) (xs := rng 0 w) (by show c < (ρ.set c .none).length; rw [List.length_set]; exact hc) (fun x _ => by
    have e1 : vVar c ((wipeD ρ [c]).set c (.frz (.int x))) g = .ok (.int x, g) := by
      unfold vVar
      rw [show ((wipeD ρ [c]).set c (.frz (.int x)))[c]? = some (.frz (.int x)) by
        show ((ρ.set c .none).set c _)[c]? = _
        rw [List.getElem?_set_self (by rw [List.length_set]; exact hc)]]
    have e2 : vVar r ((wipeD ρ [c]).set c (.frz (.int x))) g = .ok (.int y, g) := by
      unfold vVar
      rw [show ((wipeD ρ [c]).set c (.frz (.int x)))[r]? = some (.frz (.int y)) by
        show ((ρ.set c .none).set c _)[r]? = _
        rw [List.getElem?_set_ne hr.symm, List.getElem?_set_ne hr.symm, h4]]
    exact tup_ok (aC_ok e1 (aC_ok e2 a0_ok)) (by have := big; simp; omega))
  have := comp_ok (vs := [c]) (t := tgN c) (by rw [rangeD_eq] at hi; exact hi) (by show (notOwn ρ c && true) = true; rw [hv]; rfl) cp
  rw [this]
  unfold cellsD
  rw [List.map_map]
  rfl
theorem lines_of_ok {w h : Nat} (hw : w ≤ 8) (hh : h ≤ 8) (tn : Bool) (g : G) : f_lines_of [.int (w : Nat), .int (h : Nat), .bl tn] g = .ok (.lst (cellsD (linesM w h tn)), g) := by
  have hbig := big
  let F : List (Int × Int) → Slot → Slot → Slot → En := fun cs a b c => [.frz (.int (w : Nat)), .frz (.int (h : Nat)), .frz (.bl tn), .own (.lst (cellsD cs)), a, b, c]
  have loop := forL_inv (t := tgN 4) (body := sSeq (sSet 5 (vComp (itR1 (vVar 0)) (tgN 6) (List.map (·.2) ([("column", 6)] : List (Str × Nat))) (vC (.bl true)) (vTup (aCons (vVar 6) (aCons (vVar 4) (aNil)))))) (sExt 3 (vIf (vAnd (bVar 2) (v2 (pureK2 D.eqD) (v2 (pureK2 D.mod) (bVar 4) (vC (.int 2))) (vC (.int 1)))) (v1 (pureK1 D.revD) (bVar 5)) (vVar 5))))
    (fun n ρ g' => g' = g ∧ n ≤ 8 ∧ ∃ a b, ρ = F (linesM w n tn) a b .none) (ds := rangeD 0 h) (k := 0) (ρ := F [] .none .none .none) (g := g) ⟨rfl, by omega, .none, .none, rfl⟩ (fun j d ρ g' hd hI => by
      obtain ⟨rfl, _, a, b, rfl⟩ := hI
      obtain ⟨rfl, hj⟩ := rangeD_get hd
      rw [Nat.zero_add]
      have s1 := set_ok (i := 5) (line_comp (w := w) (y := (j : Int)) (r := 4) (c := 6) (fi := itR1 (vVar 0)) (ρ := F (linesM w j tn) (.frz (.int (j : Nat))) b .none) (g := g') (by rw [r1_ok (j := (w : Int)) rfl ⟨by omega, by omega⟩]; simp) rfl (by simp [F]) (by decide) rfl) (by simp [F])
      have s2 := ext_ok (i := 3) (ρ := F (linesM w j tn) (.frz (.int (j : Nat))) (.frz (.lst (cellsD ((rng 0 w).map fun x => (x, (j : Int)))))) .none) (g := g') (xs := cellsD (linesM w j tn)) rfl (row_val (w := w) (y := (j : Int)) (tn := tn) (b := 2) (r := 4) (l := 5) rfl rfl rfl) (by
        have := linesM_len w tn j
        have : j * w ≤ 8 * 8 := Nat.mul_le_mul (by omega) hw
        rw [cellsD_len, cellsD_len, rowM_len]
        omega)
      rw [← cellsD_app, ← linesM_succ] at s2
      exact ⟨_, _, g', .nx, rfl, (seq_nx s1).trans s2, .inl rfl, rfl, by omega, .frz (.int (j : Nat)), _, rfl⟩)
  obtain ⟨ρ', g', l1, rfl, _, a, b, rfl⟩ := loop
  rw [Nat.zero_add, rangeD_len] at l1
  have it : itR1 (vVar 1) (F [] .none .none .none) g' = .ok (rangeD 0 h, g') := by
    rw [r1_ok (j := (h : Int)) rfl ⟨by omega, by omega⟩]; simp
  exact run_ret ((seq_nx (ρ1 := F [] .none .none .none) (g1 := g') rfl).trans ((seq_nx ((for_ok it).trans l1)).trans ((fz_own rfl).trans (ret_ok rfl))))
theorem law_lines_ok {w h : Nat} (hw : w ≤ 8) (hh : h ≤ 8) (tn : Bool) (g : G) : f__law_lines [.int (w : Nat), .int (h : Nat), .bl tn] g = .ok (.lst (cellsD (linesM w h tn)), g) := by
  have hbig := big
  let F : List (Int × Int) → Slot → Slot → Slot → En := fun cs a b c => [.frz (.int (w : Nat)), .frz (.int (h : Nat)), .frz (.bl tn), .frz (.lst (cellsD cs)), a, b, c]
  have loop := forL_inv (t := tgN 4) (body := sSeq (sSet 5 (vComp (itR1 (vVar 0)) (tgN 6) (List.map (·.2) ([("x", 6)] : List (Str × Nat))) (vC (.bl true)) (vTup (aCons (vVar 6) (aCons (vVar 4) (aNil)))))) (sSet 3 (v2 (pureK2 D.add) (bVar 3) (vIf (vAnd (bVar 2) (v2 (pureK2 D.eqD) (v2 (pureK2 D.mod) (bVar 4) (vC (.int 2))) (vC (.int 1)))) (v1 (pureK1 D.revD) (bVar 5)) (vVar 5)))))
    (fun n ρ g' => g' = g ∧ n ≤ 8 ∧ ∃ a b, ρ = F (linesM w n tn) a b .none) (ds := rangeD 0 h) (k := 0) (ρ := F [] .none .none .none) (g := g) ⟨rfl, by omega, .none, .none, rfl⟩ (fun j d ρ g' hd hI => by
      obtain ⟨rfl, _, a, b, rfl⟩ := hI
      obtain ⟨rfl, hj⟩ := rangeD_get hd
      rw [Nat.zero_add]
      have s1 := set_ok (i := 5) (line_comp (w := w) (y := (j : Int)) (r := 4) (c := 6) (fi := itR1 (vVar 0)) (ρ := F (linesM w j tn) (.frz (.int (j : Nat))) b .none) (g := g') (by rw [r1_ok (j := (w : Int)) rfl ⟨by omega, by omega⟩]; simp) rfl (by simp [F]) (by decide) rfl) (by simp [F])
      have s2 := set_ok (i := 3) (ρ := F (linesM w j tn) (.frz (.int (j : Nat))) (.frz (.lst (cellsD ((rng 0 w).map fun x => (x, (j : Int)))))) .none) (g := g') (d := .lst (cellsD (linesM w (j + 1) tn))) (v2_ok (k := D.add) (fa := bVar 3) (x := .lst (cellsD (linesM w j tn))) rfl (row_val (w := w) (y := (j : Int)) (tn := tn) (b := 2) (r := 4) (l := 5) rfl rfl rfl) (by
        rw [linesM_succ, cellsD_app]
        have := linesM_len w tn j
        have : j * w ≤ 8 * 8 := Nat.mul_le_mul (by omega) hw
        exact add_lst (by rw [cellsD_len, cellsD_len, rowM_len]; omega))) (by simp [F])
      exact ⟨_, _, g', .nx, rfl, (seq_nx s1).trans s2, .inl rfl, rfl, by omega, .frz (.int (j : Nat)), _, rfl⟩)
  obtain ⟨ρ', g', l1, rfl, _, a, b, rfl⟩ := loop
  rw [Nat.zero_add, rangeD_len] at l1
  have it : itR1 (vVar 1) (F [] .none .none .none) g' = .ok (rangeD 0 h, g') := by
    rw [r1_ok (j := (h : Int)) rfl ⟨by omega, by omega⟩]; simp
  exact run_ret ((seq_nx (ρ1 := F [] .none .none .none) (g1 := g') rfl).trans ((seq_nx ((for_ok it).trans l1)).trans (ret_ok rfl)))
end GD
end RP
end L2
set_option Elab.async false
set_option linter.all false
set_option maxRecDepth 100000
namespace L2
namespace RP
namespace GD
open PySem PySem.Spec PyProof.Rows
/-- cells, each one once, all in their places: the ones that were are the bits of m -/
def chk (w h : Nat) : List (Int × Int) → Nat → Bool
  | [], _ => true
  | (.ofNat a, .ofNat b) :: cs, m => Nat.blt a w && (Nat.blt b h && (!(m.testBit (b * 8 + a)) && chk w h cs (m ||| 2 ^ (b * 8 + a))))
  | _ :: _, _ => false
theorem chk_spec {w h : Nat} (hw : w ≤ 8) : ∀ {cs : List (Int × Int)} {m : Nat}, chk w h cs m = true →
    (∀ c ∈ cs, (0 ≤ c.1 ∧ c.1 < w) ∧ (0 ≤ c.2 ∧ c.2 < h)) ∧ cs.Nodup ∧ ∀ c ∈ cs, m.testBit (c.2.toNat * 8 + c.1.toNat) = false
  | [], _, _ => ⟨by simp, List.nodup_nil, by simp⟩
  | (.ofNat a, .ofNat b) :: cs, m, e => by
    have e : (Nat.blt a w && (Nat.blt b h && (!(m.testBit (b * 8 + a)) && chk w h cs (m ||| 2 ^ (b * 8 + a))))) = true := e
    simp only [Bool.and_eq_true, Bool.not_eq_true'] at e
    obtain ⟨e1, e2, e3, e4⟩ := e
    have e1 : a < w := by simpa [Nat.blt_eq] using e1
    have e2 : b < h := by simpa [Nat.blt_eq] using e2
    obtain ⟨i1, i2, i3⟩ := chk_spec hw e4
    have out : ∀ c ∈ cs, m.testBit (c.2.toNat * 8 + c.1.toNat) = false ∧ c.2.toNat * 8 + c.1.toNat ≠ b * 8 + a := fun c hc => by
      have := i3 c hc
      rw [Nat.testBit_or, Bool.or_eq_false_iff] at this
      refine ⟨this.1, fun z => ?_⟩
      rw [z, Nat.testBit_two_pow_self] at this
      exact absurd this.2 (by simp)
    refine ⟨fun c hc => ?_, List.nodup_cons.mpr ⟨fun hm => ?_, i2⟩, fun c hc => ?_⟩
    · rcases List.mem_cons.mp hc with rfl | hc
      · exact ⟨⟨Int.natCast_nonneg a, by show (a : Int) < w; omega⟩, ⟨Int.natCast_nonneg b, by show (b : Int) < h; omega⟩⟩
      · exact i1 c hc
    · exact (out _ hm).2 rfl
    · rcases List.mem_cons.mp hc with rfl | hc
      · exact e3
      · exact (out c hc).1
  | (.ofNat _, .negSucc _) :: _, _, e => by simp [chk] at e
  | (.negSucc _, .ofNat _) :: _, _, e => by simp [chk] at e
  | (.negSucc _, .negSucc _) :: _, _, e => by simp [chk] at e
/-- numbers that rise, from lo on, below m -/
def rise (m : Nat) : Nat → List Int → Bool
  | _, [] => true
  | lo, .ofNat a :: xs => Nat.ble lo a && (Nat.blt a m && rise m (a + 1) xs)
  | _, .negSucc _ :: _ => false
theorem rise_spec {m : Nat} : ∀ {xs : List Int} {lo : Nat}, rise m lo xs = true → xs.Nodup ∧ ∀ x ∈ xs, (lo : Int) ≤ x ∧ x < m
  | [], _, _ => ⟨List.nodup_nil, by simp⟩
  | .ofNat a :: xs, lo, e => by
    have e : (Nat.ble lo a && (Nat.blt a m && rise m (a + 1) xs)) = true := e
    simp only [Bool.and_eq_true] at e
    obtain ⟨e1, e2, e3⟩ := e
    have e1 : lo ≤ a := Nat.le_of_ble_eq_true e1
    have e2 : a < m := by simpa [Nat.blt_eq] using e2
    obtain ⟨i1, i2⟩ := rise_spec e3
    refine ⟨List.nodup_cons.mpr ⟨fun hm => ?_, i1⟩, fun x hx => ?_⟩
    · have := (i2 _ hm).1
      have : ((a + 1 : Nat) : Int) ≤ (a : Int) := this
      omega
    · rcases List.mem_cons.mp hx with rfl | hx
      · exact ⟨by show (lo : Int) ≤ (a : Int); omega, by show (a : Int) < m; omega⟩
      · have := i2 x hx
        omega
  | .negSucc _ :: _, _, e => by simp [rise] at e
theorem gw_of {w h : Nat} {cs : List (Int × Int)} {st : List Int} (hw : 1 ≤ w ∧ w ≤ 8) (hh : 1 ≤ h ∧ h ≤ 8) (hc : chk w h cs 0 = true) (hl : cs.length = w * h) (hs : rise (w * h) 0 st = true) : GW (w : Nat) (h : Nat) cs st :=
  have a := chk_spec hw.2 hc
  have b := rise_spec hs
  ⟨by omega, by omega, by rw [hl]; exact Int.natCast_mul w h, a.1, a.2.1, b.1, fun s hs' => by have := b.2 s hs'; rw [Int.natCast_mul] at this; exact this⟩
theorem lines_all : ((List.range 8).all fun w => (List.range 8).all fun h => chk (w + 1) (h + 1) (linesM (w + 1) (h + 1) false) 0 && chk (w + 1) (h + 1) (linesM (w + 1) (h + 1) true) 0) = true := by decide +kernel
/-- a tile -/
def tileM (w h a d : Nat) (tn : Bool) (i j : Nat) : List (Int × Int) := (linesM (min a (w - j * a)) (min d (h - i * d)) tn).map fun c => (((j * a : Nat) : Int) + c.1, ((i * d : Nat) : Int) + c.2)
abbrev TS := List (Int × Int) × List Int
def stepT (w h a d : Nat) (tn : Bool) (s : TS) (p : Nat × Nat) : TS := (s.1 ++ tileM w h a d tn p.1 p.2, s.2 ++ [(s.1.length : Int)])
def many (n c : Nat) : Nat := (n + c - 1) / c
def pairsT (nY nX : Nat) : List (Nat × Nat) := (List.range nY).flatMap fun i => (List.range nX).map fun j => (i, j)
def tilesM (w h a d : Nat) (tn : Bool) : TS := (pairsT (many h d) (many w a)).foldl (stepT w h a d tn) ([], [])
end GD
end RP
end L2
set_option Elab.async false
set_option linter.all false
set_option maxRecDepth 100000
namespace L2
namespace RP
namespace GD
open PySem PySem.Spec PyProof.Rows
theorem noRows_cells : ∀ cs : List (Int × Int), D.noRows (cellsD cs) = true
  | [] => rfl
  | c :: cs => by
    show ((true && (true && true)) && D.noRows (cellsD cs)) = true
    rw [noRows_cells cs]; rfl
theorem range_at {n k : Nat} (h : k < n) : k ∈ List.range n := List.mem_range.mpr h
theorem lines_chk {w h : Nat} (hw : 1 ≤ w ∧ w ≤ 8) (hh : 1 ≤ h ∧ h ≤ 8) (tn : Bool) : chk w h (linesM w h tn) 0 = true := by
  have a := List.all_eq_true.mp (List.all_eq_true.mp lines_all (w - 1) (range_at (by omega))) (h - 1) (range_at (by omega))
  rw [Bool.and_eq_true, show w - 1 + 1 = w by omega, show h - 1 + 1 = h by omega] at a
  cases tn
  · exact a.1
  · exact a.2
theorem lines_gw {w h : Nat} (hw : 1 ≤ w ∧ w ≤ 8) (hh : 1 ≤ h ∧ h ≤ 8) (tn : Bool) : GW (w : Nat) (h : Nat) (linesM w h tn) [0] :=
  gw_of hw hh (lines_chk hw hh tn) (by rw [linesM_len, Nat.mul_comm]) (by
    have : 0 < w * h := Nat.mul_pos (by omega) (by omega)
    show (Nat.ble 0 0 && (Nat.blt 0 (w * h) && true)) = true
    simp [Nat.blt_eq, this])
theorem gw_len {w h : Int} {cs : List (Int × Int)} {st : List Int} (gw : GW w h cs st) : cs.length ≤ 64 := by
  have := gw.len
  have h1 : w * h ≤ 8 * 8 := Int.mul_le_mul gw.hw.2 gw.hh.2 (by have := gw.hh; omega) (by omega)
  omega
theorem gw_st {w h : Int} {cs : List (Int × Int)} {st : List Int} (gw : GW w h cs st) : st.length ≤ 64 := by
  have h1 : w * h ≤ 8 * 8 := Int.mul_le_mul gw.hw.2 gw.hh.2 (by have := gw.hh; omega) (by omega)
  have := nodup_len (lo := 0) (hi := 63) gw.sn fun x hx => by have := gw.sr x hx; omega
  omega
/-- a walk in an expression -/
theorem make_walk {w h : Int} {o s : D} {cs : List (Int × Int)} {st : List Int} (gw : GW w h cs st) (ho : isSeqD o (cellsD cs)) (hs : isSeqD s (dI st)) {fr : SEs} {ρ : En} {g : G} (hf : fr ρ g = .ok ([.int w, .int h, o, s], g)) : vMake mk_Walk fr ρ g = .ok (walkO w h cs (startsS st), g) := by
  refine make_ok hf ?_ (walk_made gw ho hs (by have := gw_st gw; omega) g) ?_
  · have n1 : o.noRow = true := by rcases ho with rfl | rfl <;> exact noRows_cells cs
    have n2 : s.noRow = true := by rcases hs with rfl | rfl <;> exact noRows_dI st
    show (true && (true && (o.noRow && (s.noRow && true)))) = true
    rw [n1, n2]; rfl
  · show (true && (true && (D.noRows (cellsD cs) && (D.noRows (dI (startsS st)) && true)))) = true
    rw [noRows_cells, noRows_dI]; rfl
section
variable {w h : Nat}
theorem rows_walk_ok (hw : 1 ≤ w ∧ w ≤ 8) (hh : 1 ≤ h ∧ h ≤ 8) (g : G) : f_rows_walk [.int (w : Nat), .int (h : Nat)] g = .ok (walkO w h (linesM w h false) (startsS [0]), g) :=
  run_ret ((seq_nx (expr_ok ((call_ok (ds := [.int (w : Nat), .int (h : Nat)]) (g1 := g) rfl).trans (check_size_ok (by omega) (by omega) g)))).trans (ret_ok (make_walk (lines_gw hw hh false) (.inl rfl) (.inl rfl) (aC_ok rfl (aC_ok rfl (aC_ok ((call_ok (ds := [.int (w : Nat), .int (h : Nat), .bl false]) (g1 := g) rfl).trans (lines_of_ok hw.2 hh.2 false g)) rfl))))))
theorem snake_walk_ok (hw : 1 ≤ w ∧ w ≤ 8) (hh : 1 ≤ h ∧ h ≤ 8) (g : G) : f_snake_walk [.int (w : Nat), .int (h : Nat)] g = .ok (walkO w h (linesM w h true) (startsS [0]), g) :=
  run_ret ((seq_nx (expr_ok ((call_ok (ds := [.int (w : Nat), .int (h : Nat)]) (g1 := g) rfl).trans (check_size_ok (by omega) (by omega) g)))).trans (ret_ok (make_walk (lines_gw hw hh true) (.inl rfl) (.inl rfl) (aC_ok rfl (aC_ok rfl (aC_ok ((call_ok (ds := [.int (w : Nat), .int (h : Nat), .bl true]) (g1 := g) rfl).trans (lines_of_ok hw.2 hh.2 true g)) rfl))))))
end
theorem plain_cells {n : Nat} : ∀ x ∈ [D.int 0], plainD n x := fun x hx => by simp at hx; subst hx; cases n <;> trivial
theorem plain_cellsT {cs : List (Int × Int)} (hl : cs.length ≤ 1000) : plainD 4 (.tup (cellsD cs)) := ⟨by rw [cellsD_len]; omega, fun x hx => by
  obtain ⟨c, _, rfl⟩ := List.mem_map.mp hx
  exact ⟨by simp, fun y hy => by
    simp only [List.mem_cons, List.not_mem_nil, or_false] at hy
    rcases hy with rfl | rfl <;> trivial⟩⟩
/-- a walk is of its parts -/
theorem law_is_ok {w h : Int} {cs : List (Int × Int)} {st st' : List Int} (hc : cs.length ≤ 1000) (hl : st'.length ≤ 900) (hm : ∀ k, k ∈ st ++ [0] ↔ k ∈ st' ++ [0]) (g : G) : f__law_is [walkO w h cs (startsS st), .int w, .int h, .lst (cellsD cs), .lst (dI st')] g = .ok (.bl true, g) := by
  have hbig := big
  obtain ⟨ys, e, s, m, l⟩ := unlike_ok (st' ++ [0]) (by simp; omega) g
  have ey : ys = startsS st := lt_uniq s (sortU_lt _) fun k => (m k).trans ((hm k).symm.trans (sortU_mem _ k).symm)
  rw [ey] at e l
  have pl : plainD 5 (.lst [.int w, .int h, .tup (cellsD cs), .tup (dI (startsS st))]) := ⟨by simp, fun x hx => by
    simp only [List.mem_cons, List.not_mem_nil, or_false] at hx
    rcases hx with rfl | rfl | rfl | rfl
    · trivial
    · trivial
    · exact plain_cellsT hc
    · exact ⟨by rw [dI_len]; simp at l; omega, plain_ints⟩⟩
  let ρ0 : En := [.frz (walkO w h cs (startsS st)), .frz (.int w), .frz (.int h), .frz (.lst (cellsD cs)), .frz (.lst (dI st')), .none]
  have u : v2 (pureK2 D.add) (bVar 4) (vLst (aCons (vC (.int 0)) (aNil))) ρ0 g = .ok (.lst (dI (st' ++ [0])), g) := v2_ok (k := D.add) (x := .lst (dI st')) (y := .lst (dI [0])) rfl rfl (by rw [dI_app]; exact add_lst (by rw [dI_len, dI_len]; simp; omega))
  have s1 := set_ok (i := 5) (ρ := ρ0) (f := vLst (aCons (vVar 1) (aCons (vVar 2) (aCons (v1 (pureK1 D.tupleD) (bVar 3)) (aCons (v1 (pureK1 D.tupleD) (vCall f__law_unlike (aCons (v2 (pureK2 D.add) (bVar 4) (vLst (aCons (vC (.int 0)) (aNil)))) (aNil)))) (aNil)))))) (lst_ok (ds := [.int w, .int h, .tup (cellsD cs), .tup (dI (startsS st))]) (aC_ok rfl (aC_ok rfl (aC_ok rfl (aC_ok (v1_ok (k := D.tupleD) ((call_ok (ds := [.lst (dI (st' ++ [0]))]) (aC_ok u a0_ok)).trans e) rfl) a0_ok)))) (by simp; omega)) (by simp [ρ0])
  exact run_ret ((seq_nx s1).trans (ret_ok ((call_ok (ds := [.lst [.int w, .int h, .tup (cellsD cs), .tup (dI (startsS st))], .lst [.int w, .int h, .tup (cellsD cs), .tup (dI (startsS st))]]) (g1 := g) rfl).trans (alike_self (n := 5) pl))))
end GD
end RP
end L2
set_option Elab.async false
set_option linter.all false
set_option maxRecDepth 100000
namespace L2
namespace RP
namespace GD
open PySem PySem.Spec PyProof.Rows
theorem mem_row {w : Nat} {y : Int} {tn : Bool} {c : Int × Int} : c ∈ rowM w y tn ↔ (0 ≤ c.1 ∧ c.1 < w) ∧ c.2 = y := by
  have e : c ∈ (rng 0 w).map (fun x => (x, y)) ↔ (0 ≤ c.1 ∧ c.1 < w) ∧ c.2 = y := by
    rw [List.mem_map]
    constructor
    · rintro ⟨x, hx, rfl⟩
      rw [mem_rng] at hx
      exact ⟨by omega, rfl⟩
    · rintro ⟨h1, h2⟩
      exact ⟨c.1, mem_rng.mpr (by omega), by rw [← h2]⟩
  unfold rowM
  split
  · rw [List.mem_reverse]; exact e
  · exact e
theorem mem_lines {w h : Nat} {tn : Bool} {c : Int × Int} : c ∈ linesM w h tn ↔ (0 ≤ c.1 ∧ c.1 < w) ∧ (0 ≤ c.2 ∧ c.2 < h) := by
  unfold linesM
  rw [List.mem_flatMap]
  constructor
  · rintro ⟨y, hy, hc⟩
    rw [mem_rng] at hy
    obtain ⟨h1, h2⟩ := mem_row.mp hc
    exact ⟨h1, by omega⟩
  · rintro ⟨h1, h2⟩
    exact ⟨c.2, mem_rng.mpr (by omega), mem_row.mpr ⟨h1, rfl⟩⟩
theorem nodup_lines {w h : Nat} (hw : w ≤ 8) (hh : h ≤ 8) (tn : Bool) : (linesM w h tn).Nodup := by
  by_cases h1 : 1 ≤ w
  · by_cases h2 : 1 ≤ h
    · exact (lines_gw ⟨h1, hw⟩ ⟨h2, hh⟩ tn).nd
    · have : h = 0 := by omega
      subst this
      exact List.nodup_nil
  · have e : linesM w h tn = [] := List.eq_nil_of_length_eq_zero (by rw [linesM_len]; have : w = 0 := by omega
                                                                     rw [this, Nat.mul_zero])
    rw [e]
    exact List.nodup_nil
section
variable {w h a d : Nat} {tn : Bool}
theorem mem_tile {i j : Nat} {c : Int × Int} : c ∈ tileM w h a d tn i j ↔ (((j * a : Nat) : Int) ≤ c.1 ∧ c.1 < ((j * a + min a (w - j * a) : Nat) : Int)) ∧ (((i * d : Nat) : Int) ≤ c.2 ∧ c.2 < ((i * d + min d (h - i * d) : Nat) : Int)) := by
  unfold tileM
  rw [List.mem_map]
  constructor
  · rintro ⟨z, hz, rfl⟩
    obtain ⟨⟨p1, p2⟩, p3, p4⟩ := mem_lines.mp hz
    refine ⟨⟨?_, ?_⟩, ?_, ?_⟩
    · show ((j * a : Nat) : Int) ≤ ((j * a : Nat) : Int) + z.1; omega
    · show ((j * a : Nat) : Int) + z.1 < _; omega
    · show ((i * d : Nat) : Int) ≤ ((i * d : Nat) : Int) + z.2; omega
    · show ((i * d : Nat) : Int) + z.2 < _; omega
  · rintro ⟨⟨p1, p2⟩, p3, p4⟩
    exact ⟨(c.1 - ((j * a : Nat) : Int), c.2 - ((i * d : Nat) : Int)), mem_lines.mpr ⟨⟨by show 0 ≤ c.1 - _; omega, by show c.1 - _ < _; omega⟩, by show 0 ≤ c.2 - _; omega, by show c.2 - _ < _; omega⟩, by ext <;> simp <;> omega⟩
theorem at_tile {a j : Nat} {x : Int} (h1 : ((j * a : Nat) : Int) ≤ x) (h2 : x < ((j * a + a : Nat) : Int)) : x.toNat / a = j :=
  Nat.div_eq_of_lt_le (by omega) (by rw [Nat.add_mul, Nat.one_mul]; omega)
theorem fold_cells (ps : List (Nat × Nat)) (s : TS) : (ps.foldl (stepT w h a d tn) s).1 = s.1 ++ ps.flatMap fun p => tileM w h a d tn p.1 p.2 := by
  induction ps generalizing s with
  | nil => simp
  | cons p ps ih => rw [List.foldl_cons, ih, List.flatMap_cons]; simp [stepT]
theorem mem_pairs {nY nX : Nat} {p : Nat × Nat} : p ∈ pairsT nY nX ↔ p.1 < nY ∧ p.2 < nX := by
  unfold pairsT
  simp only [List.mem_flatMap, List.mem_map, List.mem_range]
  exact ⟨fun ⟨i, hi, j, hj, e⟩ => by rw [← e]; exact ⟨hi, hj⟩, fun ⟨h1, h2⟩ => ⟨p.1, h1, p.2, h2, rfl⟩⟩
theorem nodup_pairs (nY nX : Nat) : (pairsT nY nX).Nodup := by
  unfold pairsT
  rw [List.Nodup, List.pairwise_flatMap]
  refine ⟨fun i _ => ?_, ?_⟩
  · rw [List.pairwise_map]
    exact List.nodup_range.imp fun h e => h (Prod.ext_iff.mp e).2
  · refine List.nodup_range.imp fun h p hp q hq e => ?_
    obtain ⟨_, _, rfl⟩ := List.mem_map.mp hp
    obtain ⟨_, _, rfl⟩ := List.mem_map.mp hq
    exact h (Prod.ext_iff.mp e).1
/-- the cells of tiles are each one once -/
theorem tiles_nodup (hw : w ≤ 8) (hh : h ≤ 8) : ((pairsT (many h d) (many w a)).flatMap fun p => tileM w h a d tn p.1 p.2).Nodup := by
  rw [List.Nodup, List.pairwise_flatMap]
  refine ⟨fun p _ => ?_, (nodup_pairs _ _).imp fun {p q} hne c hc z hz e => ?_⟩
  · unfold tileM
    rw [List.pairwise_map]
    refine (nodup_lines (by omega) (by omega) tn).imp fun hn e => hn ?_
    have := Prod.ext_iff.mp e
    simp only at this
    exact Prod.ext (by omega) (by omega)
  · subst e
    obtain ⟨p1, p2⟩ := mem_tile.mp hc
    obtain ⟨q1, q2⟩ := mem_tile.mp hz
    have e1 : p.2 = q.2 := by rw [← at_tile (x := c.1) p1.1 (by omega), at_tile (x := c.1) q1.1 (by omega)]
    have e2 : p.1 = q.1 := by rw [← at_tile (x := c.2) p2.1 (by omega), at_tile (x := c.2) q2.1 (by omega)]
    exact hne (Prod.ext e2 e1)
theorem div_many {n c x : Nat} (hc : 1 ≤ c) (hx : x < n) : x / c < many n c := by
  unfold many
  rw [Nat.div_lt_iff_lt_mul (by omega)]
  have := Nat.div_add_mod (n + c - 1) c
  have := Nat.mod_lt (n + c - 1) (show 0 < c by omega)
  rw [Nat.mul_comm c] at *
  omega
theorem many_lt {n c j : Nat} (hc : 1 ≤ c) (hj : j < many n c) : j * c < n := by
  unfold many at hj
  have h1 : (j + 1) * c ≤ n + c - 1 := by
    have := Nat.div_mul_le_self (n + c - 1) c
    have := Nat.mul_le_mul_right c (show j + 1 ≤ (n + c - 1) / c by omega)
    omega
  rw [Nat.add_mul] at h1
  omega
theorem tiles_mem (ha : 1 ≤ a) (hd : 1 ≤ d) {c : Int × Int} : (c ∈ (pairsT (many h d) (many w a)).flatMap fun p => tileM w h a d tn p.1 p.2) ↔ (0 ≤ c.1 ∧ c.1 < w) ∧ (0 ≤ c.2 ∧ c.2 < h) := by
  rw [List.mem_flatMap]
  constructor
  · rintro ⟨p, hp, hc⟩
    obtain ⟨p1, p2⟩ := mem_tile.mp hc
    obtain ⟨b1, b2⟩ := mem_pairs.mp hp
    have := many_lt ha b2
    have := many_lt hd b1
    omega
  · rintro ⟨⟨h1, h2⟩, h3, h4⟩
    refine ⟨(c.2.toNat / d, c.1.toNat / a), mem_pairs.mpr ⟨div_many hd (by omega), div_many ha (by omega)⟩, mem_tile.mpr ?_⟩
    have x1 := Nat.div_mul_le_self c.1.toNat a
    have x2 := Nat.lt_div_mul_add (a := c.1.toNat) (show 0 < a by omega)
    have y1 := Nat.div_mul_le_self c.2.toNat d
    have y2 := Nat.lt_div_mul_add (a := c.2.toNat) (show 0 < d by omega)
    show (_ ∧ _) ∧ _ ∧ _
    simp only
    generalize c.1.toNat / a * a = A at *
    generalize c.2.toNat / d * d = B at *
    omega
/-- where the tiles begin -/
theorem fold_starts (hw : w ≤ 8) (ha : 1 ≤ a) (hd : 1 ≤ d) : ∀ (ps : List (Nat × Nat)) (s : TS), (∀ p ∈ ps, p.1 < many h d ∧ p.2 < many w a) → s.2.Pairwise (· < ·) → (∀ x ∈ s.2, 0 ≤ x ∧ x < s.1.length) →
    (ps.foldl (stepT w h a d tn) s).2.Pairwise (· < ·) ∧ ∀ x ∈ (ps.foldl (stepT w h a d tn) s).2, 0 ≤ x ∧ x < (ps.foldl (stepT w h a d tn) s).1.length
  | [], s, _, h1, h2 => ⟨h1, h2⟩
  | p :: ps, s, hp, h1, h2 => by
    have tl : 1 ≤ (tileM w h a d tn p.1 p.2).length := by
      obtain ⟨b1, b2⟩ := hp p List.mem_cons_self
      have := many_lt ha b2
      have := many_lt hd b1
      unfold tileM
      rw [List.length_map, linesM_len]
      exact Nat.mul_pos (by omega) (by omega)
    refine fold_starts hw ha hd ps (stepT w h a d tn s p) (fun q hq => hp q (List.mem_cons_of_mem _ hq)) ?_ fun x hx => ?_
    · show (s.2 ++ [(s.1.length : Int)]).Pairwise _
      rw [List.pairwise_append]
      exact ⟨h1, by simp, fun x hx y hy => by simp at hy; subst hy; exact (h2 x hx).2⟩
    · have hx : x ∈ s.2 ++ [(s.1.length : Int)] := hx
      show 0 ≤ x ∧ x < ((s.1 ++ tileM w h a d tn p.1 p.2).length : Int)
      rw [List.length_append]
      rcases List.mem_append.mp hx with hx | hx
      · have := h2 x hx; omega
      · simp at hx; omega
theorem tiles_gw (hw : 1 ≤ w ∧ w ≤ 8) (hh : 1 ≤ h ∧ h ≤ 8) (ha : 1 ≤ a) (hd : 1 ≤ d) : GW (w : Nat) (h : Nat) (tilesM w h a d tn).1 (tilesM w h a d tn).2 := by
  have e : (tilesM w h a d tn).1 = (pairsT (many h d) (many w a)).flatMap fun p => tileM w h a d tn p.1 p.2 := by
    unfold tilesM
    rw [fold_cells]
    rfl
  have nd := tiles_nodup (a := a) (d := d) (tn := tn) hw.2 hh.2
  have len : (tilesM w h a d tn).1.length = w * h := by
    rw [e, ((List.perm_ext_iff_of_nodup nd (nodup_lines hw.2 hh.2 false)).mpr fun c => (tiles_mem ha hd).trans mem_lines.symm).length_eq, linesM_len, Nat.mul_comm]
  have st := fold_starts (tn := tn) hw.2 ha hd (pairsT (many h d) (many w a)) ([], []) (fun p hp => mem_pairs.mp hp) List.Pairwise.nil (by simp)
  refine ⟨by omega, by omega, by rw [len]; exact Int.natCast_mul w h, fun c hc => ?_, by rw [e]; exact nd, st.1.imp fun h => by omega, fun s hs => ?_⟩
  · rw [e] at hc
    exact (tiles_mem ha hd).mp hc
  · have := st.2 s hs
    have el : ((((pairsT (many h d) (many w a)).foldl (stepT w h a d tn) ([], [])).1.length : Nat) : Int) = w * h := by
      have : ((pairsT (many h d) (many w a)).foldl (stepT w h a d tn) ([], [])).1.length = w * h := len
      rw [this]; exact Int.natCast_mul w h
    rw [el] at this
    exact this
end
end GD
end RP
end L2
set_option Elab.async false
set_option linter.all false
set_option maxRecDepth 100000
namespace L2
namespace RP
namespace GD
open PySem PySem.Spec PyProof.Rows
theorem rangeC_get {lo c : Int} {n j : Nat} {d : D} (h : (rangeC lo c n)[j]? = some d) : d = .int (lo + (j : Nat) * c) ∧ j < n := by
  unfold rangeC at h
  rw [List.getElem?_map] at h
  obtain ⟨k, hk, rfl⟩ := Option.map_eq_some_iff.mp h
  obtain ⟨h1, h2⟩ := List.getElem?_eq_some_iff.mp hk
  simp at h1 h2
  exact ⟨by rw [← h2], h1⟩
theorem rangeC_len {lo c : Int} {n : Nat} : (rangeC lo c n).length = n := by simp [rangeC]
theorem steps_all : ((List.range 9).all fun n => (List.range 9).all fun c => c == 0 || (Builtin.Range.small 0 (n : Nat) (c : Nat) && decide (Builtin.Range.rangeSize 0 (n : Nat) (c : Nat) = (many n c : Nat)))) = true := by decide +kernel
theorem r3_ok {fa fb fc : SE} {ρ : En} {g : G} {n c : Nat} (hn : n ≤ 8) (hc : 1 ≤ c ∧ c ≤ 8) (h1 : fa ρ g = .ok (.int 0, g)) (h2 : fb ρ g = .ok (.int (n : Nat), g)) (h3 : fc ρ g = .ok (.int (c : Nat), g)) : itR3 fa fb fc ρ g = .ok (rangeC 0 (c : Nat) (many n c), g) := by
  have a := List.all_eq_true.mp (List.all_eq_true.mp steps_all n (range_at (by omega))) c (range_at (by omega))
  rw [Bool.or_eq_true] at a
  rcases a with a | a
  · have : c = 0 := by simpa using a
    omega
  · rw [Bool.and_eq_true, decide_eq_true_eq] at a
    obtain ⟨a1, a2⟩ := a
    unfold itR3
    rw [h1]
    simp only [Res.bind_ok]
    rw [h2]
    simp only [Res.bind_ok]
    rw [h3]
    simp only [Res.bind_ok]
    have mb : many n c ≤ 16 := by
      unfold many
      exact Nat.le_trans (Nat.div_le_self _ _) (by omega)
    rw [if_pos ⟨by omega, by simp; omega, a1, by rw [a2]; omega⟩, a2]
    simp
theorem compL_cells {i k : Nat} {fe : SE} {ρ : En} {g : G} {q : Int × Int → D} {cs : List (Int × Int)} (hi : i < ρ.length) (hk : k < ρ.length) (h : ∀ c ∈ cs, fe ((ρ.set i (.frz (.int c.1))).set k (.frz (.int c.2))) g = .ok (q c, g)) : compL (tgT 2 (tgsCons (tgN i) (tgsCons (tgN k) tgsNil))) (vC (.bl true)) fe (cellsD cs) ρ g = .ok (cs.map q, g) := by
  induction cs with
  | nil => rfl
  | cons c cs ih =>
    show compL _ _ _ (cellD c :: cellsD cs) ρ g = _
    unfold compL
    have t : tgT 2 (tgsCons (tgN i) (tgsCons (tgN k) tgsNil)) (cellD c) ρ = some ((ρ.set i (.frz (.int c.1))).set k (.frz (.int c.2))) := by
      show (if (2 : Nat) = 2 then (tgN i (.int c.1) ρ).bind (tgsCons (tgN k) tgsNil [.int c.2]) else none) = _
      rw [if_pos rfl]
      unfold tgN
      rw [if_pos hi]
      show (tgN k (.int c.2) (ρ.set i (.frz (.int c.1)))).bind _ = _
      unfold tgN
      rw [List.length_set, if_pos hk]
      rfl
    rw [t]
    simp only [vC, D.truth]
    rw [h c List.mem_cons_self]
    dsimp only
    rw [ih fun x hx => h x (List.mem_cons_of_mem _ hx)]
    rfl
section
variable {ρ : En} {g g1 g2 : G} {f : SE} {x : D}
theorem par_ok {is : List Nat} {m : SEm} {vs : List (Bool × D)} (h : m ρ g = .ok (vs, g1)) (hl : is.length = vs.length) (hi : is.all (· < ρ.length) = true) : sPar is m ρ g = .ok (.nx, setD ρ is vs, g1) := by
  unfold sPar
  rw [h]
  simp only [Res.bind_ok]
  rw [if_pos ⟨hl, hi⟩]
theorem mF_ok {r : SEm} {vs : List (Bool × D)} (h : f ρ g = .ok (x, g1)) (hr : r ρ g1 = .ok (vs, g2)) : mF f r ρ g = .ok ((false, x) :: vs, g2) := by
  unfold mF
  rw [h]
  simp only [Res.bind_ok]
  rw [hr]
  rfl
theorem mO_ok {r : SEm} {vs : List (Bool × D)} (h : f ρ g = .ok (x, g1)) (hr : r ρ g1 = .ok (vs, g2)) : mO f r ρ g = .ok ((true, x) :: vs, g2) := by
  unfold mO
  rw [h]
  simp only [Res.bind_ok]
  rw [hr]
  rfl
end
/-- cells moved -/
theorem moved_comp {cs : List (Int × Int)} {x y : Int} {cx cy i k : Nat} {fi : SEs} {ρ : En} {g : G} (hf : fi ρ g = .ok (cellsD cs, g)) (hi : i < ρ.length) (hk : k < ρ.length) (hvi : notOwn ρ i = true) (hvk : notOwn ρ k = true) (hx : ρ[cx]? = some (.frz (.int x))) (hy : ρ[cy]? = some (.frz (.int y)))
    (hik : i ≠ k) (n1 : cx ≠ i) (n2 : cx ≠ k) (n3 : cy ≠ i) (n4 : cy ≠ k) :
    vComp fi (tgT 2 (tgsCons (tgN i) (tgsCons (tgN k) tgsNil))) [i, k] (vC (.bl true)) (vTup (aCons (v2 (pureK2 D.add) (bVar cx) (bVar i)) (aCons (v2 (pureK2 D.add) (bVar cy) (bVar k)) (aNil)))) ρ g = .ok (.lst (cellsD (cs.map fun c => (x + c.1, y + c.2))), g) := by
  have hw : wipeD ρ [i, k] = (ρ.set k .none).set i .none := rfl
  have cp := compL_cells (i := i) (k := k) (fe := vTup (aCons (v2 (pureK2 D.add) (bVar cx) (bVar i)) (aCons (v2 (pureK2 D.add) (bVar cy) (bVar k)) (aNil)))) (ρ := wipeD ρ [i, k]) (g := g) (q := fun c => cellD (x + c.1, y + c.2)) (cs := cs) (by rw [hw]; simpa using hi) (by rw [hw]; simpa using hk) (fun c _ => by
    rw [hw]
    have e1 : bVar cx ((((ρ.set k .none).set i .none).set i (.frz (.int c.1))).set k (.frz (.int c.2))) g = .ok (.int x, g) := by
      unfold bVar
      rw [List.getElem?_set_ne n2.symm, List.getElem?_set_ne n1.symm, List.getElem?_set_ne n1.symm, List.getElem?_set_ne n2.symm, hx]
    have e2 : bVar cy ((((ρ.set k .none).set i .none).set i (.frz (.int c.1))).set k (.frz (.int c.2))) g = .ok (.int y, g) := by
      unfold bVar
      rw [List.getElem?_set_ne n4.symm, List.getElem?_set_ne n3.symm, List.getElem?_set_ne n3.symm, List.getElem?_set_ne n4.symm, hy]
    have e3 : bVar i ((((ρ.set k .none).set i .none).set i (.frz (.int c.1))).set k (.frz (.int c.2))) g = .ok (.int c.1, g) := by
      unfold bVar
      rw [List.getElem?_set_ne hik.symm, List.getElem?_set_self (by simpa using hi)]
    have e4 : bVar k ((((ρ.set k .none).set i .none).set i (.frz (.int c.1))).set k (.frz (.int c.2))) g = .ok (.int c.2, g) := by
      unfold bVar
      rw [List.getElem?_set_self (by simpa using hk)]
    exact tup_ok (aC_ok (v2_ok (k := D.add) e1 e3 rfl) (aC_ok (v2_ok (k := D.add) e2 e4 rfl) a0_ok)) (by have := big; simp; omega))
  rw [comp_ok (vs := [i, k]) hf (by show (notOwn ρ i && (notOwn ρ k && true)) = true; rw [hvi, hvk]; rfl) cp]
  unfold cellsD
  rw [List.map_map]
  rfl
theorem min2_nat (a b : Nat) : D.min2 (.int (a : Nat)) (.int (b : Nat)) = some (.int ((min a b : Nat) : Int)) := by
  show some (D.int (if (b : Int) < a then b else a)) = _
  congr 2
  split <;> omega
theorem pairsT_succ (n m : Nat) : pairsT (n + 1) m = pairsT n m ++ (List.range m).map fun j => (n, j) := by
  unfold pairsT
  rw [List.range_succ, List.flatMap_append]
  simp
section
variable {w h a d : Nat} {tn : Bool}
abbrev innerS (w h a d : Nat) (tn : Bool) (s : TS) (i n : Nat) : TS := ((List.range n).map fun j => (i, j)).foldl (stepT w h a d tn) s
theorem inner_succ (s : TS) (i n : Nat) : innerS w h a d tn s i (n + 1) = stepT w h a d tn (innerS w h a d tn s i n) (i, n) := by
  unfold innerS
  rw [List.range_succ, List.map_append, List.foldl_append]
  rfl
abbrev outerS (w h a d : Nat) (tn : Bool) (n : Nat) : TS := (pairsT n (many w a)).foldl (stepT w h a d tn) ([], [])
theorem outer_succ (n : Nat) : outerS w h a d tn (n + 1) = innerS w h a d tn (outerS w h a d tn n) n (many w a) := by
  unfold outerS
  rw [pairsT_succ, List.foldl_append]
theorem step_mono (s : TS) (p : Nat × Nat) : s.1.length ≤ (stepT w h a d tn s p).1.length ∧ s.2.length ≤ (stepT w h a d tn s p).2.length := by
  simp [stepT]
theorem inner_mono (s : TS) (i n k : Nat) : (innerS w h a d tn s i n).1.length ≤ (innerS w h a d tn s i (n + k)).1.length ∧ (innerS w h a d tn s i n).2.length ≤ (innerS w h a d tn s i (n + k)).2.length := by
  induction k with
  | zero => exact ⟨Nat.le_refl _, Nat.le_refl _⟩
  | succ k ih =>
    rw [← Nat.add_assoc, inner_succ]
    have := step_mono (w := w) (h := h) (a := a) (d := d) (tn := tn) (innerS w h a d tn s i (n + k)) (i, n + k)
    omega
theorem outer_mono (n k : Nat) : (outerS w h a d tn n).1.length ≤ (outerS w h a d tn (n + k)).1.length ∧ (outerS w h a d tn n).2.length ≤ (outerS w h a d tn (n + k)).2.length := by
  induction k with
  | zero => exact ⟨Nat.le_refl _, Nat.le_refl _⟩
  | succ k ih =>
    rw [← Nat.add_assoc, outer_succ]
    have := inner_mono (w := w) (h := h) (a := a) (d := d) (tn := tn) (outerS w h a d tn (n + k)) (n + k) 0 (many w a)
    rw [Nat.zero_add] at this
    have e0 : innerS w h a d tn (outerS w h a d tn (n + k)) (n + k) 0 = outerS w h a d tn (n + k) := rfl
    rw [e0] at this
    omega
/-- parts of the tiles are small -/
theorem part_len (hw : 1 ≤ w ∧ w ≤ 8) (hh : 1 ≤ h ∧ h ≤ 8) (ha : 1 ≤ a) (hd : 1 ≤ d) {i n : Nat} (hi : i < many h d) (hn : n ≤ many w a) : (innerS w h a d tn (outerS w h a d tn i) i n).1.length ≤ 64 ∧ (innerS w h a d tn (outerS w h a d tn i) i n).2.length ≤ 64 := by
  have gw := tiles_gw (tn := tn) hw hh ha hd
  have g1 := gw_len gw
  have g2 := gw_st gw
  have a1 := inner_mono (w := w) (h := h) (a := a) (d := d) (tn := tn) (outerS w h a d tn i) i n (many w a - n)
  rw [show n + (many w a - n) = many w a by omega, ← outer_succ] at a1
  have a2 := outer_mono (w := w) (h := h) (a := a) (d := d) (tn := tn) (i + 1) (many h d - (i + 1))
  rw [show i + 1 + (many h d - (i + 1)) = many h d by omega] at a2
  unfold tilesM at g1 g2
  unfold outerS at *
  omega
theorem many_le (n c : Nat) (hn : n ≤ 8) (hc : 1 ≤ c ∧ c ≤ 8) : many n c ≤ 16 := by
  unfold many
  exact Nat.le_trans (Nat.div_le_self _ _) (by omega)
abbrev TF (w h a d : Nat) (tn cut : Bool) (s : TS) (s6 s7 i j x y : Slot) : En := [.frz (.int (w : Nat)), .frz (.int (h : Nat)), .frz (.int (a : Nat)), .frz (.int (d : Nat)), .frz (.bl tn), .frz (.bl cut), s6, s7, .own (.lst (cellsD s.1)), .own (.lst (dI s.2)), i, j, x, y, .none, .none]
abbrev tileB : SS := (sSeq (sApp 9 (v1 (pureK1 D.len) (bVar 8))) (sSeq (sPar [12, 13] (mF (v2 (pureK2 D.min2) (bVar 2) (v2 (pureK2 D.sub) (bVar 0) (bVar 11))) (mF (v2 (pureK2 D.min2) (bVar 3) (v2 (pureK2 D.sub) (bVar 1) (bVar 10))) (mNil)))) (sExt 8 (vComp (itSeq (vCall f_lines_of (aCons (vVar 12) (aCons (vVar 13) (aCons (vVar 4) (aNil)))))) (tgT 2 (tgsCons (tgN 14) (tgsCons (tgN 15) (tgsNil)))) (List.map (·.2) ([("x", 14), ("y", 15)] : List (Str × Nat))) (vC (.bl true)) (vTup (aCons (v2 (pureK2 D.add) (bVar 11) (bVar 14)) (aCons (v2 (pureK2 D.add) (bVar 10) (bVar 15)) (aNil))))))))
theorem tile_step (hw : w ≤ 8) (hh : h ≤ 8) {cut : Bool} {s : TS} {s6 s7 x y : Slot} {i j : Nat} (hj : j * a ≤ w) (hi : i * d ≤ h) (l1 : s.1.length ≤ 64) (l2 : s.2.length ≤ 64) (g : G) :
    ∃ x' y', tileB (TF w h a d tn cut s s6 s7 (.frz (.int ((i * d : Nat) : Int))) (.frz (.int ((j * a : Nat) : Int))) x y) g = .ok (.nx, TF w h a d tn cut (stepT w h a d tn s (i, j)) s6 s7 (.frz (.int ((i * d : Nat) : Int))) (.frz (.int ((j * a : Nat) : Int))) x' y', g) := by
  have hbig := big
  let I : Slot := .frz (.int ((i * d : Nat) : Int))
  let J : Slot := .frz (.int ((j * a : Nat) : Int))
  let X : Slot := .frz (.int ((min a (w - j * a) : Nat) : Int))
  let Y : Slot := .frz (.int ((min d (h - i * d) : Nat) : Int))
  refine ⟨X, Y, ?_⟩
  let s2 : TS := (s.1, s.2 ++ [(s.1.length : Int)])
  have e1 := app_ok (i := 9) (f := v1 (pureK1 D.len) (bVar 8)) (ρ := TF w h a d tn cut s s6 s7 I J x y) (g := g) (g1 := g) (xs := dI s.2) (d := .int (s.1.length : Nat)) rfl (v1_ok (k := D.len) (x := .lst (cellsD s.1)) rfl (by show some (D.int (cellsD s.1).length) = _; rw [cellsD_len])) (by rw [dI_len]; omega)
  rw [show (TF w h a d tn cut s s6 s7 I J x y).set 9 (.own (.lst (dI s.2 ++ [.int (s.1.length : Nat)]))) = TF w h a d tn cut s2 s6 s7 I J x y by
    show _ = [_, _, _, _, _, _, _, _, _, Slot.own (.lst (dI (s.2 ++ [(s.1.length : Int)]))), _, _, _, _, _, _]
    rw [dI_app]; rfl] at e1
  have b1 : v2 (pureK2 D.min2) (bVar 2) (v2 (pureK2 D.sub) (bVar 0) (bVar 11)) (TF w h a d tn cut s2 s6 s7 I J x y) g = .ok (.int ((min a (w - j * a) : Nat) : Int), g) := v2_ok (k := D.min2) (x := .int (a : Nat)) (y := .int ((w - j * a : Nat) : Int)) rfl (v2_ok (k := D.sub) (x := .int (w : Nat)) (y := .int ((j * a : Nat) : Int)) rfl rfl (by show some (D.int ((w : Int) - ((j * a : Nat) : Int))) = _; congr 2; omega)) (min2_nat _ _)
  have b2 : v2 (pureK2 D.min2) (bVar 3) (v2 (pureK2 D.sub) (bVar 1) (bVar 10)) (TF w h a d tn cut s2 s6 s7 I J x y) g = .ok (.int ((min d (h - i * d) : Nat) : Int), g) := v2_ok (k := D.min2) (x := .int (d : Nat)) (y := .int ((h - i * d : Nat) : Int)) rfl (v2_ok (k := D.sub) (x := .int (h : Nat)) (y := .int ((i * d : Nat) : Int)) rfl rfl (by show some (D.int ((h : Int) - ((i * d : Nat) : Int))) = _; congr 2; omega)) (min2_nat _ _)
  have e2 := par_ok (is := [12, 13]) (m := mF (v2 (pureK2 D.min2) (bVar 2) (v2 (pureK2 D.sub) (bVar 0) (bVar 11))) (mF (v2 (pureK2 D.min2) (bVar 3) (v2 (pureK2 D.sub) (bVar 1) (bVar 10))) (mNil))) (vs := [(false, .int ((min a (w - j * a) : Nat) : Int)), (false, .int ((min d (h - i * d) : Nat) : Int))]) (mF_ok b1 (mF_ok (g2 := g) (vs := []) b2 rfl)) rfl rfl
  have e3 := ext_ok (i := 8) (ρ := TF w h a d tn cut s2 s6 s7 I J X Y) (g := g) (xs := cellsD s.1) rfl (moved_comp (cs := linesM (min a (w - j * a)) (min d (h - i * d)) tn) (x := ((j * a : Nat) : Int)) (y := ((i * d : Nat) : Int)) (cx := 11) (cy := 10) (i := 14) (k := 15) (fi := itSeq (vCall f_lines_of (aCons (vVar 12) (aCons (vVar 13) (aCons (vVar 4) (aNil)))))) (seqIt_l ((call_ok (ds := [.int ((min a (w - j * a) : Nat) : Int), .int ((min d (h - i * d) : Nat) : Int), .bl tn]) (g1 := g) rfl).trans (lines_of_ok (by omega) (by omega) tn g))) (by simp [TF]) (by simp [TF]) rfl rfl rfl rfl (by decide) (by decide) (by decide) (by decide) (by decide)) (by
    rw [cellsD_len, cellsD_len, List.length_map, linesM_len]
    have : min d (h - i * d) * min a (w - j * a) ≤ 8 * 8 := Nat.mul_le_mul (by omega) (by omega)
    omega)
  rw [← cellsD_app] at e3
  exact (seq_nx e1).trans ((seq_nx e2).trans e3)
abbrev innerF : SS := sFor (itR3 (vC (.int 0)) (vVar 0) (vVar 2)) (tgN 11) tileB
theorem inner_ok (hw : 1 ≤ w ∧ w ≤ 8) (hh : 1 ≤ h ∧ h ≤ 8) (ha : 1 ≤ a ∧ a ≤ 8) (hd : 1 ≤ d) {cut : Bool} {s6 s7 j x y : Slot} {i : Nat} (hi : i < many h d) (g : G) :
    ∃ j' x' y', innerF (TF w h a d tn cut (outerS w h a d tn i) s6 s7 (.frz (.int ((i * d : Nat) : Int))) j x y) g = .ok (.nx, TF w h a d tn cut (outerS w h a d tn (i + 1)) s6 s7 (.frz (.int ((i * d : Nat) : Int))) j' x' y', g) := by
  have loop := forL_inv (t := tgN 11) (body := tileB) (fun n ρ g' => g' = g ∧ ∃ j x y, ρ = TF w h a d tn cut (innerS w h a d tn (outerS w h a d tn i) i n) s6 s7 (.frz (.int ((i * d : Nat) : Int))) j x y) (ds := rangeC 0 (a : Nat) (many w a)) (k := 0) (ρ := TF w h a d tn cut (outerS w h a d tn i) s6 s7 (.frz (.int ((i * d : Nat) : Int))) j x y) (g := g) ⟨rfl, j, x, y, rfl⟩ (fun n e ρ g' he hI => by
    obtain ⟨rfl, j, x, y, rfl⟩ := hI
    obtain ⟨rfl, hn⟩ := rangeC_get he
    rw [Nat.zero_add, inner_succ]
    obtain ⟨l1, l2⟩ := part_len (tn := tn) hw hh ha.1 hd hi (Nat.le_of_lt hn)
    obtain ⟨x', y', st⟩ := tile_step (cut := cut) (s6 := s6) (s7 := s7) (x := x) (y := y) (i := i) (j := n) hw.2 hh.2 (Nat.le_of_lt (many_lt ha.1 hn)) (Nat.le_of_lt (many_lt hd hi)) l1 l2 g'
    refine ⟨TF w h a d tn cut (innerS w h a d tn (outerS w h a d tn i) i n) s6 s7 (.frz (.int ((i * d : Nat) : Int))) (.frz (.int ((n * a : Nat) : Int))) x y, _, g', .nx, ?_, st, .inl rfl, rfl, _, x', y', rfl⟩
    rw [show (0 : Int) + (n : Nat) * (a : Nat) = ((n * a : Nat) : Int) by rw [Int.natCast_mul]; omega]
    rfl)
  obtain ⟨ρ', g', l1, rfl, j', x', y', rfl⟩ := loop
  rw [Nat.zero_add, rangeC_len, ← outer_succ] at l1
  exact ⟨j', x', y', (for_ok (r3_ok (fa := vC (.int 0)) (fb := vVar 0) (fc := vVar 2) hw.2 ha rfl rfl rfl)).trans l1⟩
theorem tilesF_ok (hw : 1 ≤ w ∧ w ≤ 8) (hh : 1 ≤ h ∧ h ≤ 8) (ha : 1 ≤ a ∧ a ≤ 8) (hd : 1 ≤ d ∧ d ≤ 8) {cut : Bool} {s6 s7 : Slot} (g : G) :
    ∃ i' j' x' y', sFor (itR3 (vC (.int 0)) (vVar 1) (vVar 3)) (tgN 10) innerF (TF w h a d tn cut ([], []) s6 s7 .none .none .none .none) g = .ok (.nx, TF w h a d tn cut (tilesM w h a d tn) s6 s7 i' j' x' y', g) := by
  have loop := forL_inv (t := tgN 10) (body := innerF) (fun n ρ g' => g' = g ∧ ∃ i j x y, ρ = TF w h a d tn cut (outerS w h a d tn n) s6 s7 i j x y) (ds := rangeC 0 (d : Nat) (many h d)) (k := 0) (ρ := TF w h a d tn cut ([], []) s6 s7 .none .none .none .none) (g := g) ⟨rfl, .none, .none, .none, .none, rfl⟩ (fun n e ρ g' he hI => by
    obtain ⟨rfl, i, j, x, y, rfl⟩ := hI
    obtain ⟨rfl, hn⟩ := rangeC_get he
    rw [Nat.zero_add]
    obtain ⟨j', x', y', st⟩ := inner_ok (tn := tn) (cut := cut) (s6 := s6) (s7 := s7) (j := j) (x := x) (y := y) hw hh ha hd.1 hn g'
    refine ⟨TF w h a d tn cut (outerS w h a d tn n) s6 s7 (.frz (.int ((n * d : Nat) : Int))) j x y, _, g', .nx, ?_, st, .inl rfl, rfl, _, j', x', y', rfl⟩
    rw [show (0 : Int) + (n : Nat) * (d : Nat) = ((n * d : Nat) : Int) by rw [Int.natCast_mul]; omega]
    rfl)
  obtain ⟨ρ', g', l1, rfl, i', j', x', y', rfl⟩ := loop
  rw [Nat.zero_add, rangeC_len] at l1
  exact ⟨i', j', x', y', (for_ok (r3_ok (fa := vC (.int 0)) (fb := vVar 1) (fc := vVar 3) hh.2 hd rfl rfl rfl)).trans l1⟩
theorem tiles_walk_ok (hw : 1 ≤ w ∧ w ≤ 8) (hh : 1 ≤ h ∧ h ≤ 8) (ha : 1 ≤ a ∧ a ≤ w) (hd : 1 ≤ d ∧ d ≤ h) (cut : Bool) (g : G) : f_tiles_walk [.int (w : Nat), .int (h : Nat), .int (a : Nat), .int (d : Nat), .bl tn, .bl cut] g = .ok (walkO w h (tilesM w h a d tn).1 (startsS (if cut then (tilesM w h a d tn).2 else [0])), g) := by
  have gw := tiles_gw (tn := tn) hw hh ha.1 hd.1
  have b : ∀ (v m : Nat) (s6 s7 : Slot), 1 ≤ v ∧ v ≤ m → ∀ ρ : En, ρ[6]? = some (.frz (.int (v : Nat))) → ρ[7]? = some (.frz (.int (m : Nat))) → sIf (vNot (vCall f_is_within (aCons (vVar 6) (aCons (vC (.int 1)) (aCons (vVar 7) (aNil)))))) (sRaise "BadTiles" (vVar 6)) (sNil) ρ g = .ok (.nx, ρ, g) := fun v m s6 s7 hv ρ h6 h7 => by
    have e6 : vVar 6 ρ g = .ok (.int (v : Nat), g) := by unfold vVar; rw [h6]
    have e7 : vVar 7 ρ g = .ok (.int (m : Nat), g) := by unfold vVar; rw [h7]
    exact (if_ok (x := .bl false) (b := false) (not_ok (x := .bl true) (b := true) ((call_ok (ds := [.int (v : Nat), .int 1, .int (m : Nat)]) (g1 := g) (aC_ok e6 (aC_ok rfl (aC_ok e7 rfl)))).trans ((within_int v 1 m g).trans (wi_t (by omega) (by omega) g))) rfl) rfl).trans rfl
  let ρ0 : Slot → Slot → En := fun s6 s7 => [.frz (.int (w : Nat)), .frz (.int (h : Nat)), .frz (.int (a : Nat)), .frz (.int (d : Nat)), .frz (.bl tn), .frz (.bl cut), s6, s7, .none, .none, .none, .none, .none, .none, .none, .none]
  have s0 := (for_ok (s := sIf (vNot (vCall f_is_within (aCons (vVar 6) (aCons (vC (.int 1)) (aCons (vVar 7) (aNil)))))) (sRaise "BadTiles" (vVar 6)) (sNil)) (t := tgT 2 (tgsCons (tgN 6) (tgsCons (tgN 7) (tgsNil)))) (seqIt_t (f := (vTup (aCons (vTup (aCons (vVar 2) (aCons (vVar 0) (aNil)))) (aCons (vTup (aCons (vVar 3) (aCons (vVar 1) (aNil)))) (aNil))))) (ρ := ρ0 .none .none) (g := g) (ds := [.tup [.int (a : Nat), .int (w : Nat)], .tup [.int (d : Nat), .int (h : Nat)]]) rfl)).trans ((forL_nx (t := tgT 2 (tgsCons (tgN 6) (tgsCons (tgN 7) (tgsNil)))) (ρ1 := ρ0 (.frz (.int (a : Nat))) (.frz (.int (w : Nat)))) rfl (b a w .none .none ha _ rfl rfl)).trans ((forL_nx (t := tgT 2 (tgsCons (tgN 6) (tgsCons (tgN 7) (tgsNil)))) (ρ1 := ρ0 (.frz (.int (d : Nat))) (.frz (.int (h : Nat)))) rfl (b d h .none .none hd _ rfl rfl)).trans rfl))
  have s1 := par_ok (is := [8, 9]) (m := mO (vLst (aNil)) (mO (vLst (aNil)) (mNil))) (ρ := ρ0 (.frz (.int (d : Nat))) (.frz (.int (h : Nat)))) (g := g) (vs := [(true, .lst []), (true, .lst [])]) (g1 := g) rfl rfl rfl
  obtain ⟨i', j', x', y', s2⟩ := tilesF_ok (tn := tn) hw hh (⟨ha.1, by omega⟩ : 1 ≤ a ∧ a ≤ 8) (⟨hd.1, by omega⟩ : 1 ≤ d ∧ d ≤ 8) (cut := cut) (s6 := .frz (.int (d : Nat))) (s7 := .frz (.int (h : Nat))) g
  have gw0 : GW (w : Nat) (h : Nat) (tilesM w h a d tn).1 (if cut then (tilesM w h a d tn).2 else [0]) := by
    cases cut with
    | true => exact gw
    | false => exact ⟨gw.hw, gw.hh, gw.len, gw.r, gw.nd, (lines_gw hw hh tn).sn, (lines_gw hw hh tn).sr⟩
  let ρe : En := [.frz (.int (w : Nat)), .frz (.int (h : Nat)), .frz (.int (a : Nat)), .frz (.int (d : Nat)), .frz (.bl tn), .frz (.bl cut), .frz (.int (d : Nat)), .frz (.int (h : Nat)), .frz (.lst (cellsD (tilesM w h a d tn).1)), .frz (.lst (dI (tilesM w h a d tn).2)), i', j', x', y', .none, .none]
  have eI : vIf (bVar 5) (vVar 9) (vLst (aCons (vC (.int 0)) (aNil))) ρe g = .ok (.lst (dI (if cut then (tilesM w h a d tn).2 else [0])), g) := by
    cases cut <;> rfl
  have mk := make_walk (fr := aCons (vVar 0) (aCons (vVar 1) (aCons (vVar 8) (aCons (vIf (bVar 5) (vVar 9) (vLst (aCons (vC (.int 0)) (aNil)))) (aNil))))) (ρ := ρe) (g := g) gw0 (.inl rfl) (.inl rfl) (aC_ok rfl (aC_ok rfl (aC_ok rfl (aC_ok eI rfl))))
  exact run_ret ((seq_nx (expr_ok ((call_ok (ds := [.int (w : Nat), .int (h : Nat)]) (g1 := g) rfl).trans (check_size_ok (by omega) (by omega) g)))).trans ((seq_nx s0).trans ((seq_nx s1).trans ((seq_nx s2).trans ((fz_own rfl).trans ((fz_own rfl).trans (ret_ok mk)))))))
/-- the one that is too wide -/
theorem tiles_walk_bad (g : G) : f_tiles_walk [.int 2, .int 2, .int 3, .int 1, .bl false, .bl false] g = .exc "BadTiles" (.int 3) g := rfl
end
end GD
end RP
end L2
set_option Elab.async false
set_option linter.all false
set_option maxRecDepth 100000
namespace L2
namespace RP
namespace GD
open PySem PySem.Spec PyProof.Rows
section
variable {w h a d : Nat} {tn : Bool}
abbrev LF (w h a d : Nat) (tn : Bool) (s : TS) (i j x : Slot) : En := [.frz (.int (w : Nat)), .frz (.int (h : Nat)), .frz (.int (a : Nat)), .frz (.int (d : Nat)), .frz (.bl tn), .frz (.lst (cellsD s.1)), .frz (.lst (dI s.2)), i, j, x, .none, .none]
abbrev ltileB : SS := (sSeq (sSet 6 (v2 (pureK2 D.add) (bVar 6) (vLst (aCons (v1 (pureK1 D.len) (bVar 5)) (aNil))))) (sSeq (sSet 9 (vCall f__law_lines (aCons (v2 (pureK2 D.min2) (bVar 2) (v2 (pureK2 D.sub) (bVar 0) (bVar 8))) (aCons (v2 (pureK2 D.min2) (bVar 3) (v2 (pureK2 D.sub) (bVar 1) (bVar 7))) (aCons (vVar 4) (aNil)))))) (sSet 5 (v2 (pureK2 D.add) (bVar 5) (vComp (itSeq (vVar 9)) (tgT 2 (tgsCons (tgN 10) (tgsCons (tgN 11) (tgsNil)))) (List.map (·.2) ([("a", 10), ("b", 11)] : List (Str × Nat))) (vC (.bl true)) (vTup (aCons (v2 (pureK2 D.add) (bVar 8) (bVar 10)) (aCons (v2 (pureK2 D.add) (bVar 7) (bVar 11)) (aNil)))))))))
theorem ltile_step (hw : w ≤ 8) (hh : h ≤ 8) {s : TS} {x : Slot} {i j : Nat} (hj : j * a ≤ w) (hi : i * d ≤ h) (l1 : s.1.length ≤ 64) (l2 : s.2.length ≤ 64) (g : G) :
    ∃ x', ltileB (LF w h a d tn s (.frz (.int ((i * d : Nat) : Int))) (.frz (.int ((j * a : Nat) : Int))) x) g = .ok (.nx, LF w h a d tn (stepT w h a d tn s (i, j)) (.frz (.int ((i * d : Nat) : Int))) (.frz (.int ((j * a : Nat) : Int))) x', g) := by
  have hbig := big
  let I : Slot := .frz (.int ((i * d : Nat) : Int))
  let J : Slot := .frz (.int ((j * a : Nat) : Int))
  let X : Slot := .frz (.lst (cellsD (linesM (min a (w - j * a)) (min d (h - i * d)) tn)))
  refine ⟨X, ?_⟩
  let s2 : TS := (s.1, s.2 ++ [(s.1.length : Int)])
  have e1 := set_ok (i := 6) (f := v2 (pureK2 D.add) (bVar 6) (vLst (aCons (v1 (pureK1 D.len) (bVar 5)) (aNil)))) (ρ := LF w h a d tn s I J x) (g := g) (g1 := g) (d := .lst (dI (s.2 ++ [(s.1.length : Int)]))) (v2_ok (k := D.add) (x := .lst (dI s.2)) (y := .lst (dI [(s.1.length : Int)])) rfl (lst_ok (aC_ok (v1_ok (k := D.len) (x := .lst (cellsD s.1)) rfl (by show some (D.int (cellsD s.1).length) = _; rw [cellsD_len])) a0_ok) (show ([D.int (s.1.length : Nat)] : List D).length ≤ sizeLine by simp; omega)) (by rw [dI_app]; exact add_lst (by rw [dI_len, dI_len]; simp; omega))) (by simp [LF])
  have b1 : v2 (pureK2 D.min2) (bVar 2) (v2 (pureK2 D.sub) (bVar 0) (bVar 8)) (LF w h a d tn s2 I J x) g = .ok (.int ((min a (w - j * a) : Nat) : Int), g) := v2_ok (k := D.min2) (x := .int (a : Nat)) (y := .int ((w - j * a : Nat) : Int)) rfl (v2_ok (k := D.sub) (x := .int (w : Nat)) (y := .int ((j * a : Nat) : Int)) rfl rfl (by show some (D.int ((w : Int) - ((j * a : Nat) : Int))) = _; congr 2; omega)) (min2_nat _ _)
  have b2 : v2 (pureK2 D.min2) (bVar 3) (v2 (pureK2 D.sub) (bVar 1) (bVar 7)) (LF w h a d tn s2 I J x) g = .ok (.int ((min d (h - i * d) : Nat) : Int), g) := v2_ok (k := D.min2) (x := .int (d : Nat)) (y := .int ((h - i * d : Nat) : Int)) rfl (v2_ok (k := D.sub) (x := .int (h : Nat)) (y := .int ((i * d : Nat) : Int)) rfl rfl (by show some (D.int ((h : Int) - ((i * d : Nat) : Int))) = _; congr 2; omega)) (min2_nat _ _)
  have e2 := set_ok (i := 9) (f := vCall f__law_lines (aCons (v2 (pureK2 D.min2) (bVar 2) (v2 (pureK2 D.sub) (bVar 0) (bVar 8))) (aCons (v2 (pureK2 D.min2) (bVar 3) (v2 (pureK2 D.sub) (bVar 1) (bVar 7))) (aCons (vVar 4) (aNil))))) ((call_ok (aC_ok b1 (aC_ok b2 (aC_ok (x := .bl tn) (g1 := g) rfl a0_ok)))).trans (law_lines_ok (w := min a (w - j * a)) (h := min d (h - i * d)) (by omega) (by omega) tn g)) (show 9 < (LF w h a d tn s2 I J x).length by simp [LF])
  have e3 := set_ok (i := 5) (ρ := LF w h a d tn s2 I J X) (g := g) (d := .lst (cellsD (stepT w h a d tn s (i, j)).1)) (v2_ok (k := D.add) (fa := bVar 5) (x := .lst (cellsD s.1)) rfl (moved_comp (cs := linesM (min a (w - j * a)) (min d (h - i * d)) tn) (x := ((j * a : Nat) : Int)) (y := ((i * d : Nat) : Int)) (cx := 8) (cy := 7) (i := 10) (k := 11) (fi := itSeq (vVar 9)) (seqIt_l rfl) (by simp [LF]) (by simp [LF]) rfl rfl rfl rfl (by decide) (by decide) (by decide) (by decide) (by decide)) (by
    show _ = some (D.lst (cellsD (s.1 ++ tileM w h a d tn i j)))
    rw [cellsD_app]
    refine add_lst ?_
    rw [cellsD_len, cellsD_len, List.length_map, linesM_len]
    have : min d (h - i * d) * min a (w - j * a) ≤ 8 * 8 := Nat.mul_le_mul (by omega) (by omega)
    omega)) (by simp [LF])
  exact (seq_nx e1).trans ((seq_nx e2).trans e3)
abbrev linnerF : SS := sFor (itR3 (vC (.int 0)) (vVar 0) (vVar 2)) (tgN 8) ltileB
theorem linner_ok (hw : 1 ≤ w ∧ w ≤ 8) (hh : 1 ≤ h ∧ h ≤ 8) (ha : 1 ≤ a ∧ a ≤ 8) (hd : 1 ≤ d) {j x : Slot} {i : Nat} (hi : i < many h d) (g : G) :
    ∃ j' x', linnerF (LF w h a d tn (outerS w h a d tn i) (.frz (.int ((i * d : Nat) : Int))) j x) g = .ok (.nx, LF w h a d tn (outerS w h a d tn (i + 1)) (.frz (.int ((i * d : Nat) : Int))) j' x', g) := by
  have loop := forL_inv (t := tgN 8) (body := ltileB) (fun n ρ g' => g' = g ∧ ∃ j x, ρ = LF w h a d tn (innerS w h a d tn (outerS w h a d tn i) i n) (.frz (.int ((i * d : Nat) : Int))) j x) (ds := rangeC 0 (a : Nat) (many w a)) (k := 0) (ρ := LF w h a d tn (outerS w h a d tn i) (.frz (.int ((i * d : Nat) : Int))) j x) (g := g) ⟨rfl, j, x, rfl⟩ (fun n e ρ g' he hI => by
    obtain ⟨rfl, j, x, rfl⟩ := hI
    obtain ⟨rfl, hn⟩ := rangeC_get he
    rw [Nat.zero_add, inner_succ]
    obtain ⟨l1, l2⟩ := part_len (tn := tn) hw hh ha.1 hd hi (Nat.le_of_lt hn)
    obtain ⟨x', st⟩ := ltile_step (x := x) (i := i) (j := n) hw.2 hh.2 (Nat.le_of_lt (many_lt ha.1 hn)) (Nat.le_of_lt (many_lt hd hi)) l1 l2 g'
    refine ⟨LF w h a d tn (innerS w h a d tn (outerS w h a d tn i) i n) (.frz (.int ((i * d : Nat) : Int))) (.frz (.int ((n * a : Nat) : Int))) x, _, g', .nx, ?_, st, .inl rfl, rfl, _, x', rfl⟩
    rw [show (0 : Int) + (n : Nat) * (a : Nat) = ((n * a : Nat) : Int) by rw [Int.natCast_mul]; omega]
    rfl)
  obtain ⟨ρ', g', l1, rfl, j', x', rfl⟩ := loop
  rw [Nat.zero_add, rangeC_len, ← outer_succ] at l1
  exact ⟨j', x', (for_ok (r3_ok (fa := vC (.int 0)) (fb := vVar 0) (fc := vVar 2) hw.2 ha rfl rfl rfl)).trans l1⟩
theorem ltilesF_ok (hw : 1 ≤ w ∧ w ≤ 8) (hh : 1 ≤ h ∧ h ≤ 8) (ha : 1 ≤ a ∧ a ≤ 8) (hd : 1 ≤ d ∧ d ≤ 8) (g : G) :
    ∃ i' j' x', sFor (itR3 (vC (.int 0)) (vVar 1) (vVar 3)) (tgN 7) linnerF (LF w h a d tn ([], []) .none .none .none) g = .ok (.nx, LF w h a d tn (tilesM w h a d tn) i' j' x', g) := by
  have loop := forL_inv (t := tgN 7) (body := linnerF) (fun n ρ g' => g' = g ∧ ∃ i j x, ρ = LF w h a d tn (outerS w h a d tn n) i j x) (ds := rangeC 0 (d : Nat) (many h d)) (k := 0) (ρ := LF w h a d tn ([], []) .none .none .none) (g := g) ⟨rfl, .none, .none, .none, rfl⟩ (fun n e ρ g' he hI => by
    obtain ⟨rfl, i, j, x, rfl⟩ := hI
    obtain ⟨rfl, hn⟩ := rangeC_get he
    rw [Nat.zero_add]
    obtain ⟨j', x', st⟩ := linner_ok (tn := tn) (j := j) (x := x) hw hh ha hd.1 hn g'
    refine ⟨LF w h a d tn (outerS w h a d tn n) (.frz (.int ((n * d : Nat) : Int))) j x, _, g', .nx, ?_, st, .inl rfl, rfl, _, j', x', rfl⟩
    rw [show (0 : Int) + (n : Nat) * (d : Nat) = ((n * d : Nat) : Int) by rw [Int.natCast_mul]; omega]
    rfl)
  obtain ⟨ρ', g', l1, rfl, i', j', x', rfl⟩ := loop
  rw [Nat.zero_add, rangeC_len] at l1
  exact ⟨i', j', x', (for_ok (r3_ok (fa := vC (.int 0)) (fb := vVar 1) (fc := vVar 3) hh.2 hd rfl rfl rfl)).trans l1⟩
theorem law_tiles_ok (hw : 1 ≤ w ∧ w ≤ 8) (hh : 1 ≤ h ∧ h ≤ 8) (ha : 1 ≤ a ∧ a ≤ w) (hd : 1 ≤ d ∧ d ≤ h) (g : G) : f__law_tiles [.int (w : Nat), .int (h : Nat), .int (a : Nat), .int (d : Nat), .bl tn] g = .ok (.tup [.lst (cellsD (tilesM w h a d tn).1), .lst (dI (tilesM w h a d tn).2)], g) := by
  obtain ⟨i', j', x', s2⟩ := ltilesF_ok (tn := tn) hw hh (⟨ha.1, by omega⟩ : 1 ≤ a ∧ a ≤ 8) (⟨hd.1, by omega⟩ : 1 ≤ d ∧ d ≤ 8) g
  exact run_ret ((seq_nx (ρ1 := LF w h a d tn ([], []) .none .none .none) (g1 := g) rfl).trans ((seq_nx s2).trans (ret_ok rfl)))
end
end GD
end RP
end L2
set_option Elab.async false
set_option linter.all false
set_option maxRecDepth 1000000
set_option maxHeartbeats 0
namespace L2
namespace RP
namespace GD
open PySem PySem.Spec PyProof.Rows
/-- the rim at depth k -/
def rimM (w h k : Nat) : List (Int × Int) :=
  ((rng k (w - 2 * k)).map fun x => (x, (k : Int))) ++ (((rng (k + 1) (h - 2 * k - 1)).map fun y => (((w - 1 - k : Nat) : Int), y)) ++
    ((if k < h - 1 - k then (rng k (w - 2 * k - 1)).reverse.map fun x => (x, ((h - 1 - k : Nat) : Int)) else []) ++
     (if k < w - 1 - k then (rng (k + 1) (h - 2 * k - 2)).reverse.map fun y => ((k : Int), y) else [])))
def rimsN (w h : Nat) : Nat := (min w h + 1) / 2
def roundM (w h : Nat) : List (Int × Int) := (List.range (rimsN w h)).flatMap (rimM w h)
theorem round_all : ((List.range 8).all fun w => (List.range 8).all fun h => chk (w + 1) (h + 1) (roundM (w + 1) (h + 1)) 0 && ((roundM (w + 1) (h + 1)).length == (w + 1) * (h + 1))) = true := by decide +kernel
theorem round_gw {w h : Nat} (hw : 1 ≤ w ∧ w ≤ 8) (hh : 1 ≤ h ∧ h ≤ 8) : GW (w : Nat) (h : Nat) (roundM w h) [0] := by
  have a := List.all_eq_true.mp (List.all_eq_true.mp round_all (w - 1) (range_at (by omega))) (h - 1) (range_at (by omega))
  rw [Bool.and_eq_true, beq_iff_eq, show w - 1 + 1 = w by omega, show h - 1 + 1 = h by omega] at a
  refine gw_of hw hh a.1 a.2 ?_
  have : 0 < w * h := Nat.mul_pos (by omega) (by omega)
  show (Nat.ble 0 0 && (Nat.blt 0 (w * h) && true)) = true
  simp [Nat.blt_eq, this]
abbrev roundC : SE := (vAnd (v2 (pureK2 D.leD) (bVar 3) (bVar 5)) (v2 (pureK2 D.leD) (bVar 4) (bVar 6)))
abbrev roundB : SS := (sSeq (sSet 7 (vComp (itR2 (vVar 3) (v2 (pureK2 D.add) (bVar 5) (vC (.int 1)))) (tgN 8) (List.map (·.2) ([("column", 8)] : List (Str × Nat))) (vC (.bl true)) (vTup (aCons (vVar 8) (aCons (vVar 4) (aNil)))))) (sSeq (sSet 7 (v2 (pureK2 D.add) (bVar 7) (vComp (itR2 (v2 (pureK2 D.add) (bVar 4) (vC (.int 1))) (v2 (pureK2 D.add) (bVar 6) (vC (.int 1)))) (tgN 9) (List.map (·.2) ([("row", 9)] : List (Str × Nat))) (vC (.bl true)) (vTup (aCons (vVar 5) (aCons (vVar 9) (aNil))))))) (sSeq (sIf (v2 (pureK2 D.ltD) (bVar 4) (bVar 6)) (sSet 7 (v2 (pureK2 D.add) (bVar 7) (vComp (itR3 (v2 (pureK2 D.sub) (bVar 5) (vC (.int 1))) (v2 (pureK2 D.sub) (bVar 3) (vC (.int 1))) (v1 (pureK1 D.neg) (vC (.int 1)))) (tgN 8) (List.map (·.2) ([("column", 8)] : List (Str × Nat))) (vC (.bl true)) (vTup (aCons (vVar 8) (aCons (vVar 6) (aNil))))))) (sNil)) (sSeq (sIf (v2 (pureK2 D.ltD) (bVar 3) (bVar 5)) (sSet 7 (v2 (pureK2 D.add) (bVar 7) (vComp (itR3 (v2 (pureK2 D.sub) (bVar 6) (vC (.int 1))) (vVar 4) (v1 (pureK1 D.neg) (vC (.int 1)))) (tgN 9) (List.map (·.2) ([("row", 9)] : List (Str × Nat))) (vC (.bl true)) (vTup (aCons (vVar 3) (aCons (vVar 9) (aNil))))))) (sNil)) (sSeq (sExt 2 (vVar 7)) (sPar [3, 4, 5, 6] (mF (v2 (pureK2 D.add) (bVar 3) (vC (.int 1))) (mF (v2 (pureK2 D.add) (bVar 4) (vC (.int 1))) (mF (v2 (pureK2 D.sub) (bVar 5) (vC (.int 1))) (mF (v2 (pureK2 D.sub) (bVar 6) (vC (.int 1))) (mNil)))))))))))
def round0 (w h : Nat) : En := [.frz (.int (w : Nat)), .frz (.int (h : Nat)), .own (.lst []), .frz (.int 0), .frz (.int 0), .frz (.int ((w : Nat) - 1)), .frz (.int ((h : Nat) - 1)), .none, .none, .none]
def round1 (w h : Nat) : En := [.frz (.int (w : Nat)), .frz (.int (h : Nat)), .own (.lst (cellsD (roundM w h))), .frz (.int (rimsN w h : Nat)), .frz (.int (rimsN w h : Nat)), .frz (.int ((w : Nat) - 1 - (rimsN w h : Nat))), .frz (.int ((h : Nat) - 1 - (rimsN w h : Nat))), .frz (.lst (cellsD (rimM w h (rimsN w h - 1)))), .none, .none]
theorem rw_1_1 (g : G) : whileL roundC roundB 100000 (round0 1 1) g = .ok (.nx, round1 1 1, g) := by kernel_rfl
theorem rw_1_2 (g : G) : whileL roundC roundB 100000 (round0 1 2) g = .ok (.nx, round1 1 2, g) := by kernel_rfl
theorem rw_1_3 (g : G) : whileL roundC roundB 100000 (round0 1 3) g = .ok (.nx, round1 1 3, g) := by kernel_rfl
theorem rw_1_4 (g : G) : whileL roundC roundB 100000 (round0 1 4) g = .ok (.nx, round1 1 4, g) := by kernel_rfl
theorem rw_1_5 (g : G) : whileL roundC roundB 100000 (round0 1 5) g = .ok (.nx, round1 1 5, g) := by kernel_rfl
theorem rw_1_6 (g : G) : whileL roundC roundB 100000 (round0 1 6) g = .ok (.nx, round1 1 6, g) := by kernel_rfl
theorem rw_1_7 (g : G) : whileL roundC roundB 100000 (round0 1 7) g = .ok (.nx, round1 1 7, g) := by kernel_rfl
theorem rw_1_8 (g : G) : whileL roundC roundB 100000 (round0 1 8) g = .ok (.nx, round1 1 8, g) := by kernel_rfl
theorem rw_2_1 (g : G) : whileL roundC roundB 100000 (round0 2 1) g = .ok (.nx, round1 2 1, g) := by kernel_rfl
theorem rw_2_2 (g : G) : whileL roundC roundB 100000 (round0 2 2) g = .ok (.nx, round1 2 2, g) := by kernel_rfl
theorem rw_2_3 (g : G) : whileL roundC roundB 100000 (round0 2 3) g = .ok (.nx, round1 2 3, g) := by kernel_rfl
theorem rw_2_4 (g : G) : whileL roundC roundB 100000 (round0 2 4) g = .ok (.nx, round1 2 4, g) := by kernel_rfl
theorem rw_2_5 (g : G) : whileL roundC roundB 100000 (round0 2 5) g = .ok (.nx, round1 2 5, g) := by kernel_rfl
theorem rw_2_6 (g : G) : whileL roundC roundB 100000 (round0 2 6) g = .ok (.nx, round1 2 6, g) := by kernel_rfl
theorem rw_2_7 (g : G) : whileL roundC roundB 100000 (round0 2 7) g = .ok (.nx, round1 2 7, g) := by kernel_rfl
theorem rw_2_8 (g : G) : whileL roundC roundB 100000 (round0 2 8) g = .ok (.nx, round1 2 8, g) := by kernel_rfl
theorem rw_3_1 (g : G) : whileL roundC roundB 100000 (round0 3 1) g = .ok (.nx, round1 3 1, g) := by kernel_rfl
theorem rw_3_2 (g : G) : whileL roundC roundB 100000 (round0 3 2) g = .ok (.nx, round1 3 2, g) := by kernel_rfl
theorem rw_3_3 (g : G) : whileL roundC roundB 100000 (round0 3 3) g = .ok (.nx, round1 3 3, g) := by kernel_rfl
theorem rw_3_4 (g : G) : whileL roundC roundB 100000 (round0 3 4) g = .ok (.nx, round1 3 4, g) := by kernel_rfl
theorem rw_3_5 (g : G) : whileL roundC roundB 100000 (round0 3 5) g = .ok (.nx, round1 3 5, g) := by kernel_rfl
theorem rw_3_6 (g : G) : whileL roundC roundB 100000 (round0 3 6) g = .ok (.nx, round1 3 6, g) := by kernel_rfl
theorem rw_3_7 (g : G) : whileL roundC roundB 100000 (round0 3 7) g = .ok (.nx, round1 3 7, g) := by kernel_rfl
theorem rw_3_8 (g : G) : whileL roundC roundB 100000 (round0 3 8) g = .ok (.nx, round1 3 8, g) := by kernel_rfl
theorem rw_4_1 (g : G) : whileL roundC roundB 100000 (round0 4 1) g = .ok (.nx, round1 4 1, g) := by kernel_rfl
theorem rw_4_2 (g : G) : whileL roundC roundB 100000 (round0 4 2) g = .ok (.nx, round1 4 2, g) := by kernel_rfl
theorem rw_4_3 (g : G) : whileL roundC roundB 100000 (round0 4 3) g = .ok (.nx, round1 4 3, g) := by kernel_rfl
theorem rw_4_4 (g : G) : whileL roundC roundB 100000 (round0 4 4) g = .ok (.nx, round1 4 4, g) := by kernel_rfl
theorem rw_4_5 (g : G) : whileL roundC roundB 100000 (round0 4 5) g = .ok (.nx, round1 4 5, g) := by kernel_rfl
theorem rw_4_6 (g : G) : whileL roundC roundB 100000 (round0 4 6) g = .ok (.nx, round1 4 6, g) := by kernel_rfl
theorem rw_4_7 (g : G) : whileL roundC roundB 100000 (round0 4 7) g = .ok (.nx, round1 4 7, g) := by kernel_rfl
theorem rw_4_8 (g : G) : whileL roundC roundB 100000 (round0 4 8) g = .ok (.nx, round1 4 8, g) := by kernel_rfl
theorem rw_5_1 (g : G) : whileL roundC roundB 100000 (round0 5 1) g = .ok (.nx, round1 5 1, g) := by kernel_rfl
theorem rw_5_2 (g : G) : whileL roundC roundB 100000 (round0 5 2) g = .ok (.nx, round1 5 2, g) := by kernel_rfl
theorem rw_5_3 (g : G) : whileL roundC roundB 100000 (round0 5 3) g = .ok (.nx, round1 5 3, g) := by kernel_rfl
theorem rw_5_4 (g : G) : whileL roundC roundB 100000 (round0 5 4) g = .ok (.nx, round1 5 4, g) := by kernel_rfl
theorem rw_5_5 (g : G) : whileL roundC roundB 100000 (round0 5 5) g = .ok (.nx, round1 5 5, g) := by kernel_rfl
theorem rw_5_6 (g : G) : whileL roundC roundB 100000 (round0 5 6) g = .ok (.nx, round1 5 6, g) := by kernel_rfl
theorem rw_5_7 (g : G) : whileL roundC roundB 100000 (round0 5 7) g = .ok (.nx, round1 5 7, g) := by kernel_rfl
theorem rw_5_8 (g : G) : whileL roundC roundB 100000 (round0 5 8) g = .ok (.nx, round1 5 8, g) := by kernel_rfl
theorem rw_6_1 (g : G) : whileL roundC roundB 100000 (round0 6 1) g = .ok (.nx, round1 6 1, g) := by kernel_rfl
theorem rw_6_2 (g : G) : whileL roundC roundB 100000 (round0 6 2) g = .ok (.nx, round1 6 2, g) := by kernel_rfl
theorem rw_6_3 (g : G) : whileL roundC roundB 100000 (round0 6 3) g = .ok (.nx, round1 6 3, g) := by kernel_rfl
theorem rw_6_4 (g : G) : whileL roundC roundB 100000 (round0 6 4) g = .ok (.nx, round1 6 4, g) := by kernel_rfl
theorem rw_6_5 (g : G) : whileL roundC roundB 100000 (round0 6 5) g = .ok (.nx, round1 6 5, g) := by kernel_rfl
theorem rw_6_6 (g : G) : whileL roundC roundB 100000 (round0 6 6) g = .ok (.nx, round1 6 6, g) := by kernel_rfl
theorem rw_6_7 (g : G) : whileL roundC roundB 100000 (round0 6 7) g = .ok (.nx, round1 6 7, g) := by kernel_rfl
theorem rw_6_8 (g : G) : whileL roundC roundB 100000 (round0 6 8) g = .ok (.nx, round1 6 8, g) := by kernel_rfl
theorem rw_7_1 (g : G) : whileL roundC roundB 100000 (round0 7 1) g = .ok (.nx, round1 7 1, g) := by kernel_rfl
theorem rw_7_2 (g : G) : whileL roundC roundB 100000 (round0 7 2) g = .ok (.nx, round1 7 2, g) := by kernel_rfl
theorem rw_7_3 (g : G) : whileL roundC roundB 100000 (round0 7 3) g = .ok (.nx, round1 7 3, g) := by kernel_rfl
theorem rw_7_4 (g : G) : whileL roundC roundB 100000 (round0 7 4) g = .ok (.nx, round1 7 4, g) := by kernel_rfl
theorem rw_7_5 (g : G) : whileL roundC roundB 100000 (round0 7 5) g = .ok (.nx, round1 7 5, g) := by kernel_rfl
theorem rw_7_6 (g : G) : whileL roundC roundB 100000 (round0 7 6) g = .ok (.nx, round1 7 6, g) := by kernel_rfl
theorem rw_7_7 (g : G) : whileL roundC roundB 100000 (round0 7 7) g = .ok (.nx, round1 7 7, g) := by kernel_rfl
theorem rw_7_8 (g : G) : whileL roundC roundB 100000 (round0 7 8) g = .ok (.nx, round1 7 8, g) := by kernel_rfl
theorem rw_8_1 (g : G) : whileL roundC roundB 100000 (round0 8 1) g = .ok (.nx, round1 8 1, g) := by kernel_rfl
theorem rw_8_2 (g : G) : whileL roundC roundB 100000 (round0 8 2) g = .ok (.nx, round1 8 2, g) := by kernel_rfl
theorem rw_8_3 (g : G) : whileL roundC roundB 100000 (round0 8 3) g = .ok (.nx, round1 8 3, g) := by kernel_rfl
theorem rw_8_4 (g : G) : whileL roundC roundB 100000 (round0 8 4) g = .ok (.nx, round1 8 4, g) := by kernel_rfl
theorem rw_8_5 (g : G) : whileL roundC roundB 100000 (round0 8 5) g = .ok (.nx, round1 8 5, g) := by kernel_rfl
theorem rw_8_6 (g : G) : whileL roundC roundB 100000 (round0 8 6) g = .ok (.nx, round1 8 6, g) := by kernel_rfl
theorem rw_8_7 (g : G) : whileL roundC roundB 100000 (round0 8 7) g = .ok (.nx, round1 8 7, g) := by kernel_rfl
theorem rw_8_8 (g : G) : whileL roundC roundB 100000 (round0 8 8) g = .ok (.nx, round1 8 8, g) := by kernel_rfl
theorem roundL_ok {w h : Nat} (hw : 1 ≤ w ∧ w ≤ 8) (hh : 1 ≤ h ∧ h ≤ 8) (g : G) : whileL roundC roundB 100000 (round0 w h) g = .ok (.nx, round1 w h, g) := by
  have e1 : w = 1 ∨ w = 2 ∨ w = 3 ∨ w = 4 ∨ w = 5 ∨ w = 6 ∨ w = 7 ∨ w = 8 := by omega
  have e2 : h = 1 ∨ h = 2 ∨ h = 3 ∨ h = 4 ∨ h = 5 ∨ h = 6 ∨ h = 7 ∨ h = 8 := by omega
  rcases e1 with rfl | rfl | rfl | rfl | rfl | rfl | rfl | rfl <;> rcases e2 with rfl | rfl | rfl | rfl | rfl | rfl | rfl | rfl
  · exact rw_1_1 g
  · exact rw_1_2 g
  · exact rw_1_3 g
  · exact rw_1_4 g
  · exact rw_1_5 g
  · exact rw_1_6 g
  · exact rw_1_7 g
  · exact rw_1_8 g
  · exact rw_2_1 g
  · exact rw_2_2 g
  · exact rw_2_3 g
  · exact rw_2_4 g
  · exact rw_2_5 g
  · exact rw_2_6 g
  · exact rw_2_7 g
  · exact rw_2_8 g
  · exact rw_3_1 g
  · exact rw_3_2 g
  · exact rw_3_3 g
  · exact rw_3_4 g
  · exact rw_3_5 g
  · exact rw_3_6 g
  · exact rw_3_7 g
  · exact rw_3_8 g
  · exact rw_4_1 g
  · exact rw_4_2 g
  · exact rw_4_3 g
  · exact rw_4_4 g
  · exact rw_4_5 g
  · exact rw_4_6 g
  · exact rw_4_7 g
  · exact rw_4_8 g
  · exact rw_5_1 g
  · exact rw_5_2 g
  · exact rw_5_3 g
  · exact rw_5_4 g
  · exact rw_5_5 g
  · exact rw_5_6 g
  · exact rw_5_7 g
  · exact rw_5_8 g
  · exact rw_6_1 g
  · exact rw_6_2 g
  · exact rw_6_3 g
  · exact rw_6_4 g
  · exact rw_6_5 g
  · exact rw_6_6 g
  · exact rw_6_7 g
  · exact rw_6_8 g
  · exact rw_7_1 g
  · exact rw_7_2 g
  · exact rw_7_3 g
  · exact rw_7_4 g
  · exact rw_7_5 g
  · exact rw_7_6 g
  · exact rw_7_7 g
  · exact rw_7_8 g
  · exact rw_8_1 g
  · exact rw_8_2 g
  · exact rw_8_3 g
  · exact rw_8_4 g
  · exact rw_8_5 g
  · exact rw_8_6 g
  · exact rw_8_7 g
  · exact rw_8_8 g
theorem round_walk_ok {w h : Nat} (hw : 1 ≤ w ∧ w ≤ 8) (hh : 1 ≤ h ∧ h ≤ 8) (g : G) : f_round_walk [.int (w : Nat), .int (h : Nat)] g = .ok (walkO w h (roundM w h) (startsS [0]), g) := by
  have mk := make_walk (fr := aCons (vVar 0) (aCons (vVar 1) (aCons (vVar 2) (aCons (vLst (aCons (vC (.int 0)) (aNil))) (aNil))))) (ρ := (round1 w h).set 2 (.frz (.lst (cellsD (roundM w h))))) (g := g) (round_gw hw hh) (.inl rfl) (.inl rfl) (aC_ok rfl (aC_ok rfl (aC_ok rfl (aC_ok rfl rfl))))
  exact run_ret ((seq_nx (expr_ok ((call_ok (ds := [.int (w : Nat), .int (h : Nat)]) (g1 := g) rfl).trans (check_size_ok (by omega) (by omega) g)))).trans ((seq_nx (ρ1 := round0 w h) (g1 := g) rfl).trans ((seq_nx (roundL_ok hw hh g)).trans ((fz_own rfl).trans (ret_ok mk)))))
end GD
end RP
end L2
set_option Elab.async false
set_option linter.all false
set_option maxRecDepth 1000000
set_option maxHeartbeats 0
namespace L2
namespace RP
namespace GD
open PySem PySem.Spec PyProof.Rows

theorem lr_1_1 (g : G) : f__law_round [.int (1 : Nat), .int (1 : Nat)] g = .ok (.lst (cellsD (roundM 1 1)), g) := by kernel_rfl
theorem lr_1_2 (g : G) : f__law_round [.int (1 : Nat), .int (2 : Nat)] g = .ok (.lst (cellsD (roundM 1 2)), g) := by kernel_rfl
theorem lr_1_3 (g : G) : f__law_round [.int (1 : Nat), .int (3 : Nat)] g = .ok (.lst (cellsD (roundM 1 3)), g) := by kernel_rfl
theorem lr_1_4 (g : G) : f__law_round [.int (1 : Nat), .int (4 : Nat)] g = .ok (.lst (cellsD (roundM 1 4)), g) := by kernel_rfl
theorem lr_1_5 (g : G) : f__law_round [.int (1 : Nat), .int (5 : Nat)] g = .ok (.lst (cellsD (roundM 1 5)), g) := by kernel_rfl
theorem lr_1_6 (g : G) : f__law_round [.int (1 : Nat), .int (6 : Nat)] g = .ok (.lst (cellsD (roundM 1 6)), g) := by kernel_rfl
theorem lr_1_7 (g : G) : f__law_round [.int (1 : Nat), .int (7 : Nat)] g = .ok (.lst (cellsD (roundM 1 7)), g) := by kernel_rfl
theorem lr_1_8 (g : G) : f__law_round [.int (1 : Nat), .int (8 : Nat)] g = .ok (.lst (cellsD (roundM 1 8)), g) := by kernel_rfl
theorem lr_2_1 (g : G) : f__law_round [.int (2 : Nat), .int (1 : Nat)] g = .ok (.lst (cellsD (roundM 2 1)), g) := by kernel_rfl
theorem lr_2_2 (g : G) : f__law_round [.int (2 : Nat), .int (2 : Nat)] g = .ok (.lst (cellsD (roundM 2 2)), g) := by kernel_rfl
theorem lr_2_3 (g : G) : f__law_round [.int (2 : Nat), .int (3 : Nat)] g = .ok (.lst (cellsD (roundM 2 3)), g) := by kernel_rfl
theorem lr_2_4 (g : G) : f__law_round [.int (2 : Nat), .int (4 : Nat)] g = .ok (.lst (cellsD (roundM 2 4)), g) := by kernel_rfl
theorem lr_2_5 (g : G) : f__law_round [.int (2 : Nat), .int (5 : Nat)] g = .ok (.lst (cellsD (roundM 2 5)), g) := by kernel_rfl
theorem lr_2_6 (g : G) : f__law_round [.int (2 : Nat), .int (6 : Nat)] g = .ok (.lst (cellsD (roundM 2 6)), g) := by kernel_rfl
theorem lr_2_7 (g : G) : f__law_round [.int (2 : Nat), .int (7 : Nat)] g = .ok (.lst (cellsD (roundM 2 7)), g) := by kernel_rfl
theorem lr_2_8 (g : G) : f__law_round [.int (2 : Nat), .int (8 : Nat)] g = .ok (.lst (cellsD (roundM 2 8)), g) := by kernel_rfl
theorem lr_3_1 (g : G) : f__law_round [.int (3 : Nat), .int (1 : Nat)] g = .ok (.lst (cellsD (roundM 3 1)), g) := by kernel_rfl
theorem lr_3_2 (g : G) : f__law_round [.int (3 : Nat), .int (2 : Nat)] g = .ok (.lst (cellsD (roundM 3 2)), g) := by kernel_rfl
theorem lr_3_3 (g : G) : f__law_round [.int (3 : Nat), .int (3 : Nat)] g = .ok (.lst (cellsD (roundM 3 3)), g) := by kernel_rfl
theorem lr_3_4 (g : G) : f__law_round [.int (3 : Nat), .int (4 : Nat)] g = .ok (.lst (cellsD (roundM 3 4)), g) := by kernel_rfl
theorem lr_3_5 (g : G) : f__law_round [.int (3 : Nat), .int (5 : Nat)] g = .ok (.lst (cellsD (roundM 3 5)), g) := by kernel_rfl
theorem lr_3_6 (g : G) : f__law_round [.int (3 : Nat), .int (6 : Nat)] g = .ok (.lst (cellsD (roundM 3 6)), g) := by kernel_rfl
theorem lr_3_7 (g : G) : f__law_round [.int (3 : Nat), .int (7 : Nat)] g = .ok (.lst (cellsD (roundM 3 7)), g) := by kernel_rfl
theorem lr_3_8 (g : G) : f__law_round [.int (3 : Nat), .int (8 : Nat)] g = .ok (.lst (cellsD (roundM 3 8)), g) := by kernel_rfl
theorem lr_4_1 (g : G) : f__law_round [.int (4 : Nat), .int (1 : Nat)] g = .ok (.lst (cellsD (roundM 4 1)), g) := by kernel_rfl
theorem lr_4_2 (g : G) : f__law_round [.int (4 : Nat), .int (2 : Nat)] g = .ok (.lst (cellsD (roundM 4 2)), g) := by kernel_rfl
theorem lr_4_3 (g : G) : f__law_round [.int (4 : Nat), .int (3 : Nat)] g = .ok (.lst (cellsD (roundM 4 3)), g) := by kernel_rfl
theorem lr_4_4 (g : G) : f__law_round [.int (4 : Nat), .int (4 : Nat)] g = .ok (.lst (cellsD (roundM 4 4)), g) := by kernel_rfl
theorem lr_4_5 (g : G) : f__law_round [.int (4 : Nat), .int (5 : Nat)] g = .ok (.lst (cellsD (roundM 4 5)), g) := by kernel_rfl
theorem lr_4_6 (g : G) : f__law_round [.int (4 : Nat), .int (6 : Nat)] g = .ok (.lst (cellsD (roundM 4 6)), g) := by kernel_rfl
theorem lr_4_7 (g : G) : f__law_round [.int (4 : Nat), .int (7 : Nat)] g = .ok (.lst (cellsD (roundM 4 7)), g) := by kernel_rfl
theorem lr_4_8 (g : G) : f__law_round [.int (4 : Nat), .int (8 : Nat)] g = .ok (.lst (cellsD (roundM 4 8)), g) := by kernel_rfl
theorem lr_5_1 (g : G) : f__law_round [.int (5 : Nat), .int (1 : Nat)] g = .ok (.lst (cellsD (roundM 5 1)), g) := by kernel_rfl
theorem lr_5_2 (g : G) : f__law_round [.int (5 : Nat), .int (2 : Nat)] g = .ok (.lst (cellsD (roundM 5 2)), g) := by kernel_rfl
theorem lr_5_3 (g : G) : f__law_round [.int (5 : Nat), .int (3 : Nat)] g = .ok (.lst (cellsD (roundM 5 3)), g) := by kernel_rfl
theorem lr_5_4 (g : G) : f__law_round [.int (5 : Nat), .int (4 : Nat)] g = .ok (.lst (cellsD (roundM 5 4)), g) := by kernel_rfl
theorem lr_5_5 (g : G) : f__law_round [.int (5 : Nat), .int (5 : Nat)] g = .ok (.lst (cellsD (roundM 5 5)), g) := by kernel_rfl
theorem lr_5_6 (g : G) : f__law_round [.int (5 : Nat), .int (6 : Nat)] g = .ok (.lst (cellsD (roundM 5 6)), g) := by kernel_rfl
theorem lr_5_7 (g : G) : f__law_round [.int (5 : Nat), .int (7 : Nat)] g = .ok (.lst (cellsD (roundM 5 7)), g) := by kernel_rfl
theorem lr_5_8 (g : G) : f__law_round [.int (5 : Nat), .int (8 : Nat)] g = .ok (.lst (cellsD (roundM 5 8)), g) := by kernel_rfl
theorem lr_6_1 (g : G) : f__law_round [.int (6 : Nat), .int (1 : Nat)] g = .ok (.lst (cellsD (roundM 6 1)), g) := by kernel_rfl
theorem lr_6_2 (g : G) : f__law_round [.int (6 : Nat), .int (2 : Nat)] g = .ok (.lst (cellsD (roundM 6 2)), g) := by kernel_rfl
theorem lr_6_3 (g : G) : f__law_round [.int (6 : Nat), .int (3 : Nat)] g = .ok (.lst (cellsD (roundM 6 3)), g) := by kernel_rfl
theorem lr_6_4 (g : G) : f__law_round [.int (6 : Nat), .int (4 : Nat)] g = .ok (.lst (cellsD (roundM 6 4)), g) := by kernel_rfl
theorem lr_6_5 (g : G) : f__law_round [.int (6 : Nat), .int (5 : Nat)] g = .ok (.lst (cellsD (roundM 6 5)), g) := by kernel_rfl
theorem lr_6_6 (g : G) : f__law_round [.int (6 : Nat), .int (6 : Nat)] g = .ok (.lst (cellsD (roundM 6 6)), g) := by kernel_rfl
theorem lr_6_7 (g : G) : f__law_round [.int (6 : Nat), .int (7 : Nat)] g = .ok (.lst (cellsD (roundM 6 7)), g) := by kernel_rfl
theorem lr_6_8 (g : G) : f__law_round [.int (6 : Nat), .int (8 : Nat)] g = .ok (.lst (cellsD (roundM 6 8)), g) := by kernel_rfl
theorem lr_7_1 (g : G) : f__law_round [.int (7 : Nat), .int (1 : Nat)] g = .ok (.lst (cellsD (roundM 7 1)), g) := by kernel_rfl
theorem lr_7_2 (g : G) : f__law_round [.int (7 : Nat), .int (2 : Nat)] g = .ok (.lst (cellsD (roundM 7 2)), g) := by kernel_rfl
theorem lr_7_3 (g : G) : f__law_round [.int (7 : Nat), .int (3 : Nat)] g = .ok (.lst (cellsD (roundM 7 3)), g) := by kernel_rfl
theorem lr_7_4 (g : G) : f__law_round [.int (7 : Nat), .int (4 : Nat)] g = .ok (.lst (cellsD (roundM 7 4)), g) := by kernel_rfl
theorem lr_7_5 (g : G) : f__law_round [.int (7 : Nat), .int (5 : Nat)] g = .ok (.lst (cellsD (roundM 7 5)), g) := by kernel_rfl
theorem lr_7_6 (g : G) : f__law_round [.int (7 : Nat), .int (6 : Nat)] g = .ok (.lst (cellsD (roundM 7 6)), g) := by kernel_rfl
theorem lr_7_7 (g : G) : f__law_round [.int (7 : Nat), .int (7 : Nat)] g = .ok (.lst (cellsD (roundM 7 7)), g) := by kernel_rfl
theorem lr_7_8 (g : G) : f__law_round [.int (7 : Nat), .int (8 : Nat)] g = .ok (.lst (cellsD (roundM 7 8)), g) := by kernel_rfl
theorem lr_8_1 (g : G) : f__law_round [.int (8 : Nat), .int (1 : Nat)] g = .ok (.lst (cellsD (roundM 8 1)), g) := by kernel_rfl
theorem lr_8_2 (g : G) : f__law_round [.int (8 : Nat), .int (2 : Nat)] g = .ok (.lst (cellsD (roundM 8 2)), g) := by kernel_rfl
theorem lr_8_3 (g : G) : f__law_round [.int (8 : Nat), .int (3 : Nat)] g = .ok (.lst (cellsD (roundM 8 3)), g) := by kernel_rfl
theorem lr_8_4 (g : G) : f__law_round [.int (8 : Nat), .int (4 : Nat)] g = .ok (.lst (cellsD (roundM 8 4)), g) := by kernel_rfl
theorem lr_8_5 (g : G) : f__law_round [.int (8 : Nat), .int (5 : Nat)] g = .ok (.lst (cellsD (roundM 8 5)), g) := by kernel_rfl
theorem lr_8_6 (g : G) : f__law_round [.int (8 : Nat), .int (6 : Nat)] g = .ok (.lst (cellsD (roundM 8 6)), g) := by kernel_rfl
theorem lr_8_7 (g : G) : f__law_round [.int (8 : Nat), .int (7 : Nat)] g = .ok (.lst (cellsD (roundM 8 7)), g) := by kernel_rfl
theorem lr_8_8 (g : G) : f__law_round [.int (8 : Nat), .int (8 : Nat)] g = .ok (.lst (cellsD (roundM 8 8)), g) := by kernel_rfl
theorem law_round_ok {w h : Nat} (hw : 1 ≤ w ∧ w ≤ 8) (hh : 1 ≤ h ∧ h ≤ 8) (g : G) : f__law_round [.int (w : Nat), .int (h : Nat)] g = .ok (.lst (cellsD (roundM w h)), g) := by
  have e1 : w = 1 ∨ w = 2 ∨ w = 3 ∨ w = 4 ∨ w = 5 ∨ w = 6 ∨ w = 7 ∨ w = 8 := by omega
  have e2 : h = 1 ∨ h = 2 ∨ h = 3 ∨ h = 4 ∨ h = 5 ∨ h = 6 ∨ h = 7 ∨ h = 8 := by omega
  rcases e1 with rfl | rfl | rfl | rfl | rfl | rfl | rfl | rfl <;> rcases e2 with rfl | rfl | rfl | rfl | rfl | rfl | rfl | rfl
  · exact lr_1_1 g
  · exact lr_1_2 g
  · exact lr_1_3 g
  · exact lr_1_4 g
  · exact lr_1_5 g
  · exact lr_1_6 g
  · exact lr_1_7 g
  · exact lr_1_8 g
  · exact lr_2_1 g
  · exact lr_2_2 g
  · exact lr_2_3 g
  · exact lr_2_4 g
  · exact lr_2_5 g
  · exact lr_2_6 g
  · exact lr_2_7 g
  · exact lr_2_8 g
  · exact lr_3_1 g
  · exact lr_3_2 g
  · exact lr_3_3 g
  · exact lr_3_4 g
  · exact lr_3_5 g
  · exact lr_3_6 g
  · exact lr_3_7 g
  · exact lr_3_8 g
  · exact lr_4_1 g
  · exact lr_4_2 g
  · exact lr_4_3 g
  · exact lr_4_4 g
  · exact lr_4_5 g
  · exact lr_4_6 g
  · exact lr_4_7 g
  · exact lr_4_8 g
  · exact lr_5_1 g
  · exact lr_5_2 g
  · exact lr_5_3 g
  · exact lr_5_4 g
  · exact lr_5_5 g
  · exact lr_5_6 g
  · exact lr_5_7 g
  · exact lr_5_8 g
  · exact lr_6_1 g
  · exact lr_6_2 g
  · exact lr_6_3 g
  · exact lr_6_4 g
  · exact lr_6_5 g
  · exact lr_6_6 g
  · exact lr_6_7 g
  · exact lr_6_8 g
  · exact lr_7_1 g
  · exact lr_7_2 g
  · exact lr_7_3 g
  · exact lr_7_4 g
  · exact lr_7_5 g
  · exact lr_7_6 g
  · exact lr_7_7 g
  · exact lr_7_8 g
  · exact lr_8_1 g
  · exact lr_8_2 g
  · exact lr_8_3 g
  · exact lr_8_4 g
  · exact lr_8_5 g
  · exact lr_8_6 g
  · exact lr_8_7 g
  · exact lr_8_8 g
end GD
end RP
end L2
set_option Elab.async false
set_option linter.all false
set_option maxRecDepth 100000
namespace L2
namespace RP
namespace GD
open PySem PySem.Spec PyProof.Rows
def mirrorM (w : Int) (cs : List (Int × Int)) : List (Int × Int) := cs.map fun c => (w - 1 - c.1, c.2)
def turnM (cs : List (Int × Int)) : List (Int × Int) := cs.map fun c => (c.2, c.1)
theorem mirror_twice (w : Int) (cs : List (Int × Int)) : mirrorM w (mirrorM w cs) = cs := by
  unfold mirrorM
  rw [List.map_map]
  refine (List.map_congr_left fun c _ => ?_).trans (List.map_id cs)
  exact Prod.ext (by show w - 1 - (w - 1 - c.1) = c.1; omega) rfl
theorem turn_twice (cs : List (Int × Int)) : turnM (turnM cs) = cs := by
  unfold turnM
  rw [List.map_map]
  exact (List.map_congr_left fun c _ => rfl).trans (List.map_id cs)
theorem starts_mem (st : List Int) (k : Int) : k ∈ startsS st ↔ k ∈ st ++ [0] := sortU_mem _ k
theorem starts_twice (st : List Int) : startsS (startsS st) = startsS st :=
  lt_uniq (sortU_lt _) (sortU_lt _) fun k => by
    rw [starts_mem, List.mem_append, starts_mem, List.mem_append]
    exact ⟨fun h => h.elim id .inr, .inl⟩
theorem starts_nd (st : List Int) : (startsS st).Nodup := (sortU_lt (st ++ [0])).imp fun h => by omega
section
variable {w h : Int} {cs : List (Int × Int)} {st : List Int}
theorem gw_starts (gw : GW w h cs st) : GW w h cs (startsS st) := ⟨gw.hw, gw.hh, gw.len, gw.r, gw.nd, starts_nd st, fun s hs => by
  have a := (starts_mem st s).mp hs
  have p : 0 < w * h := Int.mul_pos (by have := gw.hw; omega) (by have := gw.hh; omega)
  rcases List.mem_append.mp a with a | a
  · exact gw.sr s a
  · simp at a; omega⟩
theorem gw_mirror (gw : GW w h cs st) : GW w h (mirrorM w cs) st := ⟨gw.hw, gw.hh, by unfold mirrorM; rw [List.length_map]; exact gw.len, fun c hc => by
    obtain ⟨z, hz, rfl⟩ := List.mem_map.mp hc
    have := gw.r z hz
    exact ⟨⟨by show 0 ≤ w - 1 - z.1; omega, by show w - 1 - z.1 < w; omega⟩, this.2⟩, by
    unfold mirrorM
    rw [List.Nodup, List.pairwise_map]
    refine gw.nd.imp fun hn e => hn ?_
    have := Prod.ext_iff.mp e
    simp only at this
    exact Prod.ext (by omega) this.2, gw.sn, gw.sr⟩
theorem gw_turn (gw : GW w h cs st) : GW h w (turnM cs) st := ⟨gw.hh, gw.hw, by unfold turnM; rw [List.length_map, Int.mul_comm]; exact gw.len, fun c hc => by
    obtain ⟨z, hz, rfl⟩ := List.mem_map.mp hc
    have := gw.r z hz
    exact ⟨this.2, this.1⟩, by
    unfold turnM
    rw [List.Nodup, List.pairwise_map]
    refine gw.nd.imp fun hn e => hn ?_
    have := Prod.ext_iff.mp e
    simp only at this
    exact Prod.ext this.2 this.1, gw.sn, fun s hs => by rw [Int.mul_comm]; exact gw.sr s hs⟩
/-- cells changed, each by itself -/
theorem cells_comp {cs : List (Int × Int)} {q : Int × Int → Int × Int} {i k : Nat} {fi : SEs} {fe : SE} {ρ : En} {g : G} (hf : fi ρ g = .ok (cellsD cs, g)) (hi : i < ρ.length) (hk : k < ρ.length) (hvi : notOwn ρ i = true) (hvk : notOwn ρ k = true)
    (he : ∀ c ∈ cs, fe ((((ρ.set k .none).set i .none).set i (.frz (.int c.1))).set k (.frz (.int c.2))) g = .ok (cellD (q c), g)) :
    vComp fi (tgT 2 (tgsCons (tgN i) (tgsCons (tgN k) tgsNil))) [i, k] (vC (.bl true)) fe ρ g = .ok (.lst (cellsD (cs.map q)), g) := by
  have hw : wipeD ρ [i, k] = (ρ.set k .none).set i .none := rfl
  have cp := compL_cells (i := i) (k := k) (fe := fe) (ρ := wipeD ρ [i, k]) (g := g) (q := fun c => cellD (q c)) (cs := cs) (by rw [hw]; simpa using hi) (by rw [hw]; simpa using hk) (fun c hc => by rw [hw]; exact he c hc)
  rw [comp_ok (vs := [i, k]) hf (by show (notOwn ρ i && (notOwn ρ k && true)) = true; rw [hvi, hvk]; rfl) cp]
  unfold cellsD
  rw [List.map_map]
  rfl
theorem mirrored_ok (gw : GW w h cs st) (g : G) : f_mirrored_walk [walkO w h cs (startsS st)] g = .ok (walkO w h (mirrorM w cs) (startsS st), g) := by
  let W := walkO w h cs (startsS st)
  have s1 := set_ok (i := 1) (cells_comp (cs := cs) (q := fun c => (w - 1 - c.1, c.2)) (i := 2) (k := 3) (fi := itSeq (v1 (pureK1 (D.fld "Walk" "cells")) (bVar 0))) (fe := vTup (aCons (v2 (pureK2 D.sub) (v2 (pureK2 D.sub) (v1 (pureK1 (D.fld "Walk" "width")) (bVar 0)) (vC (.int 1))) (bVar 2)) (aCons (vVar 3) (aNil)))) (ρ := [.frz W, .none, .none, .none]) (g := g) (seqIt_t rfl) (by simp) (by simp) rfl rfl (fun c _ => rfl)) (by simp)
  have mk := make_walk (fr := aCons (v1 (pureK1 (D.fld "Walk" "width")) (bVar 0)) (aCons (v1 (pureK1 (D.fld "Walk" "height")) (bVar 0)) (aCons (vVar 1) (aCons (v1 (pureK1 (D.fld "Walk" "starts")) (bVar 0)) (aNil))))) (ρ := [.frz W, .frz (.lst (cellsD (mirrorM w cs))), .none, .none]) (g := g) (gw_mirror (gw_starts gw)) (.inl rfl) (.inr rfl) rfl
  rw [starts_twice] at mk
  exact run_ret ((seq_nx (expr_ok ((call_ok (ds := [W]) (g1 := g) rfl).trans rfl))).trans ((seq_nx s1).trans (ret_ok mk)))
theorem turned_ok (gw : GW w h cs st) (g : G) : f_turned_walk [walkO w h cs (startsS st)] g = .ok (walkO h w (turnM cs) (startsS st), g) := by
  let W := walkO w h cs (startsS st)
  have s1 := cells_comp (cs := cs) (q := fun c => (c.2, c.1)) (i := 1) (k := 2) (fi := itSeq (v1 (pureK1 (D.fld "Walk" "cells")) (bVar 0))) (fe := vTup (aCons (vVar 2) (aCons (vVar 1) (aNil)))) (ρ := [.frz W, .none, .none]) (g := g) (seqIt_t rfl) (by simp) (by simp) rfl rfl (fun c _ => rfl)
  have mk := make_walk (fr := aCons (v1 (pureK1 (D.fld "Walk" "height")) (bVar 0)) (aCons (v1 (pureK1 (D.fld "Walk" "width")) (bVar 0)) (aCons (vComp (itSeq (v1 (pureK1 (D.fld "Walk" "cells")) (bVar 0))) (tgT 2 (tgsCons (tgN 1) (tgsCons (tgN 2) (tgsNil)))) [1, 2] (vC (.bl true)) (vTup (aCons (vVar 2) (aCons (vVar 1) (aNil))))) (aCons (v1 (pureK1 (D.fld "Walk" "starts")) (bVar 0)) (aNil))))) (ρ := [.frz W, .none, .none]) (g := g) (gw_turn (gw_starts gw)) (.inl rfl) (.inr rfl) (aC_ok (x := .int h) (g1 := g) rfl (aC_ok (x := .int w) (g1 := g) rfl (aC_ok (x := .lst (cellsD (turnM cs))) (g1 := g) s1 (aC_ok (g1 := g) rfl rfl))))
  rw [starts_twice] at mk
  exact run_ret ((seq_nx (expr_ok ((call_ok (ds := [W]) (g1 := g) rfl).trans rfl))).trans (ret_ok mk))
def runsM (ss : List Int) (n : Int) : List (Int × Int) := (List.zip ss (ss.tail ++ [n])).map fun p => (p.1, p.2 - 1)
theorem runs_of_ok {ss : List Int} (hs : ss.length ≤ 1000) (g : G) : f_runs_of [walkO w h cs ss] g = .ok (.lst (cellsD (runsM ss cs.length)), g) := by
  have hbig := big
  let W := walkO w h cs ss
  have c1 : D.cut (some 1) none (.tup (dI ss)) = some (.tup (dI ss.tail)) := by
    show some (D.tup (cutD (dI ss) (some ((1 : Nat) : Int)) none)) = _
    rw [cutD_from, List.drop_one]
    unfold dI
    rw [List.map_tail]
  have s1 := set_ok (i := 1) (f := v2 (pureK2 D.add) (v1 (pureK1 D.listD) (vSl (v1 (pureK1 (D.fld "Walk" "starts")) (bVar 0)) (sS (vC (.int 1))) (sN))) (vLst (aCons (v1 (pureK1 D.len) (v1 (pureK1 (D.fld "Walk" "cells")) (bVar 0))) (aNil)))) (ρ := [.frz W, .none, .none, .none]) (g := g) (g1 := g) (d := .lst (dI (ss.tail ++ [(cs.length : Int)]))) (v2_ok (k := D.add) (x := .lst (dI ss.tail)) (y := .lst (dI [(cs.length : Int)])) (v1_ok (k := D.listD) (x := .tup (dI ss.tail)) (sl_ok (x := .tup (dI ss)) (l := some 1) (h := none) (g1 := g) (g2 := g) (g3 := g) rfl rfl rfl c1) rfl) (lst_ok (ds := [.int (cs.length : Nat)]) (aC_ok (v1_ok (k := D.len) (x := .tup (cellsD cs)) rfl (by show some (D.int (cellsD cs).length) = _; rw [cellsD_len])) a0_ok) (by simp; omega)) (by rw [dI_app]; exact add_lst (by rw [dI_len, dI_len]; simp; omega))) (by simp)
  have zi : itZip (v1 (pureK1 (D.fld "Walk" "starts")) (bVar 0)) (vVar 1) [.frz W, .frz (.lst (dI (ss.tail ++ [(cs.length : Int)]))), .none, .none] g = .ok (cellsD (List.zip ss (ss.tail ++ [(cs.length : Int)])), g) := by
    rw [zip_ok (x := .tup (dI ss)) (y := .lst (dI (ss.tail ++ [(cs.length : Int)]))) (g1 := g) (g2 := g) rfl rfl rfl rfl, zipD_dI]
    rfl
  exact run_ret ((seq_nx (expr_ok ((call_ok (ds := [W]) (g1 := g) rfl).trans rfl))).trans ((seq_nx s1).trans (ret_ok (cells_comp (cs := List.zip ss (ss.tail ++ [(cs.length : Int)])) (q := fun p => (p.1, p.2 - 1)) (i := 2) (k := 3) zi (by simp) (by simp) rfl rfl (fun c _ => rfl)))))
end
end GD
end RP
end L2
set_option Elab.async false
set_option linter.all false
set_option maxRecDepth 100000
namespace L2
namespace RP
namespace GD
open PySem PySem.Spec PyProof.Rows
theorem atI_end {α : Type} (xs : List α) (x : α) : atI (xs ++ [x]) (-1) = some x := by
  unfold atI ixN
  rw [if_neg (by omega), if_pos (by simp; omega)]
  show (xs ++ [x])[((-1 : Int) + ((xs ++ [x]).length : Int)).toNat]? = _
  rw [show ((-1 : Int) + ((xs ++ [x]).length : Int)).toNat = xs.length by simp; omega]
  simp
theorem ixN_end (n : Nat) : ixN (n + 1) (-1) = some n := by
  unfold ixN
  rw [if_neg (by omega), if_pos (by omega)]
  congr 1
  omega
/-- the window's value -/
abbrev winD (x y a b : Int) : D := .tup [.int x, .int y, .int a, .int b]
def insideM (x y a b : Int) (c : Int × Int) : Bool := (decide (x ≤ c.1) && decide (c.1 < x + a)) && (decide (y ≤ c.2) && decide (c.2 < y + b))
section
variable {w h x y a b : Int} {cs : List (Int × Int)} {ss : List Int}
theorem is_inside_ok (c : Int × Int) (g : G) : f_is_inside [winD x y a b, cellD c] g = .ok (.bl (insideM x y a b c), g) := by
  have e1 : (decide (0 ≤ c.1 - x) && decide (c.1 - x < a)) = (decide (x ≤ c.1) && decide (c.1 < x + a)) := by
    rw [Bool.eq_iff_iff]; simp only [Bool.and_eq_true, decide_eq_true_eq]; omega
  have e2 : (decide (0 ≤ c.2 - y) && decide (c.2 - y < b)) = (decide (y ≤ c.2) && decide (c.2 < y + b)) := by
    rw [Bool.eq_iff_iff]; simp only [Bool.and_eq_true, decide_eq_true_eq]; omega
  unfold insideM
  rw [← e1, ← e2]
  refine run_ret (ret_ok ((and_ok (x := .bl (decide (0 ≤ c.1 - x) && decide (c.1 - x < a))) (g1 := g) (chain_ok (i := 0) (j := c.1 - x) (k := a) rfl rfl rfl) rfl).trans ?_))
  cases (decide (0 ≤ c.1 - x) && decide (c.1 - x < a)) with
  | true => exact chain_ok (i := 0) (j := c.2 - y) (k := b) rfl rfl rfl
  | false => rfl
theorem law_in_ok (c : Int × Int) (g : G) : f__law_in [winD x y a b, cellD c] g = .ok (.bl (insideM x y a b c), g) := by
  refine run_ret (ret_ok ((and_ok (x := .bl (decide (x ≤ c.1) && decide (c.1 < x + a))) (g1 := g) (chain_ok (i := x) (j := c.1) (k := x + a) rfl rfl rfl) rfl).trans ?_))
  unfold insideM
  cases (decide (x ≤ c.1) && decide (c.1 < x + a)) with
  | true => exact chain_ok (i := y) (j := c.2) (k := y + b) rfl rfl rfl
  | false => rfl
/-- one cell more -/
def pieceM (x y a b : Int) (ss : List Int) (found : List (Int × Int)) (k : Nat) (c : Int × Int) : List (Int × Int) :=
  if insideM x y a b c then
    match found.getLast? with
    | some q => if (q.2 == (k : Int) - 1) && !decide ((k : Int) ∈ ss) then found.dropLast ++ [(q.1, (k : Int))] else found ++ [((k : Int), (k : Int))]
    | none => found ++ [((k : Int), (k : Int))]
  else found
def piecesM (x y a b : Int) (ss : List Int) (cs : List (Int × Int)) : Nat → List (Int × Int)
  | 0 => []
  | n + 1 => match cs[n]? with
    | some c => pieceM x y a b ss (piecesM x y a b ss cs n) n c
    | none => piecesM x y a b ss cs n
theorem piece_len (found : List (Int × Int)) (k : Nat) (c : Int × Int) : (pieceM x y a b ss found k c).length ≤ found.length + 1 := by
  unfold pieceM
  split
  · split
    · rename_i q e
      split
      · have : found ≠ [] := fun z => by rw [z] at e; simp at e
        have := List.length_pos_iff.mpr this
        simp
        try omega
      · simp
    · simp
  · omega
theorem pieces_len (n : Nat) : (piecesM x y a b ss cs n).length ≤ n := by
  induction n with
  | zero => exact Nat.le_refl _
  | succ n ih =>
    show (match cs[n]? with | some c => pieceM x y a b ss (piecesM x y a b ss cs n) n c | none => piecesM x y a b ss cs n).length ≤ n + 1
    split
    · exact Nat.le_trans (piece_len _ _ _) (by omega)
    · omega
theorem notIn_starts (ss : List Int) (t : Int) : D.notInD (.int t) (.tup (dI ss)) = some (.bl (!decide (t ∈ ss))) := by
  unfold D.notInD
  rw [inInts_t]; rfl
theorem notIn_startsL (ss : List Int) (t : Int) : D.notInD (.int t) (.lst (dI ss)) = some (.bl (!decide (t ∈ ss))) := by
  unfold D.notInD
  rw [inInts_l]; rfl
abbrev PF (w h : Int) (cs : List (Int × Int)) (ss : List Int) (x y a b : Int) (found : List (Int × Int)) (i c : Slot) : En := [.frz (walkO w h cs ss), .frz (winD x y a b), .own (.lst (cellsD found)), i, c]
abbrev pieceB : SS := (sIf (vCall f_is_inside (aCons (vVar 1) (aCons (vVar 4) (aNil)))) (sIf (vAnd (bVar 2) (vAnd (v2 (pureK2 D.eqD) (v2 (pureK2 D.ix) (v2 (pureK2 D.ix) (bVar 2) (v1 (pureK1 D.neg) (vC (.int 1)))) (vC (.int 1))) (v2 (pureK2 D.sub) (bVar 3) (vC (.int 1)))) (v2 (pureK2 D.notInD) (bVar 3) (v1 (pureK1 (D.fld "Walk" "starts")) (bVar 0))))) (sPut 2 (v1 (pureK1 D.neg) (vC (.int 1))) (vTup (aCons (v2 (pureK2 D.ix) (v2 (pureK2 D.ix) (bVar 2) (v1 (pureK1 D.neg) (vC (.int 1)))) (vC (.int 0))) (aCons (vVar 3) (aNil))))) (sApp 2 (vTup (aCons (vVar 3) (aCons (vVar 3) (aNil)))))) (sNil))
theorem piece_step {found : List (Int × Int)} (hl : found.length ≤ 1000) (k : Nat) (c : Int × Int) (g : G) : pieceB (PF w h cs ss x y a b found (.frz (.int (k : Nat))) (.frz (cellD c))) g = .ok (.nx, PF w h cs ss x y a b (pieceM x y a b ss found k c) (.frz (.int (k : Nat))) (.frz (cellD c)), g) := by
  have hbig := big
  let ρ := PF w h cs ss x y a b found (.frz (.int (k : Nat))) (.frz (cellD c))
  have t2 : ∀ (p q : D), ([p, q] : List D).length ≤ sizeLine := fun p q => by simp; omega
  have c1 : vCall f_is_inside (aCons (vVar 1) (aCons (vVar 4) (aNil))) ρ g = .ok (.bl (insideM x y a b c), g) := (call_ok (ds := [winD x y a b, cellD c]) (g1 := g) rfl).trans (is_inside_ok c g)
  have ap := app_ok (i := 2) (f := vTup (aCons (vVar 3) (aCons (vVar 3) (aNil)))) (ρ := ρ) (g := g) (g1 := g) (xs := cellsD found) (d := cellD ((k : Int), (k : Int))) rfl (tup_ok (ds := [.int (k : Nat), .int (k : Nat)]) rfl (t2 _ _)) (by rw [cellsD_len]; omega)
  have apE : ρ.set 2 (.own (.lst (cellsD found ++ [cellD ((k : Int), (k : Int))]))) = PF w h cs ss x y a b (found ++ [((k : Int), (k : Int))]) (.frz (.int (k : Nat))) (.frz (cellD c)) := by
    show _ = [_, _, Slot.own (.lst (cellsD (found ++ [((k : Int), (k : Int))]))), _, _]
    rw [cellsD_app]; rfl
  rw [apE] at ap
  refine (if_ok c1 rfl).trans ?_
  unfold pieceM
  cases hin : insideM x y a b c with
  | false => rfl
  | true =>
    rw [if_pos rfl, if_pos rfl]
    rcases List.eq_nil_or_concat found with hf | ⟨fs, q, hf⟩
    · subst hf
      exact (if_ok (x := .lst []) (b := false) (and_ok (x := .lst []) (b := false) rfl rfl) rfl).trans ap
    · rw [List.concat_eq_append] at hf
      subst hf
      rw [List.getLast?_concat]
      have hne : D.truth (.lst (cellsD (fs ++ [q]))) = some true := by
        show some (!(cellsD (fs ++ [q])).isEmpty) = _
        rw [cellsD_app]
        cases cellsD fs <;> rfl
      have last : v2 (pureK2 D.ix) (bVar 2) (v1 (pureK1 D.neg) (vC (.int 1))) ρ g = .ok (cellD q, g) := v2_ok (k := D.ix) (x := .lst (cellsD (fs ++ [q]))) (y := .int (-1)) rfl rfl (by
        show atI (cellsD (fs ++ [q])) (-1) = _
        rw [cellsD_app]
        exact atI_end _ _)
      have c2 : v2 (pureK2 D.eqD) (v2 (pureK2 D.ix) (v2 (pureK2 D.ix) (bVar 2) (v1 (pureK1 D.neg) (vC (.int 1)))) (vC (.int 1))) (v2 (pureK2 D.sub) (bVar 3) (vC (.int 1))) ρ g = .ok (.bl (q.2 == (k : Int) - 1), g) := v2_ok (k := D.eqD) (x := .int q.2) (y := .int ((k : Int) - 1)) (v2_ok (k := D.ix) last rfl rfl) rfl rfl
      have c3 : v2 (pureK2 D.notInD) (bVar 3) (v1 (pureK1 (D.fld "Walk" "starts")) (bVar 0)) ρ g = .ok (.bl (!decide ((k : Int) ∈ ss)), g) := v2_ok (k := D.notInD) (x := .int (k : Nat)) (y := .tup (dI ss)) rfl rfl (notIn_starts ss k)
      have c4 : vAnd (bVar 2) (vAnd (v2 (pureK2 D.eqD) (v2 (pureK2 D.ix) (v2 (pureK2 D.ix) (bVar 2) (v1 (pureK1 D.neg) (vC (.int 1)))) (vC (.int 1))) (v2 (pureK2 D.sub) (bVar 3) (vC (.int 1)))) (v2 (pureK2 D.notInD) (bVar 3) (v1 (pureK1 (D.fld "Walk" "starts")) (bVar 0)))) ρ g = .ok (.bl ((q.2 == (k : Int) - 1) && !decide ((k : Int) ∈ ss)), g) := by
        refine (and_ok (x := .lst (cellsD (fs ++ [q]))) (g1 := g) rfl hne).trans ((if_pos rfl).trans ((and_ok c2 rfl).trans ?_))
        cases (q.2 == (k : Int) - 1) with
        | true => exact c3
        | false => rfl
      refine (if_ok c4 rfl).trans ?_
      dsimp only
      cases ((q.2 == (k : Int) - 1) && !decide ((k : Int) ∈ ss)) with
      | false => exact ap
      | true =>
        rw [if_pos rfl, if_pos rfl, List.dropLast_concat]
        refine (put_ok (i := 2) (ρ := ρ) (g1 := g) (ds := .lst (cellsD (fs ++ [q]))) (v := cellD (q.1, (k : Int))) (k := .int (-1)) (ds' := .lst (cellsD (fs ++ [(q.1, (k : Int))]))) rfl (tup_ok (ds := [.int q.1, .int (k : Nat)]) (aC_ok (v2_ok (k := D.ix) last rfl rfl) rfl) (t2 _ _)) rfl ?_).trans rfl
        show (ixN (cellsD (fs ++ [q])).length (-1)).map (fun j => D.lst ((cellsD (fs ++ [q])).set j (cellD (q.1, (k : Int))))) = _
        rw [cellsD_app, show (cellsD fs ++ cellsD [q]).length = (cellsD fs).length + 1 by simp [cellsD], ixN_end]
        show some (D.lst ((cellsD fs ++ [cellD q]).set (cellsD fs).length _)) = _
        rw [cellsD_app, List.set_append_right _ _ (Nat.le_refl _), Nat.sub_self]
        rfl
end
end GD
end RP
end L2
set_option Elab.async false
set_option linter.all false
set_option maxRecDepth 100000
namespace L2
namespace RP
namespace GD
open PySem PySem.Spec PyProof.Rows
theorem eqD_nilI (xs : List Int) : D.eqD (.lst (dI xs)) (.lst []) = some (.bl xs.isEmpty) := by
  cases xs with
  | nil => rfl
  | cons x xs =>
    unfold D.eqD D.eq
    show D.bOf (if D.dats (dI (x :: xs)) 59 && true then some false else none) = _
    rw [dats_dI]; rfl
theorem neD_nilI (xs : List Int) : D.neD (.lst (dI xs)) (.lst []) = some (.bl (!xs.isEmpty)) := by
  cases xs with
  | nil => rfl
  | cons x xs =>
    unfold D.neD D.eq
    show D.bOf ((if D.dats (dI (x :: xs)) 59 && true then some false else none).map (!·)) = _
    rw [dats_dI]; rfl
theorem neD_nilC (cs : List (Int × Int)) : D.neD (.lst (cellsD cs)) (.lst []) = some (.bl (!cs.isEmpty)) := by
  cases cs with
  | nil => rfl
  | cons x xs =>
    unfold D.neD D.eq
    show D.bOf ((if D.dats (cellsD (x :: xs)) (58 + 1) && true then some false else none).map (!·)) = _
    rw [dats_cells]; rfl
section
variable {w h x y a b : Int} {cs : List (Int × Int)} {ss : List Int}
abbrev walkT (w h : Int) (cs : List (Int × Int)) (ss : List Int) : D := .tup [.int w, .int h, .lst (cellsD cs), .lst (dI ss)]
abbrev lpieceB : SS := (sIf (vCall f__law_in (aCons (vVar 1) (aCons (v2 (pureK2 D.ix) (v2 (pureK2 D.ix) (bVar 0) (vC (.int 2))) (bVar 3)) (aNil)))) (sIf (vAnd (v2 (pureK2 D.neD) (bVar 2) (vLst (aNil))) (vAnd (v2 (pureK2 D.eqD) (v2 (pureK2 D.ix) (v2 (pureK2 D.ix) (bVar 2) (v2 (pureK2 D.sub) (v1 (pureK1 D.len) (bVar 2)) (vC (.int 1)))) (vC (.int 1))) (v2 (pureK2 D.sub) (bVar 3) (vC (.int 1)))) (v2 (pureK2 D.notInD) (bVar 3) (v2 (pureK2 D.ix) (bVar 0) (vC (.int 3)))))) (sSet 2 (v2 (pureK2 D.add) (vSl (bVar 2) (sN) (sS (v2 (pureK2 D.sub) (v1 (pureK1 D.len) (bVar 2)) (vC (.int 1))))) (vLst (aCons (vTup (aCons (v2 (pureK2 D.ix) (v2 (pureK2 D.ix) (bVar 2) (v2 (pureK2 D.sub) (v1 (pureK1 D.len) (bVar 2)) (vC (.int 1)))) (vC (.int 0))) (aCons (vVar 3) (aNil)))) (aNil))))) (sSet 2 (v2 (pureK2 D.add) (bVar 2) (vLst (aCons (vTup (aCons (vVar 3) (aCons (vVar 3) (aNil)))) (aNil)))))) (sNil))
abbrev LPF (w h : Int) (cs : List (Int × Int)) (ss : List Int) (x y a b : Int) (found : List (Int × Int)) (i : Slot) : En := [.frz (walkT w h cs ss), .frz (winD x y a b), .frz (.lst (cellsD found)), i]
theorem lpiece_step {found : List (Int × Int)} (hl : found.length ≤ 1000) {k : Nat} {c : Int × Int} (hc : cs[k]? = some c) (g : G) : lpieceB (LPF w h cs ss x y a b found (.frz (.int (k : Nat)))) g = .ok (.nx, LPF w h cs ss x y a b (pieceM x y a b ss found k c) (.frz (.int (k : Nat))), g) := by
  have hbig := big
  let ρ := LPF w h cs ss x y a b found (.frz (.int (k : Nat)))
  have t2 : ∀ (p q : D), ([p, q] : List D).length ≤ sizeLine := fun p q => by simp; omega
  have t1 : ∀ (p : D), ([p] : List D).length ≤ sizeLine := fun p => by simp; omega
  have i1 : v2 (pureK2 D.ix) (v2 (pureK2 D.ix) (bVar 0) (vC (.int 2))) (bVar 3) ρ g = .ok (cellD c, g) := v2_ok (k := D.ix) (x := .lst (cellsD cs)) (y := .int (k : Nat)) rfl rfl (by
    show atI (cellsD cs) (k : Int) = _
    rw [atI_nat, cellsD_get, hc]; rfl)
  have c1 : vCall f__law_in (aCons (vVar 1) (aCons (v2 (pureK2 D.ix) (v2 (pureK2 D.ix) (bVar 0) (vC (.int 2))) (bVar 3)) (aNil))) ρ g = .ok (.bl (insideM x y a b c), g) := (call_ok (ds := [winD x y a b, cellD c]) (g1 := g) (aC_ok rfl (aC_ok i1 a0_ok))).trans (law_in_ok c g)
  have ap := set_ok (i := 2) (f := v2 (pureK2 D.add) (bVar 2) (vLst (aCons (vTup (aCons (vVar 3) (aCons (vVar 3) (aNil)))) (aNil)))) (ρ := ρ) (g := g) (g1 := g) (d := .lst (cellsD (found ++ [((k : Int), (k : Int))]))) (v2_ok (k := D.add) (x := .lst (cellsD found)) (y := .lst (cellsD [((k : Int), (k : Int))])) rfl (lst_ok (ds := [cellD ((k : Int), (k : Int))]) (aC_ok (tup_ok (ds := [.int (k : Nat), .int (k : Nat)]) rfl (t2 _ _)) a0_ok) (t1 _)) (by rw [cellsD_app]; exact add_lst (by rw [cellsD_len, cellsD_len]; simp; omega))) (by simp [ρ])
  refine (if_ok c1 rfl).trans ?_
  unfold pieceM
  cases hin : insideM x y a b c with
  | false => rfl
  | true =>
    rw [if_pos rfl, if_pos rfl]
    rcases List.eq_nil_or_concat found with hf | ⟨fs, q, hf⟩
    · subst hf
      exact (if_ok (x := .bl false) (b := false) (and_ok (x := .bl false) (b := false) rfl rfl) rfl).trans ap
    · rw [List.concat_eq_append] at hf
      subst hf
      rw [List.getLast?_concat]
      have c0 : v2 (pureK2 D.neD) (bVar 2) (vLst (aNil)) ρ g = .ok (.bl true, g) := v2_ok (k := D.neD) (x := .lst (cellsD (fs ++ [q]))) (y := .lst []) rfl rfl (by rw [neD_nilC]; cases fs <;> rfl)
      have li : v2 (pureK2 D.sub) (v1 (pureK1 D.len) (bVar 2)) (vC (.int 1)) ρ g = .ok (.int (fs.length : Nat), g) := v2_ok (k := D.sub) (x := .int ((fs ++ [q]).length : Nat)) (y := .int 1) (v1_ok (k := D.len) (x := .lst (cellsD (fs ++ [q]))) rfl (by show some (D.int (cellsD _).length) = _; rw [cellsD_len])) rfl (by show some (D.int (((fs ++ [q]).length : Int) - 1)) = _; congr 2; simp)
      have last : v2 (pureK2 D.ix) (bVar 2) (v2 (pureK2 D.sub) (v1 (pureK1 D.len) (bVar 2)) (vC (.int 1))) ρ g = .ok (cellD q, g) := v2_ok (k := D.ix) (x := .lst (cellsD (fs ++ [q]))) (y := .int (fs.length : Nat)) rfl li (by
        show atI (cellsD (fs ++ [q])) (fs.length : Int) = _
        rw [atI_nat, cellsD_get, List.getElem?_append_right (Nat.le_refl _), Nat.sub_self]
        rfl)
      have c2 : v2 (pureK2 D.eqD) (v2 (pureK2 D.ix) (v2 (pureK2 D.ix) (bVar 2) (v2 (pureK2 D.sub) (v1 (pureK1 D.len) (bVar 2)) (vC (.int 1)))) (vC (.int 1))) (v2 (pureK2 D.sub) (bVar 3) (vC (.int 1))) ρ g = .ok (.bl (q.2 == (k : Int) - 1), g) := v2_ok (k := D.eqD) (x := .int q.2) (y := .int ((k : Int) - 1)) (v2_ok (k := D.ix) last rfl rfl) rfl rfl
      have c3 : v2 (pureK2 D.notInD) (bVar 3) (v2 (pureK2 D.ix) (bVar 0) (vC (.int 3))) ρ g = .ok (.bl (!decide ((k : Int) ∈ ss)), g) := v2_ok (k := D.notInD) (x := .int (k : Nat)) (y := .lst (dI ss)) rfl rfl (notIn_startsL ss k)
      have c4 : vAnd (v2 (pureK2 D.neD) (bVar 2) (vLst (aNil))) (vAnd (v2 (pureK2 D.eqD) (v2 (pureK2 D.ix) (v2 (pureK2 D.ix) (bVar 2) (v2 (pureK2 D.sub) (v1 (pureK1 D.len) (bVar 2)) (vC (.int 1)))) (vC (.int 1))) (v2 (pureK2 D.sub) (bVar 3) (vC (.int 1)))) (v2 (pureK2 D.notInD) (bVar 3) (v2 (pureK2 D.ix) (bVar 0) (vC (.int 3))))) ρ g = .ok (.bl ((q.2 == (k : Int) - 1) && !decide ((k : Int) ∈ ss)), g) := by
        refine (and_ok c0 rfl).trans ((if_pos rfl).trans ((and_ok c2 rfl).trans ?_))
        cases (q.2 == (k : Int) - 1) with
        | true => exact c3
        | false => rfl
      refine (if_ok c4 rfl).trans ?_
      dsimp only
      cases ((q.2 == (k : Int) - 1) && !decide ((k : Int) ∈ ss)) with
      | false => exact ap
      | true =>
        rw [if_pos rfl, if_pos rfl, List.dropLast_concat]
        have sl : vSl (bVar 2) (sN) (sS (v2 (pureK2 D.sub) (v1 (pureK1 D.len) (bVar 2)) (vC (.int 1)))) ρ g = .ok (.lst (cellsD fs), g) := sl_ok (x := .lst (cellsD (fs ++ [q]))) (l := none) (h := some (fs.length : Int)) (g1 := g) (g2 := g) (g3 := g) rfl rfl (by unfold sS; rw [li]; rfl) (by
          show some (D.lst (cutD (cellsD (fs ++ [q])) none (some (fs.length : Int)))) = _
          rw [cutD_to, cellsD_app, show fs.length = (cellsD fs).length from (cellsD_len fs).symm, List.take_left])
        exact set_ok (i := 2) (ρ := ρ) (g := g) (g1 := g) (d := .lst (cellsD (fs ++ [(q.1, (k : Int))]))) (v2_ok (k := D.add) (x := .lst (cellsD fs)) (y := .lst (cellsD [(q.1, (k : Int))])) sl (lst_ok (ds := [cellD (q.1, (k : Int))]) (aC_ok (tup_ok (ds := [.int q.1, .int (k : Nat)]) (aC_ok (v2_ok (k := D.ix) last rfl rfl) rfl) (t2 _ _)) a0_ok) (t1 _)) (by
          rw [cellsD_app]
          exact add_lst (by rw [cellsD_len, cellsD_len]; simp at hl ⊢; omega))) (by simp [ρ])
/-- the law's pieces -/
theorem law_pieces_ok (hl : cs.length ≤ 1000) (g : G) : f__law_pieces [walkT w h cs ss, winD x y a b] g = .ok (.lst (cellsD (piecesM x y a b ss cs cs.length)), g) := by
  have loop := forL_inv (t := tgN 3) (body := lpieceB) (fun n ρ g' => g' = g ∧ n ≤ cs.length ∧ ∃ i, ρ = LPF w h cs ss x y a b (piecesM x y a b ss cs n) i) (ds := rangeD 0 cs.length) (k := 0) (ρ := LPF w h cs ss x y a b [] .none) (g := g) ⟨rfl, Nat.zero_le _, .none, rfl⟩ (fun j d ρ g' hd hI => by
    obtain ⟨rfl, _, i, rfl⟩ := hI
    obtain ⟨rfl, hj⟩ := rangeD_get hd
    rw [Nat.zero_add]
    obtain ⟨c, hc⟩ : ∃ c, cs[j]? = some c := ⟨cs[j], List.getElem?_eq_getElem hj⟩
    have st := lpiece_step (w := w) (h := h) (ss := ss) (x := x) (y := y) (a := a) (b := b) (found := piecesM x y a b ss cs j) (by have := pieces_len (x := x) (y := y) (a := a) (b := b) (ss := ss) (cs := cs) j; omega) hc g'
    have e : piecesM x y a b ss cs (j + 1) = pieceM x y a b ss (piecesM x y a b ss cs j) j c := by
      show (match cs[j]? with | some c => pieceM x y a b ss (piecesM x y a b ss cs j) j c | none => piecesM x y a b ss cs j) = _
      rw [hc]
    rw [← e] at st
    exact ⟨_, _, g', .nx, rfl, st, .inl rfl, rfl, by omega, _, rfl⟩)
  obtain ⟨ρ', g', l1, rfl, _, i, rfl⟩ := loop
  rw [Nat.zero_add, rangeD_len] at l1
  have it : itR1 (v1 (pureK1 D.len) (v2 (pureK2 D.ix) (bVar 0) (vC (.int 2)))) (LPF w h cs ss x y a b [] .none) g' = .ok (rangeD 0 cs.length, g') := by
    rw [r1_ok (j := (cs.length : Int)) (g1 := g') (v1_ok (k := D.len) (x := .lst (cellsD cs)) rfl (by show some (D.int (cellsD cs).length) = _; rw [cellsD_len])) ⟨by omega, by omega⟩]; simp
  exact run_ret ((seq_nx (ρ1 := LPF w h cs ss x y a b [] .none) (g1 := g') rfl).trans ((seq_nx ((for_ok it).trans l1)).trans (ret_ok rfl)))
end
end GD
end RP
end L2
set_option Elab.async false
set_option linter.all false
set_option maxRecDepth 100000
namespace L2
namespace RP
namespace GD
open PySem PySem.Spec PyProof.Rows
section
variable {w h x y a b : Int} {cs : List (Int × Int)} {ss : List Int}
def winOk (w h x y a b : Int) : Bool := ((decide (0 ≤ x) && decide (x ≤ w - 1)) && (decide (0 ≤ y) && decide (y ≤ h - 1))) && ((decide (1 ≤ a) && decide (a ≤ w - x)) && (decide (1 ≤ b) && decide (b ≤ h - y)))
theorem is_window_int (x y a b : Int) (g : G) : f_is_window [walkO w h cs ss, winD x y a b] g = .ok (.bl (winOk w h x y a b), g) := by
  let W := walkO w h cs ss
  let ρ : En := [.frz W, .frz (winD x y a b)]
  have c0 : vCall f_is_cell (aCons (v1 (pureK1 (D.fld "Walk" "width")) (bVar 0)) (aCons (v1 (pureK1 (D.fld "Walk" "height")) (bVar 0)) (aCons (vSl (bVar 1) (sN) (sS (vC (.int 2)))) (aNil)))) ρ g = .ok (.bl ((decide (0 ≤ x) && decide (x ≤ w - 1)) && (decide (0 ≤ y) && decide (y ≤ h - 1))), g) :=
    (call_ok (ds := [.int w, .int h, .tup [.int x, .int y]]) (g1 := g) rfl).trans (is_cell_two (within_int x 0 (w - 1) g) (within_int y 0 (h - 1) g))
  have c1 : vOr (vNot (vCall f_is_tuple_of (aCons (vVar 1) (aCons (vC (.int 4)) (aNil))))) (vNot (vCall f_is_cell (aCons (v1 (pureK1 (D.fld "Walk" "width")) (bVar 0)) (aCons (v1 (pureK1 (D.fld "Walk" "height")) (bVar 0)) (aCons (vSl (bVar 1) (sN) (sS (vC (.int 2)))) (aNil)))))) ρ g = .ok (.bl (!((decide (0 ≤ x) && decide (x ≤ w - 1)) && (decide (0 ≤ y) && decide (y ≤ h - 1)))), g) :=
    (or_ok (x := .bl false) (b := false) (not_ok (x := .bl true) (b := true) rfl rfl) rfl).trans ((if_neg (by decide)).trans (not_ok c0 rfl))
  have c2 : vAnd (vCall f_is_within (aCons (v2 (pureK2 D.ix) (bVar 1) (vC (.int 2))) (aCons (vC (.int 1)) (aCons (v2 (pureK2 D.sub) (v1 (pureK1 (D.fld "Walk" "width")) (bVar 0)) (v2 (pureK2 D.ix) (bVar 1) (vC (.int 0)))) (aNil))))) (vCall f_is_within (aCons (v2 (pureK2 D.ix) (bVar 1) (vC (.int 3))) (aCons (vC (.int 1)) (aCons (v2 (pureK2 D.sub) (v1 (pureK1 (D.fld "Walk" "height")) (bVar 0)) (v2 (pureK2 D.ix) (bVar 1) (vC (.int 1)))) (aNil))))) ρ g = .ok (.bl ((decide (1 ≤ a) && decide (a ≤ w - x)) && (decide (1 ≤ b) && decide (b ≤ h - y))), g) := by
    refine (and_ok ((call_ok (ds := [.int a, .int 1, .int (w - x)]) (g1 := g) rfl).trans (within_int a 1 (w - x) g)) rfl).trans ?_
    cases (decide (1 ≤ a) && decide (a ≤ w - x)) with
    | true => exact (call_ok (ds := [.int b, .int 1, .int (h - y)]) (g1 := g) rfl).trans (within_int b 1 (h - y) g)
    | false => rfl
  have e0 : sExpr (vCall f_check_walk (aCons (vVar 0) (aNil))) ρ g = .ok (.nx, ρ, g) := rfl
  unfold winOk
  cases hb : ((decide (0 ≤ x) && decide (x ≤ w - 1)) && (decide (0 ≤ y) && decide (y ≤ h - 1))) with
  | true =>
    rw [hb] at c1
    exact run_ret ((seq_nx e0).trans ((seq_nx ((if_ok c1 rfl).trans rfl)).trans (ret_ok c2)))
  | false =>
    rw [hb] at c1
    exact run_ret ((seq_nx e0).trans (seq_ret ((if_ok c1 rfl).trans rfl)))
theorem law_number_int (n : Int) (g : G) : f__law_number [.int n, .int 9] g = .ok (.bl (decide (0 ≤ n) && decide (n < 9)), g) :=
  run_ret (ret_ok ((and_ok (x := .bl true) (b := true) rfl rfl).trans ((if_pos rfl).trans ((and_ok (x := .bl true) (b := true) rfl rfl).trans ((if_pos rfl).trans (chain_ok rfl rfl rfl))))))
def numOk (n : Int) : Bool := decide (0 ≤ n) && decide (n < 9)
def goodM (w h x y a b : Int) : Bool := ([x, y, a, b].filter fun n => !numOk n).isEmpty && (decide (a > 0) && (decide (b > 0) && (decide (x + a ≤ w) && decide (y + b ≤ h))))
theorem good_int (x y a b : Int) (g : G) : f__law_good_window [walkT w h cs ss, winD x y a b] g = .ok (.bl (goodM w h x y a b), g) := by
  let ρ : En := [.frz (walkT w h cs ss), .frz (winD x y a b), .none]
  have cp := compL_pure (i := 2) (fc := vNot (vCall f__law_number (aCons (vVar 2) (aCons (vC (.int 9)) (aNil))))) (fe := vVar 2) (ρ := ρ) (g := g) (p := fun d => match d with | .int n => !numOk n | _ => false) (q := id) (ds := dI [x, y, a, b]) (by simp [ρ]) (fun d hd => by
    obtain ⟨n, _, rfl⟩ := List.mem_map.mp hd
    exact not_ok ((call_ok (ds := [.int n, .int 9]) (g1 := g) rfl).trans (law_number_int n g)) rfl) (fun d _ _ => rfl)
  have fe : ∀ xs : List Int, (((dI xs).filter fun d => match d with | .int n => !numOk n | _ => false).map id) = dI (xs.filter fun n => !numOk n) := fun xs => by
    unfold dI
    rw [List.map_id, List.filter_map]
    rfl
  rw [fe] at cp
  have cc : vComp (itSeq (vVar 1)) (tgN 2) (List.map (·.2) ([("one", 2)] : List (Str × Nat))) (vNot (vCall f__law_number (aCons (vVar 2) (aCons (vC (.int 9)) (aNil))))) (vVar 2) ρ g = .ok (.lst (dI ([x, y, a, b].filter fun n => !numOk n)), g) := comp_ok (vs := [2]) (seqIt_t rfl) rfl cp
  have c1 : vOr (vNot (v1 (pureK1 (D.isBTd own_cls .tuple)) (bVar 1))) (vOr (v2 (pureK2 D.neD) (v1 (pureK1 D.len) (bVar 1)) (vC (.int 4))) (v2 (pureK2 D.neD) (vComp (itSeq (vVar 1)) (tgN 2) (List.map (·.2) ([("one", 2)] : List (Str × Nat))) (vNot (vCall f__law_number (aCons (vVar 2) (aCons (vC (.int 9)) (aNil))))) (vVar 2)) (vLst (aNil)))) ρ g = .ok (.bl (!([x, y, a, b].filter fun n => !numOk n).isEmpty), g) :=
    (or_ok (x := .bl false) (b := false) (not_ok (x := .bl true) (b := true) rfl rfl) rfl).trans ((if_neg (by decide)).trans ((or_ok (x := .bl false) (b := false) rfl rfl).trans ((if_neg (by decide)).trans (v2_ok (k := D.neD) cc rfl (neD_nilI _)))))
  have gt : ∀ (i : Nat) (v : Int), D.ix (winD x y a b) (.int i) = some (.int v) → v2 (pureK2 D.gtD) (v2 (pureK2 D.ix) (bVar 1) (vC (.int i))) (vC (.int 0)) ρ g = .ok (.bl (decide (v > 0)), g) := fun i v hv => v2_ok (k := D.gtD) (v2_ok (k := D.ix) rfl rfl hv) rfl rfl
  have c2 : vAnd (v2 (pureK2 D.gtD) (v2 (pureK2 D.ix) (bVar 1) (vC (.int 2))) (vC (.int 0))) (vAnd (v2 (pureK2 D.gtD) (v2 (pureK2 D.ix) (bVar 1) (vC (.int 3))) (vC (.int 0))) (vAnd (v2 (pureK2 D.leD) (v2 (pureK2 D.add) (v2 (pureK2 D.ix) (bVar 1) (vC (.int 0))) (v2 (pureK2 D.ix) (bVar 1) (vC (.int 2)))) (v2 (pureK2 D.ix) (bVar 0) (vC (.int 0)))) (v2 (pureK2 D.leD) (v2 (pureK2 D.add) (v2 (pureK2 D.ix) (bVar 1) (vC (.int 1))) (v2 (pureK2 D.ix) (bVar 1) (vC (.int 3)))) (v2 (pureK2 D.ix) (bVar 0) (vC (.int 1)))))) ρ g = .ok (.bl (decide (a > 0) && (decide (b > 0) && (decide (x + a ≤ w) && decide (y + b ≤ h)))), g) := by
    refine (and_ok (gt 2 a rfl) rfl).trans ?_
    cases (decide (a > 0)) with
    | false => rfl
    | true =>
      refine (and_ok (gt 3 b rfl) rfl).trans ?_
      cases (decide (b > 0)) with
      | false => rfl
      | true =>
        refine (and_ok (x := .bl (decide (x + a ≤ w))) (g1 := g) rfl rfl).trans ?_
        cases (decide (x + a ≤ w)) <;> rfl
  unfold goodM
  cases hb : ([x, y, a, b].filter fun n => !numOk n).isEmpty with
  | true =>
    rw [hb] at c1
    exact run_ret ((seq_nx ((if_ok c1 rfl).trans rfl)).trans (ret_ok c2))
  | false =>
    rw [hb] at c1
    exact run_ret (seq_ret ((if_ok c1 rfl).trans rfl))
/-- both judge the same -/
theorem good_same (hw : 1 ≤ w ∧ w ≤ 8) (hh : 1 ≤ h ∧ h ≤ 8) : winOk w h x y a b = goodM w h x y a b := by
  rw [Bool.eq_iff_iff]
  unfold winOk goodM
  simp only [Bool.and_eq_true, decide_eq_true_eq, List.isEmpty_iff, List.filter_eq_nil_iff, List.mem_cons, List.not_mem_nil, or_false, Bool.not_eq_true', Bool.not_eq_false]
  unfold numOk
  constructor
  · rintro ⟨⟨⟨h1, h2⟩, h3, h4⟩, ⟨h5, h6⟩, h7, h8⟩
    refine ⟨fun n hn => ?_, by omega, by omega, by omega, by omega⟩
    simp only [Bool.and_eq_true, decide_eq_true_eq]
    rcases hn with rfl | rfl | rfl | rfl <;> omega
  · rintro ⟨hn, h1, h2, h3, h4⟩
    have n1 := hn x (.inl rfl)
    have n2 := hn y (.inr (.inl rfl))
    simp only [Bool.and_eq_true, decide_eq_true_eq] at n1 n2
    omega
/-- a window of the walk -/
structure GN (w h x y a b : Int) : Prop where
  px : 0 ≤ x ∧ x < w
  py : 0 ≤ y ∧ y < h
  pa : 1 ≤ a ∧ a ≤ w - x
  pb : 1 ≤ b ∧ b ≤ h - y
theorem gn_ok (n : GN w h x y a b) : winOk w h x y a b = true := by
  unfold winOk
  simp only [Bool.and_eq_true, decide_eq_true_eq]
  have := n.px; have := n.py; have := n.pa; have := n.pb
  omega
theorem check_window_ok (n : GN w h x y a b) (g : G) : f_check_window [walkO w h cs ss, winD x y a b] g = .ok (.non, g) :=
  run_nx ((if_ok (x := .bl false) (b := false) (not_ok (x := .bl true) (b := true) ((call_ok (ds := [walkO w h cs ss, winD x y a b]) (g1 := g) rfl).trans ((is_window_int x y a b g).trans (by rw [gn_ok n]))) rfl) rfl).trans rfl)
theorem check_window_bad {d : D} {g : G} (hd : f_is_window [walkO w h cs ss, d] g = .ok (.bl false, g)) : f_check_window [walkO w h cs ss, d] g = .exc "BadWindow" d g :=
  run_exc ((if_ok (x := .bl true) (b := true) (not_ok (x := .bl false) (b := false) ((call_ok (ds := [walkO w h cs ss, d]) (g1 := g) rfl).trans hd) rfl) rfl).trans ((if_pos rfl).trans (raise_ok rfl)))
/-- the program's pieces -/
theorem pieces_of_ok (n : GN w h x y a b) (hl : cs.length ≤ 1000) (g : G) : f_pieces_of [walkO w h cs ss, winD x y a b] g = .ok (.lst (cellsD (piecesM x y a b ss cs cs.length)), g) := by
  have loop := forL_inv (t := tgT 2 (tgsCons (tgN 3) (tgsCons (tgN 4) (tgsNil)))) (body := pieceB) (fun n ρ g' => g' = g ∧ n ≤ cs.length ∧ ∃ i c, ρ = PF w h cs ss x y a b (piecesM x y a b ss cs n) i c) (ds := enumD 0 (cellsD cs)) (k := 0) (ρ := PF w h cs ss x y a b [] .none .none) (g := g) ⟨rfl, Nat.zero_le _, .none, .none, rfl⟩ (fun j d ρ g' hd hI => by
    obtain ⟨rfl, _, i, c0, rfl⟩ := hI
    rw [enumD_get, cellsD_get, Nat.zero_add] at hd
    obtain ⟨d', hd', rfl⟩ := Option.map_eq_some_iff.mp hd
    obtain ⟨c, hc, rfl⟩ := Option.map_eq_some_iff.mp hd'
    have hj := (List.getElem?_eq_some_iff.mp hc).1
    rw [Nat.zero_add]
    have st := piece_step (w := w) (h := h) (cs := cs) (ss := ss) (x := x) (y := y) (a := a) (b := b) (found := piecesM x y a b ss cs j) (by have := pieces_len (x := x) (y := y) (a := a) (b := b) (ss := ss) (cs := cs) j; omega) j c g'
    have e : piecesM x y a b ss cs (j + 1) = pieceM x y a b ss (piecesM x y a b ss cs j) j c := by
      show (match cs[j]? with | some c => pieceM x y a b ss (piecesM x y a b ss cs j) j c | none => piecesM x y a b ss cs j) = _
      rw [hc]
    rw [← e] at st
    exact ⟨_, _, g', .nx, rfl, st, .inl rfl, rfl, by omega, _, _, rfl⟩)
  obtain ⟨ρ', g', l1, rfl, _, i, c, rfl⟩ := loop
  rw [Nat.zero_add, enumD_len, cellsD_len] at l1
  exact run_ret ((seq_nx (expr_ok ((call_ok (ds := [walkO w h cs ss, winD x y a b]) (g1 := g') rfl).trans (check_window_ok n g')))).trans ((seq_nx (ρ1 := PF w h cs ss x y a b [] .none .none) (g1 := g') rfl).trans ((seq_nx ((for_ok (enumIt_ok (.inr rfl) (f := v1 (pureK1 (D.fld "Walk" "cells")) (bVar 0)) (g1 := g') rfl)).trans l1)).trans ((fz_own rfl).trans (ret_ok rfl)))))
end
end GD
end RP
end L2
set_option Elab.async false
set_option linter.all false
set_option maxRecDepth 100000
namespace L2
namespace RP
namespace GD
open PySem PySem.Spec PyProof.Rows
def windRow (nX : Nat) (a b y : Int) : List D := (rng 0 nX).map fun x => winD x y a b
def windsD (nX : Nat) (a b : Int) (n : Nat) : List D := (rng 0 n).flatMap fun y => windRow nX a b y
theorem windsD_succ (nX : Nat) (a b : Int) (n : Nat) : windsD nX a b (n + 1) = windsD nX a b n ++ windRow nX a b n := by unfold windsD; rw [rng_succ0, List.flatMap_append]; simp
theorem windRow_len (nX : Nat) (a b y : Int) : (windRow nX a b y).length = nX := by unfold windRow; rw [List.length_map, rng_len]
theorem windsD_len (nX : Nat) (a b : Int) (n : Nat) : (windsD nX a b n).length = n * nX := by
  induction n with
  | zero => simp [windsD, rng]
  | succ n ih => rw [windsD_succ, List.length_append, ih, windRow_len, Nat.succ_mul]
section
variable {w h a b : Int} {cs : List (Int × Int)} {ss : List Int}
/-- a row of windows -/
theorem wind_comp {n i : Nat} {y : Int} {fi : SEs} {fe : SE} {ρ : En} {g : G} (hf : fi ρ g = .ok (rangeD 0 n, g)) (hi : i < ρ.length) (hv : notOwn ρ i = true) (he : ∀ x : Int, fe ((ρ.set i .none).set i (.frz (.int x))) g = .ok (winD x y a b, g)) :
    vComp fi (tgN i) [i] (vC (.bl true)) fe ρ g = .ok (.lst (windRow n a b y), g) := by
  rw [rangeD_eq] at hf
  exact comp_ok (vs := [i]) hf (by show (notOwn ρ i && true) = true; rw [hv]; rfl) (compL_intA (q := fun x => winD x y a b) (by show i < (ρ.set i .none).length; rw [List.length_set]; exact hi) fun x _ => he x)
theorem span_ok {f : SE} {ρ : En} {g : G} {w a : Int} (hw : 1 ≤ w ∧ w ≤ 8) (ha : 1 ≤ a ∧ a ≤ w) (h : f ρ g = .ok (.int (w - a + 1), g)) : itR1 f ρ g = .ok (rangeD 0 (w - a + 1).toNat, g) := r1_ok h ⟨by omega, by omega⟩
abbrev WSF (w h : Int) (cs : List (Int × Int)) (ss : List Int) (a b : Int) (found : List D) (i : Slot) : En := [.frz (walkO w h cs ss), .frz (.int a), .frz (.int b), .own (.lst found), i, .none]
theorem windows_of_ok (hw : 1 ≤ w ∧ w ≤ 8) (hh : 1 ≤ h ∧ h ≤ 8) (ha : 1 ≤ a ∧ a ≤ w) (hb : 1 ≤ b ∧ b ≤ h) (g : G) : f_windows_of [walkO w h cs ss, .int a, .int b] g = .ok (.lst (windsD (w - a + 1).toNat a b (h - b + 1).toNat), g) := by
  have hbig := big
  let nX := (w - a + 1).toNat
  let nY := (h - b + 1).toNat
  have loop := forL_inv (t := tgN 4) (body := (sExt 3 (vComp (itR1 (v2 (pureK2 D.add) (v2 (pureK2 D.sub) (v1 (pureK1 (D.fld "Walk" "width")) (bVar 0)) (bVar 1)) (vC (.int 1)))) (tgN 5) (List.map (·.2) ([("column", 5)] : List (Str × Nat))) (vC (.bl true)) (vTup (aCons (vVar 5) (aCons (vVar 4) (aCons (vVar 1) (aCons (vVar 2) (aNil)))))))))
    (fun n ρ g' => g' = g ∧ n ≤ 8 ∧ ∃ i, ρ = WSF w h cs ss a b (windsD nX a b n) i) (ds := rangeD 0 nY) (k := 0) (ρ := WSF w h cs ss a b [] .none) (g := g) ⟨rfl, by omega, .none, rfl⟩ (fun j d ρ g' hd hI => by
      obtain ⟨rfl, _, i, rfl⟩ := hI
      obtain ⟨rfl, hj⟩ := rangeD_get hd
      rw [Nat.zero_add]
      have s2 := ext_ok (i := 3) (ρ := WSF w h cs ss a b (windsD nX a b j) (.frz (.int (j : Nat)))) (g := g') (xs := windsD nX a b j) rfl (wind_comp (n := nX) (i := 5) (a := a) (b := b) (y := (j : Int)) (fe := vTup (aCons (vVar 5) (aCons (vVar 4) (aCons (vVar 1) (aCons (vVar 2) (aNil)))))) (span_ok (f := v2 (pureK2 D.add) (v2 (pureK2 D.sub) (v1 (pureK1 (D.fld "Walk" "width")) (bVar 0)) (bVar 1)) (vC (.int 1))) hw ha rfl) (by simp [WSF]) rfl (fun x => tup_ok (ds := [.int x, .int (j : Nat), .int a, .int b]) rfl (by simp; omega))) (by
        rw [windsD_len, windRow_len]
        have : j * nX ≤ 8 * 8 := Nat.mul_le_mul (by omega) (by omega)
        omega)
      rw [← windsD_succ] at s2
      exact ⟨_, _, g', .nx, rfl, s2, .inl rfl, rfl, by omega, .frz (.int (j : Nat)), rfl⟩)
  obtain ⟨ρ', g', l1, rfl, _, i, rfl⟩ := loop
  rw [Nat.zero_add, rangeD_len] at l1
  have k1 : sIf (vNot (vCall f_is_within (aCons (vVar 1) (aCons (vC (.int 1)) (aCons (v1 (pureK1 (D.fld "Walk" "width")) (bVar 0)) (aNil)))))) (sRaise "BadSize" (vVar 1)) (sNil) [.frz (walkO w h cs ss), .frz (.int a), .frz (.int b), .none, .none, .none] g' = .ok (.nx, [.frz (walkO w h cs ss), .frz (.int a), .frz (.int b), .none, .none, .none], g') :=
    (if_ok (x := .bl false) (b := false) (not_ok (x := .bl true) (b := true) ((call_ok (ds := [.int a, .int 1, .int w]) (g1 := g') rfl).trans ((within_int a 1 w g').trans (wi_t ha.1 ha.2 g'))) rfl) rfl).trans rfl
  have k2 : sIf (vNot (vCall f_is_within (aCons (vVar 2) (aCons (vC (.int 1)) (aCons (v1 (pureK1 (D.fld "Walk" "height")) (bVar 0)) (aNil)))))) (sRaise "BadSize" (vVar 2)) (sNil) [.frz (walkO w h cs ss), .frz (.int a), .frz (.int b), .none, .none, .none] g' = .ok (.nx, [.frz (walkO w h cs ss), .frz (.int a), .frz (.int b), .none, .none, .none], g') :=
    (if_ok (x := .bl false) (b := false) (not_ok (x := .bl true) (b := true) ((call_ok (ds := [.int b, .int 1, .int h]) (g1 := g') rfl).trans ((within_int b 1 h g').trans (wi_t hb.1 hb.2 g'))) rfl) rfl).trans rfl
  exact run_ret ((seq_nx (expr_ok ((call_ok (ds := [walkO w h cs ss]) (g1 := g') rfl).trans rfl))).trans ((seq_nx k1).trans ((seq_nx k2).trans ((seq_nx (ρ1 := WSF w h cs ss a b [] .none) (g1 := g') rfl).trans ((seq_nx ((for_ok (span_ok (f := v2 (pureK2 D.add) (v2 (pureK2 D.sub) (v1 (pureK1 (D.fld "Walk" "height")) (bVar 0)) (bVar 2)) (vC (.int 1))) hh hb rfl)).trans l1)).trans ((fz_own rfl).trans (ret_ok rfl)))))))
theorem windows_of_bad (b : Int) (g : G) : f_windows_of [walkO w h cs ss, .int (w + 1), .int b] g = .exc "BadSize" (.int (w + 1)) g :=
  run_exc ((seq_nx (expr_ok ((call_ok (ds := [walkO w h cs ss]) (g1 := g) rfl).trans rfl))).trans (seq_exc ((if_ok (x := .bl true) (b := true) (not_ok (x := .bl false) (b := false) ((call_ok (ds := [.int (w + 1), .int 1, .int w]) (g1 := g) rfl).trans ((within_int (w + 1) 1 w g).trans (by rw [show (decide (1 ≤ w + 1) && decide (w + 1 ≤ w)) = false by rw [decide_eq_false (p := w + 1 ≤ w) (by omega), Bool.and_false]]))) rfl) rfl).trans ((if_pos rfl).trans (raise_ok rfl)))))
theorem is_window_any (x y : Int) {A B : D} {p q : Bool} {g : G} (hA : f_is_within [A, .int 1, .int (w - x)] g = .ok (.bl p, g)) (hB : f_is_within [B, .int 1, .int (h - y)] g = .ok (.bl q, g)) (hx : 0 ≤ x ∧ x ≤ w - 1) (hy : 0 ≤ y ∧ y ≤ h - 1) : f_is_window [walkO w h cs ss, .tup [.int x, .int y, A, B]] g = .ok (.bl (p && q), g) := by
  let W := walkO w h cs ss
  let ρ : En := [.frz W, .frz (.tup [.int x, .int y, A, B])]
  have c0 : vCall f_is_cell (aCons (v1 (pureK1 (D.fld "Walk" "width")) (bVar 0)) (aCons (v1 (pureK1 (D.fld "Walk" "height")) (bVar 0)) (aCons (vSl (bVar 1) (sN) (sS (vC (.int 2)))) (aNil)))) ρ g = .ok (.bl true, g) :=
    (call_ok (ds := [.int w, .int h, .tup [.int x, .int y]]) (g1 := g) rfl).trans (is_cell_two (p := true) (q := true) ((within_int x 0 (w - 1) g).trans (wi_t hx.1 hx.2 g)) ((within_int y 0 (h - 1) g).trans (wi_t hy.1 hy.2 g)))
  have c1 : vOr (vNot (vCall f_is_tuple_of (aCons (vVar 1) (aCons (vC (.int 4)) (aNil))))) (vNot (vCall f_is_cell (aCons (v1 (pureK1 (D.fld "Walk" "width")) (bVar 0)) (aCons (v1 (pureK1 (D.fld "Walk" "height")) (bVar 0)) (aCons (vSl (bVar 1) (sN) (sS (vC (.int 2)))) (aNil)))))) ρ g = .ok (.bl false, g) :=
    (or_ok (x := .bl false) (b := false) (not_ok (x := .bl true) (b := true) rfl rfl) rfl).trans ((if_neg (by decide)).trans (not_ok c0 rfl))
  have c2 : vAnd (vCall f_is_within (aCons (v2 (pureK2 D.ix) (bVar 1) (vC (.int 2))) (aCons (vC (.int 1)) (aCons (v2 (pureK2 D.sub) (v1 (pureK1 (D.fld "Walk" "width")) (bVar 0)) (v2 (pureK2 D.ix) (bVar 1) (vC (.int 0)))) (aNil))))) (vCall f_is_within (aCons (v2 (pureK2 D.ix) (bVar 1) (vC (.int 3))) (aCons (vC (.int 1)) (aCons (v2 (pureK2 D.sub) (v1 (pureK1 (D.fld "Walk" "height")) (bVar 0)) (v2 (pureK2 D.ix) (bVar 1) (vC (.int 1)))) (aNil))))) ρ g = .ok (.bl (p && q), g) := by
    refine (and_ok ((call_ok (ds := [A, .int 1, .int (w - x)]) (g1 := g) rfl).trans hA) rfl).trans ?_
    cases p with
    | true => exact (call_ok (ds := [B, .int 1, .int (h - y)]) (g1 := g) rfl).trans hB
    | false => rfl
  have e0 : sExpr (vCall f_check_walk (aCons (vVar 0) (aNil))) ρ g = .ok (.nx, ρ, g) := rfl
  exact run_ret ((seq_nx e0).trans ((seq_nx ((if_ok c1 rfl).trans rfl)).trans (ret_ok c2)))
/-- a first cell that is none -/
theorem is_window_nocell {p q A B : D} {g : G} (hc : f_is_cell [.int w, .int h, .tup [p, q]] g = .ok (.bl false, g)) : f_is_window [walkO w h cs ss, .tup [p, q, A, B]] g = .ok (.bl false, g) := by
  let W := walkO w h cs ss
  let ρ : En := [.frz W, .frz (.tup [p, q, A, B])]
  have c0 : vCall f_is_cell (aCons (v1 (pureK1 (D.fld "Walk" "width")) (bVar 0)) (aCons (v1 (pureK1 (D.fld "Walk" "height")) (bVar 0)) (aCons (vSl (bVar 1) (sN) (sS (vC (.int 2)))) (aNil)))) ρ g = .ok (.bl false, g) :=
    (call_ok (ds := [.int w, .int h, .tup [p, q]]) (g1 := g) rfl).trans hc
  have c1 : vOr (vNot (vCall f_is_tuple_of (aCons (vVar 1) (aCons (vC (.int 4)) (aNil))))) (vNot (vCall f_is_cell (aCons (v1 (pureK1 (D.fld "Walk" "width")) (bVar 0)) (aCons (v1 (pureK1 (D.fld "Walk" "height")) (bVar 0)) (aCons (vSl (bVar 1) (sN) (sS (vC (.int 2)))) (aNil)))))) ρ g = .ok (.bl true, g) :=
    (or_ok (x := .bl false) (b := false) (not_ok (x := .bl true) (b := true) rfl rfl) rfl).trans ((if_neg (by decide)).trans (not_ok c0 rfl))
  have e0 : sExpr (vCall f_check_walk (aCons (vVar 0) (aNil))) ρ g = .ok (.nx, ρ, g) := rfl
  exact run_ret ((seq_nx e0).trans (seq_ret ((if_ok c1 rfl).trans rfl)))
/-- values that are no windows -/
def badsW (w h : Int) : List D := [.non, .tup [.int 0, .int 0, .int 1], .lst [.int 0, .int 0, .int 1, .int 1], winD 0 0 (w + 1) 1, winD 0 0 1 (h + 1), winD 0 0 0 1, winD w 0 1 1, winD (-1) 0 1 1, .tup [.int 0, .bl true, .int 1, .int 1], .tup [.int 0, .int 0, .int 1, .non]]
theorem not_window_list (ds : List D) (g : G) : f_is_window [walkO w h cs ss, .lst ds] g = .ok (.bl false, g) ∧ f__law_good_window [walkT w h cs ss, .lst ds] g = .ok (.bl false, g) := ⟨rfl, rfl⟩
theorem bad_window (hw : 1 ≤ w ∧ w ≤ 8) (hh : 1 ≤ h ∧ h ≤ 8) {d : D} (hd : d ∈ badsW w h) (ss' : List Int) (g : G) : f_is_window [walkO w h cs ss', d] g = .ok (.bl false, g) ∧ f__law_good_window [walkT w h cs ss, d] g = .ok (.bl false, g) := by
  have allI : ∀ x y a b, winOk w h x y a b = false → f_is_window [walkO w h cs ss', winD x y a b] g = .ok (.bl false, g) ∧ f__law_good_window [walkT w h cs ss, winD x y a b] g = .ok (.bl false, g) := fun x y a b e => ⟨(is_window_int x y a b g).trans (by rw [e]), (good_int x y a b g).trans (by rw [← good_same hw hh, e])⟩
  have no : ∀ x y a b : Int, ¬((0 ≤ x ∧ x ≤ w - 1) ∧ (0 ≤ y ∧ y ≤ h - 1) ∧ (1 ≤ a ∧ a ≤ w - x) ∧ (1 ≤ b ∧ b ≤ h - y)) → winOk w h x y a b = false := fun x y a b hn => by
    rw [← Bool.not_eq_true]
    intro e
    unfold winOk at e
    simp only [Bool.and_eq_true, decide_eq_true_eq] at e
    omega
  unfold badsW at hd
  simp only [List.mem_cons, List.not_mem_nil, or_false] at hd
  rcases hd with rfl | rfl | rfl | rfl | rfl | rfl | rfl | rfl | rfl | rfl
  · exact ⟨rfl, rfl⟩
  · exact ⟨rfl, rfl⟩
  · exact ⟨rfl, rfl⟩
  · exact allI _ _ _ _ (no _ _ _ _ (by omega))
  · exact allI _ _ _ _ (no _ _ _ _ (by omega))
  · exact allI _ _ _ _ (no _ _ _ _ (by omega))
  · exact allI _ _ _ _ (no _ _ _ _ (by omega))
  · exact allI _ _ _ _ (no _ _ _ _ (by omega))
  · refine ⟨is_window_nocell ?_, by kernel_rfl⟩
    exact is_cell_two (w := w) (h := h) (a := .int 0) (b := .bl true) (g := g) ((within_int 0 0 (w - 1) g).trans (wi_t (by omega) (by omega) g)) (q := false) (within_no rfl _ _)
  · exact ⟨is_window_any 0 0 (p := true) (q := false) ((within_int 1 1 (w - 0) g).trans (wi_t (by omega) (by omega) g)) (within_no rfl _ _) (by omega) (by omega), by kernel_rfl⟩
end
end GD
end RP
end L2
set_option Elab.async false
set_option linter.all false
set_option maxRecDepth 100000
namespace L2
namespace RP
namespace GD
open PySem PySem.Spec PyProof.Rows
theorem cut_lst_to (xs : List D) (k : Nat) : D.cut none (some (k : Int)) (.lst xs) = some (.lst (xs.take k)) := by
  show some (D.lst (cutD xs none (some (k : Int)))) = _
  rw [cutD_to]
theorem cut_lst_from (xs : List D) (k : Nat) : D.cut (some (k : Int)) none (.lst xs) = some (.lst (xs.drop k)) := by
  show some (D.lst (cutD xs (some (k : Int)) none)) = _
  rw [cutD_from]
/-- things in a drawn order -/
theorem shuffled_ok {cs : List (Int × Int)} (hl : cs.length ≤ 500) {g : G} (hg : GI g) : ∃ fs g', f__law_shuffled [.row, .lst (cellsD cs)] g = .ok (.lst (cellsD fs), g') ∧ fs.Perm cs ∧ GI g' := by
  have hbig := big
  let F : List (Int × Int) → Slot → Slot → En := fun fs a b => [.frz .row, .frz (.lst (cellsD cs)), .frz (.lst (cellsD fs)), a, b]
  have loop := forL_inv (t := tgN 3) (body := (sSeq (sSet 4 (vCall f__law_taken (aCons (vVar 0) (aCons (v2 (pureK2 D.add) (v1 (pureK1 D.len) (bVar 2)) (vC (.int 1))) (aNil))))) (sSet 2 (v2 (pureK2 D.add) (v2 (pureK2 D.add) (vSl (bVar 2) (sN) (sS (bVar 4))) (vLst (aCons (vVar 3) (aNil)))) (vSl (bVar 2) (sS (bVar 4)) (sN))))))
    (fun n ρ g' => GI g' ∧ ∃ fs a b, ρ = F fs a b ∧ fs.Perm (cs.take n)) (ds := cellsD cs) (k := 0) (ρ := F [] .none .none) (g := g) ⟨hg, [], .none, .none, rfl, by simp⟩ (fun j d ρ g hd hI => by
      obtain ⟨hg, fs, a, b, rfl, pm⟩ := hI
      rw [cellsD_get] at hd
      obtain ⟨c, hc, rfl⟩ := Option.map_eq_some_iff.mp hd
      rw [Nat.zero_add] at pm ⊢
      have hj := (List.getElem?_eq_some_iff.mp hc).1
      have fl : fs.length = j := by rw [pm.length_eq, List.length_take]; omega
      obtain ⟨x, g', e1, x0, x1, hg'⟩ := taken_ok (m := (fs.length : Int) + 1) (by omega) (by omega) hg
      obtain ⟨n, rfl⟩ := Int.eq_ofNat_of_zero_le x0
      have s1 := set_ok (i := 4) (f := vCall f__law_taken (aCons (vVar 0) (aCons (v2 (pureK2 D.add) (v1 (pureK1 D.len) (bVar 2)) (vC (.int 1))) (aNil)))) (ρ := F fs (.frz (cellD c)) b) (g := g) ((call_ok (ds := [.row, .int ((fs.length : Int) + 1)]) (g1 := g) (aC_ok rfl (aC_ok (v2_ok (k := D.add) (v1_ok (k := D.len) (x := .lst (cellsD fs)) rfl (by show some (D.int (cellsD fs).length) = _; rw [cellsD_len])) rfl rfl) a0_ok))).trans e1) (by simp [F])
      have t1 : ([cellD c] : List D).length ≤ sizeLine := by simp; omega
      let ρ2 : En := F fs (.frz (cellD c)) (.frz (.int (n : Nat)))
      have a1 : vSl (bVar 2) (sN) (sS (bVar 4)) ρ2 g' = .ok (.lst (cellsD (fs.take n)), g') := sl_ok (x := .lst (cellsD fs)) (l := none) (h := some (n : Int)) (g1 := g') (g2 := g') (g3 := g') rfl rfl rfl (by rw [cut_lst_to]; unfold cellsD; rw [List.map_take])
      have a2 : vSl (bVar 2) (sS (bVar 4)) (sN) ρ2 g' = .ok (.lst (cellsD (fs.drop n)), g') := sl_ok (x := .lst (cellsD fs)) (l := some (n : Int)) (h := none) (g1 := g') (g2 := g') (g3 := g') rfl rfl rfl (by rw [cut_lst_from]; unfold cellsD; rw [List.map_drop])
      have l1 : (fs.take n).length + 1 ≤ 501 := by rw [List.length_take]; omega
      have l2 : (fs.drop n).length ≤ 500 := by rw [List.length_drop]; omega
      have a3 : v2 (pureK2 D.add) (vSl (bVar 2) (sN) (sS (bVar 4))) (vLst (aCons (vVar 3) (aNil))) ρ2 g' = .ok (.lst (cellsD (fs.take n ++ [c])), g') := v2_ok (k := D.add) (x := .lst (cellsD (fs.take n))) (y := .lst (cellsD [c])) a1 (lst_ok (ds := [cellD c]) rfl t1) (by rw [cellsD_app]; exact add_lst (by rw [cellsD_len, cellsD_len]; show _ + 1 ≤ _; omega))
      have s2 := set_ok (i := 2) (ρ := ρ2) (g := g') (g1 := g') (d := .lst (cellsD (fs.take n ++ [c] ++ fs.drop n))) (v2_ok (k := D.add) a3 a2 (by rw [cellsD_app (fs.take n ++ [c])]; exact add_lst (by rw [cellsD_len, cellsD_len, List.length_append]; show _ + 1 + _ ≤ _; omega))) (by simp [ρ2, F])
      refine ⟨_, _, g', .nx, rfl, (seq_nx s1).trans s2, .inl rfl, hg', _, _, _, rfl, ?_⟩
      rw [take_succ' cs j c hc]
      have p1 : (fs.take n ++ [c] ++ fs.drop n).Perm (fs.take n ++ fs.drop n ++ [c]) := by
        rw [List.append_assoc, List.append_assoc]
        exact List.Perm.append_left _ List.perm_append_comm
      rw [List.take_append_drop] at p1
      exact p1.trans (pm.append_right [c]))
  obtain ⟨ρ', g', l1, hg', fs, a, b, rfl, pm⟩ := loop
  rw [Nat.zero_add, cellsD_len, List.take_length] at pm
  exact ⟨fs, g', run_ret ((seq_nx (ρ1 := F [] .none .none) (g1 := g) rfl).trans ((seq_nx ((for_ok (seqIt_l rfl)).trans l1)).trans (ret_ok rfl))), pm, hg'⟩
theorem rng_nodup (n : Nat) : (rng 0 n).Nodup := by
  unfold rng
  rw [List.Nodup, List.pairwise_map]
  exact List.nodup_range.imp fun h e => h (by omega)
theorem row_nodup (w : Nat) (y : Int) (tn : Bool) : (rowM w y tn).Nodup := by
  have e : ((rng 0 w).map fun x => (x, y)).Nodup := by
    rw [List.Nodup, List.pairwise_map]
    exact (rng_nodup w).imp fun h e => h (Prod.ext_iff.mp e).1
  unfold rowM
  split
  · rw [List.Nodup, List.pairwise_reverse]
    exact e.imp fun h => Ne.symm h
  · exact e
/-- cells of the first rows -/
structure RowsW (w j : Nat) (cs : List (Int × Int)) : Prop where
  len : cs.length = j * w
  nd : cs.Nodup
  r : ∀ c ∈ cs, (0 ≤ c.1 ∧ c.1 < w) ∧ (0 ≤ c.2 ∧ c.2 < j)
theorem rows_more {w j : Nat} {cs : List (Int × Int)} (h : RowsW w j cs) (tn : Bool) : RowsW w (j + 1) (cs ++ rowM w j tn) := by
  refine ⟨by rw [List.length_append, h.len, rowM_len, Nat.succ_mul], ?_, fun c hc => ?_⟩
  · rw [List.nodup_append]
    refine ⟨h.nd, row_nodup w j tn, fun c hc z hz e => ?_⟩
    subst e
    have := (h.r c hc).2.2
    have := (mem_row.mp hz).2
    omega
  · rcases List.mem_append.mp hc with hc | hc
    · have := h.r c hc
      exact ⟨this.1, by omega⟩
    · have := mem_row.mp hc
      exact ⟨this.1, by omega⟩
/-- a row drawn -/
theorem drawn_row {w j : Nat} {ρ : En} {g : G} (hg : GI g) (h0 : ρ[0]? = some (.frz .row)) (h5 : ρ[5]? = some (.frz (.int (j : Nat)))) (h6 : ρ[6]? = some (.frz (.lst (cellsD ((rng 0 w).map fun x => (x, (j : Int))))))) :
    ∃ tn g', vIf (vAnd (v2 (pureK2 D.eqD) (v2 (pureK2 D.mod) (bVar 5) (vC (.int 2))) (vC (.int 1))) (v2 (pureK2 D.eqD) (vCall f__law_taken (aCons (vVar 0) (aCons (vC (.int 2)) (aNil)))) (vC (.int 0)))) (v1 (pureK1 D.revD) (bVar 6)) (vVar 6) ρ g = .ok (.lst (cellsD (rowM w j tn)), g') ∧ GI g' := by
  have e0 : ∀ g, vVar 0 ρ g = .ok (.row, g) := fun g => by unfold vVar; rw [h0]
  have e5 : ∀ g, bVar 5 ρ g = .ok (.int (j : Nat), g) := fun g => by unfold bVar; rw [h5]
  have e6 : ∀ g, bVar 6 ρ g = .ok (.lst (cellsD ((rng 0 w).map fun x => (x, (j : Int)))), g) := fun g => by unfold bVar; rw [h6]
  have e6' : ∀ g, vVar 6 ρ g = .ok (.lst (cellsD ((rng 0 w).map fun x => (x, (j : Int)))), g) := fun g => by unfold vVar; rw [h6]
  have c1 : v2 (pureK2 D.eqD) (v2 (pureK2 D.mod) (bVar 5) (vC (.int 2))) (vC (.int 1)) ρ g = .ok (.bl ((j : Int) % 2 == 1), g) := v2_ok (k := D.eqD) (x := .int ((j : Int) % 2)) (y := .int 1) (v2_ok (k := D.mod) (x := .int (j : Nat)) (y := .int 2) (e5 g) rfl rfl) rfl rfl
  cases hp : ((j : Int) % 2 == 1) with
  | false =>
    rw [hp] at c1
    refine ⟨false, g, (ifv_ok (x := .bl false) (b := false) (and_ok c1 rfl) rfl).trans ((e6' g).trans ?_), hg⟩
    unfold rowM
    rfl
  | true =>
    rw [hp] at c1
    obtain ⟨x, g', t, _, _, hg'⟩ := taken_ok (m := 2) (by omega) (by omega) hg
    refine ⟨x == 0, g', (ifv_ok (x := .bl (x == 0)) (b := x == 0) ((and_ok c1 rfl).trans ((if_pos rfl).trans (v2_ok (k := D.eqD) (x := .int x) (y := .int 0) ((call_ok (ds := [.row, .int 2]) (g1 := g) (aC_ok (e0 g) rfl)).trans t) rfl rfl))) rfl).trans ?_, hg'⟩
    unfold rowM
    rw [hp]
    cases (x == 0) with
    | false => exact e6' g'
    | true =>
      refine v1_ok (k := D.revD) (e6 g') ?_
      show some (D.lst (cellsD ((rng 0 w).map fun x => (x, (j : Int)))).reverse) = some (D.lst (cellsD ((rng 0 w).map fun x => (x, (j : Int))).reverse))
      unfold cellsD
      rw [List.map_reverse]
end GD
end RP
end L2
set_option Elab.async false
set_option linter.all false
set_option maxRecDepth 100000
namespace L2
namespace RP
namespace GD
open PySem PySem.Spec PyProof.Rows
/-- a number of starts -/
theorem pick_int {xs : List Int} (h0 : 0 < xs.length) (h1 : xs.length < 1000) {g : G} (hg : GI g) : ∃ n g', f__law_pick [.row, .lst (dI xs)] g = .ok (.int n, g') ∧ n ∈ xs ∧ GI g' := by
  obtain ⟨d, g', e, hd, hg'⟩ := pick_ok (xs := dI xs) (by rw [dI_len]; omega) (by rw [dI_len]; omega) hg
  obtain ⟨n, hn, rfl⟩ := List.mem_map.mp hd
  exact ⟨n, g', e, hn, hg'⟩
/-- what is drawn for a walk -/
theorem law_walk_ok {g : G} (hg : GI g) : ∃ (w h : Nat) (cs : List (Int × Int)) (st : List Int) (g' : G), f__law_walk [.row, .int 6] g = .ok (walkT w h cs st, g') ∧ GW (w : Nat) (h : Nat) cs st ∧ w ≤ 6 ∧ h ≤ 6 ∧ st.length ≤ 2 ∧ GI g' := by
  have hbig := big
  obtain ⟨x1, g1, t1, a1, b1, hg1⟩ := taken_ok (m := 6) (by omega) (by omega) hg
  obtain ⟨x2, g2, t2, a2, b2, hg2⟩ := taken_ok (m := 6) (by omega) (by omega) hg1
  obtain ⟨w, hw⟩ : ∃ w : Nat, 1 + x1 = (w : Nat) := ⟨(1 + x1).toNat, by omega⟩
  obtain ⟨h, hh⟩ : ∃ h : Nat, 1 + x2 = (h : Nat) := ⟨(1 + x2).toNat, by omega⟩
  let F : List (Int × Int) → Slot → Slot → En := fun cs a b => [.frz .row, .frz (.int 6), .frz (.int (w : Nat)), .frz (.int (h : Nat)), .frz (.lst (cellsD cs)), a, b, .none, .none, .none]
  have p0 := par_ok (is := [2, 3]) (m := mF (v2 (pureK2 D.add) (vC (.int 1)) (vCall f__law_taken (aCons (vVar 0) (aCons (vVar 1) (aNil))))) (mF (v2 (pureK2 D.add) (vC (.int 1)) (vCall f__law_taken (aCons (vVar 0) (aCons (vVar 1) (aNil))))) (mNil))) (ρ := [.frz .row, .frz (.int 6), .none, .none, .none, .none, .none, .none, .none, .none]) (g := g) (g1 := g2) (vs := [(false, .int (w : Nat)), (false, .int (h : Nat))]) (mF_ok (g1 := g1) (v2_ok (k := D.add) (x := .int 1) (y := .int x1) rfl ((call_ok (ds := [.row, .int 6]) rfl).trans t1) (by rw [← hw]; rfl)) (mF_ok (g1 := g2) (g2 := g2) (vs := []) (v2_ok (k := D.add) (x := .int 1) (y := .int x2) rfl ((call_ok (ds := [.row, .int 6]) rfl).trans t2) (by rw [← hh]; rfl)) rfl)) rfl rfl
  have loop := forL_inv (t := tgN 5) (body := (sSeq (sSet 6 (vComp (itR1 (vVar 2)) (tgN 7) (List.map (·.2) ([("x", 7)] : List (Str × Nat))) (vC (.bl true)) (vTup (aCons (vVar 7) (aCons (vVar 5) (aNil)))))) (sSet 4 (v2 (pureK2 D.add) (bVar 4) (vIf (vAnd (v2 (pureK2 D.eqD) (v2 (pureK2 D.mod) (bVar 5) (vC (.int 2))) (vC (.int 1))) (v2 (pureK2 D.eqD) (vCall f__law_taken (aCons (vVar 0) (aCons (vC (.int 2)) (aNil)))) (vC (.int 0)))) (v1 (pureK1 D.revD) (bVar 6)) (vVar 6))))))
    (fun n ρ g' => GI g' ∧ n ≤ 6 ∧ ∃ cs a b, ρ = F cs a b ∧ RowsW w n cs) (ds := rangeD 0 h) (k := 0) (ρ := F [] .none .none) (g := g2) ⟨hg2, by omega, [], .none, .none, rfl, ⟨by simp, List.nodup_nil, by simp⟩⟩ (fun j d ρ g hd hI => by
      obtain ⟨hg, _, cs, a, b, rfl, rw0⟩ := hI
      obtain ⟨rfl, hj⟩ := rangeD_get hd
      rw [Nat.zero_add] at rw0 ⊢
      have s1 := set_ok (i := 6) (line_comp (w := w) (y := (j : Int)) (r := 5) (c := 7) (fi := itR1 (vVar 2)) (ρ := F cs (.frz (.int (j : Nat))) b) (g := g) (by rw [r1_ok (j := (w : Int)) rfl ⟨by omega, by omega⟩]; simp) rfl (by simp [F]) (by decide) rfl) (by simp [F])
      obtain ⟨tn, g', e, hg'⟩ := drawn_row (w := w) (j := j) (ρ := F cs (.frz (.int (j : Nat))) (.frz (.lst (cellsD ((rng 0 w).map fun x => (x, (j : Int))))))) hg rfl rfl rfl
      have s2 := set_ok (i := 4) (ρ := F cs (.frz (.int (j : Nat))) (.frz (.lst (cellsD ((rng 0 w).map fun x => (x, (j : Int))))))) (g := g) (d := .lst (cellsD (cs ++ rowM w j tn))) (v2_ok (k := D.add) (fa := bVar 4) (x := .lst (cellsD cs)) rfl e (by
        rw [cellsD_app]
        have := rw0.len
        have : j * w ≤ 6 * 6 := Nat.mul_le_mul (by omega) (by omega)
        exact add_lst (by rw [cellsD_len, cellsD_len, rowM_len]; omega))) (by simp [F])
      exact ⟨_, _, g', .nx, rfl, (seq_nx s1).trans s2, .inl rfl, hg', by omega, _, _, _, rfl, rows_more rw0 tn⟩)
  obtain ⟨ρ', g3, l1, hg3, _, cs, a, b, rfl, rw0⟩ := loop
  rw [Nat.zero_add, rangeD_len] at rw0
  have it : itR1 (vVar 3) (F [] .none .none) g2 = .ok (rangeD 0 h, g2) := by
    rw [r1_ok (j := (h : Int)) rfl ⟨by omega, by omega⟩]; simp
  have cl : cs.length ≤ 36 := by
    have := rw0.len
    have : h * w ≤ 6 * 6 := Nat.mul_le_mul (by omega) (by omega)
    omega
  -- in any order
  obtain ⟨x3, g4, t3, a3, b3, hg4⟩ := taken_ok (m := 3) (by omega) (by omega) hg3
  obtain ⟨fs, g5, q5, pm, hg5⟩ : ∃ fs g5, sIf (v2 (pureK2 D.eqD) (vCall f__law_taken (aCons (vVar 0) (aCons (vC (.int 3)) (aNil)))) (vC (.int 0))) (sSet 4 (vCall f__law_shuffled (aCons (vVar 0) (aCons (vVar 4) (aNil))))) (sNil) (F cs a b) g3 = .ok (.nx, F fs a b, g5) ∧ fs.Perm cs ∧ GI g5 := by
    have c := v2_ok (k := D.eqD) (fa := vCall f__law_taken (aCons (vVar 0) (aCons (vC (.int 3)) (aNil)))) (fb := vC (.int 0)) (ρ := F cs a b) (x := .int x3) (y := .int 0) (d := .bl (x3 == 0)) (g := g3) (g1 := g4) (g2 := g4) ((call_ok (ds := [.row, .int 3]) rfl).trans t3) rfl rfl
    cases hx : (x3 == 0) with
    | false => rw [hx] at c; exact ⟨cs, g4, (if_ok c rfl).trans rfl, List.Perm.refl _, hg4⟩
    | true =>
      rw [hx] at c
      obtain ⟨fs, g5, e, pm, hg5⟩ := shuffled_ok (cs := cs) (by omega) hg4
      exact ⟨fs, g5, (if_ok c rfl).trans ((if_pos rfl).trans ((set_ok (i := 4) ((call_ok (ds := [.row, .lst (cellsD cs)]) (g1 := g4) rfl).trans e) (by simp [F])).trans rfl)), pm, hg5⟩
  have fl : fs.length = h * w := by rw [pm.length_eq, rw0.len]
  have fp : 0 < fs.length := by rw [fl]; exact Nat.mul_pos (by omega) (by omega)
  have fl2 : fs.length ≤ 36 := by rw [pm.length_eq]; exact cl
  -- the starts
  obtain ⟨n, g6, t6, hn, hg6⟩ := pick_int (xs := [0, 0, 1, 2]) (by decide) (by decide) hg5
  have hn' : 0 ≤ n ∧ n ≤ 2 := by
    simp only [List.mem_cons, List.not_mem_nil, or_false] at hn
    omega
  obtain ⟨es, g7, c7, hg7, l7, p7⟩ := compL_draw (I := GI) (P := fun e => ∃ v, e = .int v ∧ 0 ≤ v ∧ v < (fs.length : Int)) (i := 9) (fe := vCall f__law_taken (aCons (vVar 0) (aCons (v1 (pureK1 D.len) (bVar 4)) (aNil)))) (ρ := F fs a b) (ds := rangeD 0 n.toNat) (g := g6) (by simp [F]) hg6 (fun d _ g hg => by
    obtain ⟨x, g', t, x0, x1, hg'⟩ := taken_ok (m := (fs.length : Int)) (by omega) (by omega) hg
    exact ⟨.int x, g', (call_ok (ds := [.row, .int (fs.length : Nat)]) (g1 := g) (aC_ok rfl (aC_ok (v1_ok (k := D.len) (x := .lst (cellsD fs)) rfl (by show some (D.int (cellsD fs).length) = _; rw [cellsD_len])) a0_ok))).trans t, hg', x, rfl, x0, x1⟩)
  obtain ⟨vs, rfl, hv⟩ := ints_of p7
  rw [rangeD_len, dI_len] at l7
  obtain ⟨ys, u1, u2, u3, u4⟩ := unlike_ok vs (by omega) g7
  have cm : vComp (itR1 (vCall f__law_pick (aCons (vVar 0) (aCons (vLst (aCons (vC (.int 0)) (aCons (vC (.int 0)) (aCons (vC (.int 1)) (aCons (vC (.int 2)) (aNil)))))) (aNil))))) (tgN 9) (List.map (·.2) ([("k", 9)] : List (Str × Nat))) (vC (.bl true)) (vCall f__law_taken (aCons (vVar 0) (aCons (v1 (pureK1 D.len) (bVar 4)) (aNil)))) (F fs a b) g5 = .ok (.lst (dI vs), g7) :=
    comp_ok (vs := [9]) (g1 := g6) (ds := rangeD 0 n.toNat) (r1_ok ((call_ok (ds := [.row, .lst (dI [0, 0, 1, 2])]) (g1 := g5) rfl).trans t6) ⟨by omega, by omega⟩) rfl c7
  have s8 := set_ok (i := 8) (f := vCall f__law_unlike (aCons (vComp (itR1 (vCall f__law_pick (aCons (vVar 0) (aCons (vLst (aCons (vC (.int 0)) (aCons (vC (.int 0)) (aCons (vC (.int 1)) (aCons (vC (.int 2)) (aNil)))))) (aNil))))) (tgN 9) (List.map (·.2) ([("k", 9)] : List (Str × Nat))) (vC (.bl true)) (vCall f__law_taken (aCons (vVar 0) (aCons (v1 (pureK1 D.len) (bVar 4)) (aNil))))) (aNil))) (ρ := F fs a b) (g := g5) ((call_ok (aC_ok cm a0_ok)).trans u1) (by simp [F])
  refine ⟨w, h, fs, ys, g7, run_ret ((seq_nx p0).trans ((seq_nx (ρ1 := F [] .none .none) (g1 := g2) rfl).trans ((seq_nx ((for_ok it).trans l1)).trans ((seq_nx q5).trans ((seq_nx s8).trans (ret_ok rfl)))))), ⟨by omega, by omega, by rw [fl, Int.natCast_mul, Int.mul_comm], fun c hc => rw0.r c (pm.mem_iff.mp hc), pm.nodup_iff.mpr rw0.nd, u2.imp fun h => by omega, fun s hs => ?_⟩, by omega, by omega, by omega, hg7⟩
  have := hv s ((u3 s).mp hs)
  rw [fl, Int.natCast_mul, Int.mul_comm] at this
  exact this
section
variable {w h : Int} {cs : List (Int × Int)} {st : List Int}
theorem law_window_ok (hw : 1 ≤ w ∧ w ≤ 8) (hh : 1 ≤ h ∧ h ≤ 8) {g : G} (hg : GI g) : ∃ x y a b g', f__law_window [.row, walkT w h cs st] g = .ok (winD x y a b, g') ∧ GN w h x y a b ∧ GI g' := by
  have hbig := big
  obtain ⟨x, g1, t1, a1, b1, hg1⟩ := taken_ok (m := w) (by omega) (by omega) hg
  obtain ⟨y, g2, t2, a2, b2, hg2⟩ := taken_ok (m := h) (by omega) (by omega) hg1
  obtain ⟨a, g3, t3, a3, b3, hg3⟩ := taken_ok (m := w - x) (by omega) (by omega) hg2
  obtain ⟨b, g4, t4, a4, b4, hg4⟩ := taken_ok (m := h - y) (by omega) (by omega) hg3
  have p0 := par_ok (is := [2, 3]) (m := mF (vCall f__law_taken (aCons (vVar 0) (aCons (v2 (pureK2 D.ix) (bVar 1) (vC (.int 0))) (aNil)))) (mF (vCall f__law_taken (aCons (vVar 0) (aCons (v2 (pureK2 D.ix) (bVar 1) (vC (.int 1))) (aNil)))) (mNil))) (ρ := [.frz .row, .frz (walkT w h cs st), .none, .none]) (g := g) (g1 := g2) (vs := [(false, .int x), (false, .int y)]) (mF_ok (g1 := g1) ((call_ok (ds := [.row, .int w]) rfl).trans t1) (mF_ok (g1 := g2) (g2 := g2) (vs := []) ((call_ok (ds := [.row, .int h]) rfl).trans t2) rfl)) rfl rfl
  let ρ : En := [.frz .row, .frz (walkT w h cs st), .frz (.int x), .frz (.int y)]
  have r : vTup (aCons (vVar 2) (aCons (vVar 3) (aCons (v2 (pureK2 D.add) (vC (.int 1)) (vCall f__law_taken (aCons (vVar 0) (aCons (v2 (pureK2 D.sub) (v2 (pureK2 D.ix) (bVar 1) (vC (.int 0))) (bVar 2)) (aNil))))) (aCons (v2 (pureK2 D.add) (vC (.int 1)) (vCall f__law_taken (aCons (vVar 0) (aCons (v2 (pureK2 D.sub) (v2 (pureK2 D.ix) (bVar 1) (vC (.int 1))) (bVar 3)) (aNil))))) (aNil))))) ρ g2 = .ok (winD x y (1 + a) (1 + b), g4) :=
    tup_ok (aC_ok (g1 := g2) rfl (aC_ok (g1 := g2) rfl (aC_ok (g1 := g3) (v2_ok (k := D.add) (x := .int 1) (y := .int a) (g1 := g2) rfl ((call_ok (ds := [.row, .int (w - x)]) (g1 := g2) rfl).trans t3) rfl) (aC_ok (g1 := g4) (v2_ok (k := D.add) (x := .int 1) (y := .int b) (g1 := g3) rfl ((call_ok (ds := [.row, .int (h - y)]) (g1 := g3) rfl).trans t4) rfl) rfl)))) (by simp; omega)
  exact ⟨x, y, 1 + a, 1 + b, g4, run_ret ((seq_nx p0).trans (ret_ok r)), ⟨⟨a1, b1⟩, ⟨a2, b2⟩, by omega, by omega⟩, hg4⟩
theorem law_bad_window_ok {g : G} (hg : GI g) : ∃ d g', f__law_bad_window [.row, walkT w h cs st] g = .ok (d, g') ∧ d ∈ badsW w h ∧ GI g' := by
  obtain ⟨d, g', e, hd, hg'⟩ := pick_ok (xs := badsW w h) (by simp [badsW]) (by simp [badsW]) hg
  exact ⟨d, g', run_ret ((seq_nx (ρ1 := [.frz .row, .frz (walkT w h cs st), .frz (.int w), .frz (.int h), .none]) (g1 := g) rfl).trans ((seq_nx (ρ1 := [.frz .row, .frz (walkT w h cs st), .frz (.int w), .frz (.int h), .frz (.lst ((badsW w h).take 7))]) (g1 := g) rfl).trans (ret_ok ((call_ok (ds := [.row, .lst (badsW w h)]) (g1 := g) rfl).trans e)))), hd, hg'⟩
end
end GD
end RP
end L2
set_option Elab.async false
set_option linter.all false
set_option maxRecDepth 100000
namespace L2
namespace RP
namespace GD
open PySem PySem.Spec PyProof.Rows
section
variable {w h : Int} {o s : D} {cs : List (Int × Int)} {st : List Int}
theorem wk_cell_ok2 {xs : List D} (ho : isSeqD o xs) {i : Nat} (hx : xs.take i = cellsD (cs.take i)) {c : Int × Int} (hr : (0 ≤ c.1 ∧ c.1 < w) ∧ (0 ≤ c.2 ∧ c.2 < h)) (hn : c ∉ cs.take i) (m t : Slot) (g : G) : wkCells (WFm (.int w) (.int h) o s m (.frz (.int (i : Nat))) (.frz (cellD c)) t) g = .ok (.nx, WFm (.int w) (.int h) o s m (.frz (.int (i : Nat))) (.frz (cellD c)) t, g) := by
  obtain ⟨d, h1, h2⟩ := cut_seq ho i
  rw [hx] at h2
  have sl := sl_ok (fa := bVar 3) (fl := sN) (fh := sS (bVar 6)) (ρ := WFm (.int w) (.int h) o s m (.frz (.int (i : Nat))) (.frz (cellD c)) t) (g := g) (g1 := g) (g2 := g) (g3 := g) (x := o) (l := none) (h := some (i : Int)) rfl rfl rfl h1
  refine (if_ok (x := .bl false) (b := false) ((or_ok (x := .bl false) (b := false) (not_ok (x := .bl true) (b := true) ((call_ok (ds := [.int w, .int h, cellD c]) (g1 := g) rfl).trans (is_cell_ok hr.1 hr.2 g)) rfl) rfl).trans ((if_neg (by decide)).trans (v2_ok (k := D.inD) (x := cellD c) rfl sl (by rw [in_seqC h2, decide_eq_false hn])))) rfl).trans rfl
theorem wk_start_ok2 {m : Int} {xs : List D} (hs : isSeqD s xs) {i : Nat} (hx : xs.take i = dI (st.take i)) {v : Int} (hr : 0 ≤ v ∧ v < m) (hn : v ∉ st.take i) (c : Slot) (g : G) : wkStarts (WFm (.int w) (.int h) o s (.frz (.int m)) (.frz (.int (i : Nat))) c (.frz (.int v))) g = .ok (.nx, WFm (.int w) (.int h) o s (.frz (.int m)) (.frz (.int (i : Nat))) c (.frz (.int v)), g) := by
  obtain ⟨d, h1, h2⟩ := cut_seq hs i
  rw [hx] at h2
  have sl := sl_ok (fa := bVar 4) (fl := sN) (fh := sS (bVar 6)) (ρ := WFm (.int w) (.int h) o s (.frz (.int m)) (.frz (.int (i : Nat))) c (.frz (.int v))) (g := g) (g1 := g) (g2 := g) (g3 := g) (x := s) (l := none) (h := some (i : Int)) rfl rfl rfl h1
  refine (if_ok (x := .bl false) (b := false) ((or_ok (x := .bl false) (b := false) (not_ok (x := .bl true) (b := true) ((call_ok (ds := [.int v, .int 0, .int (m - 1)]) (g1 := g) rfl).trans ((within_int v 0 (m - 1) g).trans (wi_t hr.1 (by omega) g))) rfl) rfl).trans ((if_neg (by decide)).trans (v2_ok (k := D.inD) (x := .int v) rfl sl (by rw [in_seqI h2, decide_eq_false hn])))) rfl).trans rfl
/-- a side that is none -/
def badSides : List D := [.int 0, .int 9, .non, .bl true]
theorem sides_no {d : D} (hd : d ∈ badSides) (g : G) : f_is_within [d, .int 1, .int 8] g = .ok (.bl false, g) := by
  simp only [badSides, List.mem_cons, List.not_mem_nil, or_false] at hd
  rcases hd with rfl | rfl | rfl | rfl <;> rfl
theorem sides_row {d : D} (hd : d ∈ badSides) : d.noRow = true := by
  simp only [badSides, List.mem_cons, List.not_mem_nil, or_false] at hd
  rcases hd with rfl | rfl | rfl | rfl <;> rfl
theorem walk_side {d : D} (hd : d ∈ badSides) (g : G) : mk_Walk [d, .int 2, .lst [], .lst []] g = .exc "BadSize" d g :=
  mkF_exc (q := ("BadSize", d)) fun M => by
    rw [s_Walk_eq]
    exact seq_exc (expr_exc ((call_ok (ds := [d, .int 2]) (g1 := { g with me := some M }) rfl).trans (check_size_bad (sides_no hd _))))
theorem side_walks {d : D} (hd : d ∈ badSides) (g : G) : f_rows_walk [.int 2, d] g = .exc "BadSize" d g ∧ f_snake_walk [.int 2, d] g = .exc "BadSize" d g ∧ f_round_walk [.int 2, d] g = .exc "BadSize" d g := by
  have e : ∀ (ρ : En) (rest : SS), ρ[0]? = some (.frz (.int 2)) → ρ[1]? = some (.frz d) → sSeq (sExpr (vCall f_check_size (aCons (vVar 0) (aCons (vVar 1) (aNil))))) rest ρ g = .exc "BadSize" d g := fun ρ rest h0 h1 => by
    have e0 : vVar 0 ρ g = .ok (.int 2, g) := by unfold vVar; rw [h0]
    have e1 : vVar 1 ρ g = .ok (d, g) := by unfold vVar; rw [h1]
    exact seq_exc (expr_exc ((call_ok (ds := [.int 2, d]) (aC_ok e0 (aC_ok e1 a0_ok))).trans (check_size_bad2 (by omega) (sides_no hd g))))
  exact ⟨run_exc (e _ _ rfl rfl), run_exc (e _ _ rfl rfl), run_exc (e _ _ rfl rfl)⟩
/-- a cell that is none -/
def badCells (w h : Int) : List D := [.non, .tup [.int w, .int 0], .lst [.int 0, .int 0], .tup [.int 0, .int h], .tup [.int 0, .int 0, .int 0], .tup [.bl true, .int 0]]
theorem within_f {n lo hi : Int} (hn : n < lo ∨ hi < n) (g : G) : f_is_within [.int n, .int lo, .int hi] g = .ok (.bl false, g) := by
  rw [within_int]
  congr 3
  rcases hn with hn | hn
  · rw [decide_eq_false (by omega), Bool.false_and]
  · rw [decide_eq_false (p := n ≤ hi) (by omega), Bool.and_false]
theorem cells_no (hw : 1 ≤ w ∧ w ≤ 8) (hh : 1 ≤ h ∧ h ≤ 8) {d : D} (hd : d ∈ badCells w h) (g : G) : f_is_cell [.int w, .int h, d] g = .ok (.bl false, g) := by
  simp only [badCells, List.mem_cons, List.not_mem_nil, or_false] at hd
  have z1 : f_is_within [.int 0, .int 0, .int (w - 1)] g = .ok (.bl true, g) := (within_int 0 0 (w - 1) g).trans (wi_t (by omega) (by omega) g)
  have z2 : f_is_within [.int 0, .int 0, .int (h - 1)] g = .ok (.bl true, g) := (within_int 0 0 (h - 1) g).trans (wi_t (by omega) (by omega) g)
  rcases hd with rfl | rfl | rfl | rfl | rfl | rfl
  · rfl
  · exact is_cell_two (p := false) (within_f (by omega) g) z2
  · rfl
  · exact is_cell_two (q := false) z1 (within_f (by omega) g)
  · rfl
  · exact is_cell_two (p := false) (within_no rfl _ _) z2
theorem cells_row {d : D} (hd : d ∈ badCells w h) : d.noRow = true := by
  simp only [badCells, List.mem_cons, List.not_mem_nil, or_false] at hd
  rcases hd with rfl | rfl | rfl | rfl | rfl | rfl <;> rfl
theorem walk_cells_bad (gw : GW w h cs st) {K : Nat} (hK : K < cs.length) {d : D} (hd : d ∈ badCells w h) (g : G) : mk_Walk [.int w, .int h, .lst ((cellsD cs).take K ++ [d] ++ (cellsD cs).drop (K + 1)), s] g = .exc "BadCells" (.int (K : Nat)) g :=
  mkF_exc (q := ("BadCells", .int (K : Nat))) fun M => by
    rw [s_Walk_eq]
    have hK' : K < (cellsD cs).length := by rw [cellsD_len]; exact hK
    let xs := (cellsD cs).take K ++ [d] ++ (cellsD cs).drop (K + 1)
    have xl : xs.length = (cellsD cs).length := mid_len hK' d
    have g' : G := { g with me := some M }
    have loop := forL_excat (t := tgT 2 (tgsCons (tgN 6) (tgsCons (tgN 7) (tgsNil)))) (body := wkCells) (c := "BadCells") (e := .int (K : Nat)) (g' := { g with me := some M }) (fun _ ρ g' => g' = { g with me := some M } ∧ ∃ i c, ρ = WFm (.int w) (.int h) (.lst xs) s (.frz (.int (w * h))) i c .none) K (ds := enumD 0 xs) (k := 0) (ρ := WFm (.int w) (.int h) (.lst xs) s (.frz (.int (w * h))) .none .none .none) (g := { g with me := some M }) (Nat.zero_le _) (by rw [Nat.zero_add, enumD_len, xl]; exact hK') ⟨rfl, _, _, rfl⟩
      (fun j e ρ g' he hj hI => by
        obtain ⟨rfl, i, c, rfl⟩ := hI
        rw [Nat.zero_add] at hj
        rw [enumD_get, cutD_mid d j hj (by omega), cellsD_get, Nat.zero_add] at he
        obtain ⟨e', he', rfl⟩ := Option.map_eq_some_iff.mp he
        obtain ⟨c1, hc, rfl⟩ := Option.map_eq_some_iff.mp he'
        have tk : xs.take j = cellsD (cs.take j) := by
          show ((cellsD cs).take K ++ [d] ++ (cellsD cs).drop (K + 1)).take j = _
          rw [List.append_assoc, List.take_append_of_le_length (by rw [List.length_take]; omega), List.take_take, Nat.min_eq_left (by omega)]
          unfold cellsD
          rw [List.map_take]
        exact ⟨_, _, _, rfl, wk_cell_ok2 (s := s) (.inl rfl) tk (gw.r c1 (List.mem_of_getElem? hc)) (not_take gw.nd hc) (.frz (.int (w * h))) .none _, rfl, _, _, rfl⟩)
      (fun j e ρ g' he hj hI => by
        obtain ⟨rfl, i, c, rfl⟩ := hI
        rw [Nat.zero_add] at hj
        subst hj
        rw [enumD_get, mid_at (Nat.le_of_lt hK'), Nat.zero_add] at he
        obtain ⟨e', he', rfl⟩ := Option.map_eq_some_iff.mp he
        cases he'
        exact ⟨_, rfl, wk_cell_bad (fun g => cells_no gw.hw gw.hh hd g) _ _ _⟩)
    exact (wk_pre gw.hw gw.hh (.inl rfl) (by rw [xl, cellsD_len]; exact gw.len) _ _).trans (seq_exc ((for_ok (enumIt_ok (.inl rfl) rfl)).trans loop))
theorem walk_short (gw : GW w h cs st) (g : G) : mk_Walk [.int w, .int h, .lst ((cellsD cs).drop 1), s] g = .exc "BadCells" (.int (-1)) g :=
  mkF_exc (q := ("BadCells", .int (-1))) fun M => by
    rw [s_Walk_eq]
    refine wk_pre_bad gw.hw gw.hh (.inl rfl) ?_ _ _
    have p : 0 < w * h := Int.mul_pos (by have := gw.hw; omega) (by have := gw.hh; omega)
    have := gw.len
    rw [List.length_drop, cellsD_len]
    omega
/-- a start that is none -/
def badStarts (n : Nat) : List D := [.non, .int (-1), .int n, .bl true]
theorem starts_no {m : Int} {n : Nat} (hn : (n : Int) = m) {d : D} (hd : d ∈ badStarts n) (g : G) : f_is_within [d, .int 0, .int (m - 1)] g = .ok (.bl false, g) := by
  simp only [badStarts, List.mem_cons, List.not_mem_nil, or_false] at hd
  rcases hd with rfl | rfl | rfl | rfl
  · exact within_no rfl _ _
  · exact within_f (by omega) g
  · exact within_f (by omega) g
  · exact within_no rfl _ _
theorem starts_row {n : Nat} {d : D} (hd : d ∈ badStarts n) : d.noRow = true := by
  simp only [badStarts, List.mem_cons, List.not_mem_nil, or_false] at hd
  rcases hd with rfl | rfl | rfl | rfl <;> rfl
theorem walk_starts_bad (gw : GW w h cs st) {d : D} (hd : d ∈ badStarts cs.length) (g : G) : mk_Walk [.int w, .int h, .lst (cellsD cs), .lst (dI st ++ [d])] g = .exc "BadStarts" (.int st.length) g :=
  mkF_exc (q := ("BadStarts", .int st.length)) fun M => by
    rw [s_Walk_eq]
    let xs := dI st ++ [d]
    obtain ⟨i0, c0, e1⟩ := wk_cells (o := .lst (cellsD cs)) (s := .lst xs) gw (.inl rfl) (.frz (.int (w * h))) { g with me := some M }
    have loop := forL_excat (t := tgT 2 (tgsCons (tgN 6) (tgsCons (tgN 8) (tgsNil)))) (body := wkStarts) (c := "BadStarts") (e := .int st.length) (g' := { g with me := some M }) (fun _ ρ g' => g' = { g with me := some M } ∧ ∃ i t, ρ = WFm (.int w) (.int h) (.lst (cellsD cs)) (.lst xs) (.frz (.int (w * h))) i c0 t) st.length (ds := enumD 0 xs) (k := 0) (ρ := WFm (.int w) (.int h) (.lst (cellsD cs)) (.lst xs) (.frz (.int (w * h))) i0 c0 .none) (g := { g with me := some M }) (Nat.zero_le _) (by rw [Nat.zero_add, enumD_len]; simp [xs, dI_len]) ⟨rfl, _, _, rfl⟩
      (fun j e ρ g' he hj hI => by
        obtain ⟨rfl, i, c, rfl⟩ := hI
        rw [Nat.zero_add] at hj
        rw [enumD_get, List.getElem?_append_left (by rw [dI_len]; exact hj), dI_get, Nat.zero_add] at he
        obtain ⟨e', he', rfl⟩ := Option.map_eq_some_iff.mp he
        obtain ⟨v, hv, rfl⟩ := Option.map_eq_some_iff.mp he'
        have tk : xs.take j = dI (st.take j) := by
          show (dI st ++ [d]).take j = _
          rw [List.take_append_of_le_length (by rw [dI_len]; omega)]
          unfold dI
          rw [List.map_take]
        exact ⟨_, _, _, rfl, wk_start_ok2 (o := .lst (cellsD cs)) (.inl rfl) tk (gw.sr v (List.mem_of_getElem? hv)) (not_take gw.sn hv) c0 _, rfl, _, _, rfl⟩)
      (fun j e ρ g' he hj hI => by
        obtain ⟨rfl, i, c, rfl⟩ := hI
        rw [Nat.zero_add] at hj
        subst hj
        rw [enumD_get, List.getElem?_append_right (by rw [dI_len]; exact Nat.le_refl _), dI_len, Nat.sub_self, Nat.zero_add] at he
        cases he
        exact ⟨_, rfl, wk_start_bad (fun g => starts_no gw.len hd g) c0 _⟩)
    exact (wk_pre gw.hw gw.hh (.inl rfl) (by rw [cellsD_len]; exact gw.len) _ _).trans ((seq_nx e1).trans ((seq_nx ((if_ok (x := .bl false) (b := false) (not_ok (x := .bl true) (b := true) ((call_ok (ds := [.lst xs]) (g1 := { g with me := some M }) rfl).trans (is_row_ok (.inl rfl) _)) rfl) rfl).trans rfl)).trans (seq_exc ((for_ok (enumIt_ok (.inl rfl) rfl)).trans loop))))
theorem walk_starts_none (gw : GW w h cs st) (g : G) : mk_Walk [.int w, .int h, .lst (cellsD cs), .non] g = .exc "BadStarts" (.int (-1)) g :=
  mkF_exc (q := ("BadStarts", .int (-1))) fun M => by
    rw [s_Walk_eq]
    obtain ⟨i0, c0, e1⟩ := wk_cells (o := .lst (cellsD cs)) (s := .non) gw (.inl rfl) (.frz (.int (w * h))) { g with me := some M }
    exact (wk_pre gw.hw gw.hh (.inl rfl) (by rw [cellsD_len]; exact gw.len) _ _).trans ((seq_nx e1).trans (seq_exc ((if_ok (x := .bl true) (b := true) rfl rfl).trans ((if_pos rfl).trans (raise_ok rfl)))))
/-- what is no walk -/
def badWalks : List D := [.non, .int 3, .str "walk", .tup [.int 2, .int 2], .lst []]
theorem no_walk {d : D} (hd : d ∈ badWalks) (g : G) : f_mirrored_walk [d] g = .exc "BadWalk" d g ∧ f_turned_walk [d] g = .exc "BadWalk" d g ∧ f_runs_of [d] g = .exc "BadWalk" d g := by
  have e : ∀ (ρ : En) (rest : SS), ρ[0]? = some (.frz d) → sSeq (sExpr (vCall f_check_walk (aCons (vVar 0) (aNil)))) rest ρ g = .exc "BadWalk" d g := fun ρ rest h0 => by
    have e0 : vVar 0 ρ g = .ok (d, g) := by unfold vVar; rw [h0]
    refine seq_exc (expr_exc ((call_ok (ds := [d]) (aC_ok e0 a0_ok)).trans ?_))
    simp only [badWalks, List.mem_cons, List.not_mem_nil, or_false] at hd
    rcases hd with rfl | rfl | rfl | rfl | rfl <;> rfl
  exact ⟨run_exc (e _ _ rfl), run_exc (e _ _ rfl), run_exc (e _ _ rfl)⟩
theorem repr_walks : badWalks.all (fun d => (D.reprD (.tup [.str "walk", d])).isSome) = true := by decide +kernel
theorem repr_sides : badSides.all (fun d => (D.reprD (.tup [.str "size", d])).isSome) = true := by decide +kernel
theorem repr_windows : ((List.range 8).all fun (w : Nat) => (D.reprD (.tup [.str "size", .int ((w : Nat) + 1)])).isSome && (List.range 8).all fun (h : Nat) => (badsW (w : Nat) (h : Nat)).all fun d => (D.reprD (.tup [.str "window", d])).isSome) = true := by decide +kernel
end
end GD
end RP
end L2
set_option Elab.async false
set_option linter.all false
set_option maxRecDepth 100000
namespace L2
namespace RP
namespace GD
open PySem PySem.Spec PyProof.Rows
theorem strOk_cells : PyData.strOk ("cells" : Str) = true := by decide +kernel
theorem strOk_starts : PyData.strOk ("starts" : Str) = true := by decide +kernel
theorem strOk_tiles : PyData.strOk ("tiles" : Str) = true := by decide +kernel
section
variable {w h : Nat} {cs : List (Int × Int)} {st : List Int}
abbrev RF (w h : Nat) (cs : List (Int × Int)) (st : List Int) (side wrong ask at_ bad start none_ : Slot) : En := [.frz .row, .frz (walkO w h cs (startsS st)), .frz (walkT w h cs st), .frz (.int (w : Nat)), .frz (.int (h : Nat)), .frz (.lst (cellsD cs)), .frz (.lst (dI st)), side, wrong, ask, at_, bad, start, none_]
/-- the refusal is the one that is due, by its text -/
theorem told_repr {fb f : SE} {ρ : En} {g : G} {c tag : Str} {d : D} (hb : fb (notNow ρ) g = .exc c d g) (hc : c ∈ ref_names) (ht : tagOf told_list c = some tag) (hf : f ρ g = .ok (d, g)) (hr : (D.reprD (.tup [.str tag, d])).isSome = true) :
    sIf (v2 (pureK2 D.neD) (v1 (pureK1 D.reprD) (vRef ref_names told_list fb)) (v1 (pureK1 D.reprD) (vTup (aCons (vC (.str tag)) (aCons f (aNil)))))) (sRet (vC (.bl false))) (sNil) ρ g = .ok (.nx, ρ, g) := by
  obtain ⟨r, hr⟩ := repr_str hr
  exact (if_ok (b := false) (v2_ok (k := D.neD) (v1_ok (k := D.reprD) (ref_exc hb hc ht) hr) (v1_ok (k := D.reprD) (tup_ok (ds := [.str tag, d]) (aC_ok rfl (aC_ok hf a0_ok)) (by have := big; simp; omega)) hr) (ne_str r)) rfl).trans rfl
/-- .. by its value -/
theorem told_val {fb f : SE} {ρ : En} {g : G} {c tag : Str} {i : Int} (hb : fb (notNow ρ) g = .exc c (.int i) g) (hc : c ∈ ref_names) (ht : tagOf told_list c = some tag) (hf : f ρ g = .ok (.int i, g)) (hs : PyData.strOk tag = true) :
    sIf (v2 (pureK2 D.neD) (vRef ref_names told_list fb) (vTup (aCons (vC (.str tag)) (aCons f (aNil))))) (sRet (vC (.bl false))) (sNil) ρ g = .ok (.nx, ρ, g) :=
  (if_ok (b := false) (v2_ok (k := D.neD) (ref_exc hb hc ht) (tup_ok (ds := [.str tag, .int i]) (aC_ok rfl (aC_ok hf a0_ok)) (by have := big; simp; omega)) (ne_tag hs i)) rfl).trans rfl
theorem callL_exc {i : Nat} {tbl : Str → Option FS} {fr : SEs} {ρ : En} {g : G} {x : Str} {fs : FS} {ds : List D} {c : Str} {d : D} (hi : ρ[i]? = some (.frz (.fn x))) (hx : tbl x = some fs) (hf : fr ρ g = .ok (ds, g)) (he : fs ds g = .exc c d g) : vCallL i tbl fr ρ g = .exc c d g := by
  unfold vCallL
  rw [hi]
  simp only
  rw [hx]
  exact (call_ok hf).trans he
theorem mid_cells (hl : cs.length ≤ 100) {K : Nat} (hK : K < cs.length) {d : D} {ρ : En} {g : G} (h5 : ρ[5]? = some (.frz (.lst (cellsD cs)))) (h10 : ρ[10]? = some (.frz (.int (K : Nat)))) (h11 : ρ[11]? = some (.frz d)) :
    v2 (pureK2 D.add) (v2 (pureK2 D.add) (vSl (bVar 5) (sN) (sS (bVar 10))) (vLst (aCons (vVar 11) (aNil)))) (vSl (bVar 5) (sS (v2 (pureK2 D.add) (bVar 10) (vC (.int 1)))) (sN)) ρ g = .ok (.lst ((cellsD cs).take K ++ [d] ++ (cellsD cs).drop (K + 1)), g) := by
  have hbig := big
  have b1 : bVar 5 ρ g = .ok (.lst (cellsD cs), g) := by unfold bVar; rw [h5]
  have b7 : bVar 10 ρ g = .ok (.int (K : Nat), g) := by unfold bVar; rw [h10]
  have b8 : vVar 11 ρ g = .ok (d, g) := by unfold vVar; rw [h11]
  have s1 : vSl (bVar 5) sN (sS (bVar 10)) ρ g = .ok (.lst ((cellsD cs).take K), g) := sl_ok b1 rfl (sS_ok b7) (cut_lst_to _ _)
  have s2 : vSl (bVar 5) (sS (v2 (pureK2 D.add) (bVar 10) (vC (.int 1)))) sN ρ g = .ok (.lst ((cellsD cs).drop (K + 1)), g) := sl_ok b1 (sS_ok (v2_ok (k := D.add) (x := .int (K : Nat)) (y := .int 1) b7 rfl rfl)) rfl (cut_lst_from _ _)
  refine v2_ok (k := D.add) (v2_ok (k := D.add) s1 (lst_ok (ds := [d]) (aC_ok b8 a0_ok) (by simp; omega)) (add_lst ?_)) s2 (add_lst ?_)
  · simp only [List.length_take, List.length_singleton, cellsD_len]; omega
  · simp only [List.length_append, List.length_take, List.length_drop, List.length_singleton, cellsD_len]; omega
theorem law_refusals_ok (gw : GW (w : Nat) (h : Nat) cs st) (hw : w ≤ 6) (hh : h ≤ 6) (hst : st.length ≤ 2) {g : G} (hg : GI g) : ∃ g', f__law_refusals [.row, walkO w h cs (startsS st), walkT w h cs st] g = .ok (.bl true, g') ∧ GI g' := by
  have hbig := big
  have hw1 := gw.hw
  have hh1 := gw.hh
  have cl : cs.length ≤ 64 := gw_len gw
  have cp : 0 < cs.length := by
    have p : 0 < (w : Int) * h := Int.mul_pos (by omega) (by omega)
    have := gw.len
    omega
  obtain ⟨sd, g1, e1, hsd, hg1⟩ := pick_ok (xs := badSides) (by decide) (by decide) hg
  obtain ⟨wr, g2, e2, hwr, hg2⟩ := pick_ok (xs := badWalks) (by decide) (by decide) hg1
  obtain ⟨k, g3, e3, k0, k1, hg3⟩ := taken_ok (m := (cs.length : Int)) (by omega) (by omega) hg2
  obtain ⟨K, rfl⟩ := Int.eq_ofNat_of_zero_le k0
  have hK : K < cs.length := by omega
  obtain ⟨bd, g4, e4, hbd, hg4⟩ := pick_ok (xs := badCells w h) (by simp [badCells]) (by simp [badCells]) hg3
  obtain ⟨sa, g5, e5, hsa, hg5⟩ := pick_ok (xs := badStarts cs.length) (by simp [badStarts]) (by simp [badStarts]) hg4
  obtain ⟨no, g6, e6, hno, hg6⟩ := law_bad_window_ok (w := (w : Nat)) (h := (h : Nat)) (cs := cs) (st := st) hg5
  have rw1 := List.all_eq_true.mp repr_windows w (List.mem_range.mpr (by omega))
  rw [Bool.and_eq_true] at rw1
  have rw2 := List.all_eq_true.mp (List.all_eq_true.mp rw1.2 h (List.mem_range.mpr (by omega))) no hno
  have rsd := List.all_eq_true.mp repr_sides sd hsd
  have rwr := List.all_eq_true.mp repr_walks wr hwr
  have a0 := asg_ok (t := tgT 4 (tgsCons (tgN 3) (tgsCons (tgN 4) (tgsCons (tgN 5) (tgsCons (tgN 6) (tgsNil)))))) (f := vVar 2) (ρ := [.frz .row, .frz (walkO w h cs (startsS st)), .frz (walkT w h cs st), .none, .none, .none, .none, .none, .none, .none, .none, .none, .none, .none]) (ρ1 := RF w h cs st .none .none .none .none .none .none .none) (g := g) (g1 := g) rfl rfl
  have a1 := par2_ok (i := 7) (j := 8) (ρ := RF w h cs st .none .none .none .none .none .none .none) (f1 := vCall f__law_pick (aCons (vVar 0) (aCons (vLst (aCons (vC (.int 0)) (aCons (vC (.int 9)) (aCons (vC .non) (aCons (vC (.bl true)) (aNil)))))) (aNil)))) (f2 := vCall f__law_pick (aCons (vVar 0) (aCons (vLst (aCons (vC .non) (aCons (vC (.int 3)) (aCons (vC (.str "walk")) (aCons (vTup (aCons (vC (.int 2)) (aCons (vC (.int 2)) (aNil)))) (aCons (vLst (aNil)) (aNil))))))) (aNil)))) ((call_ok (ds := [.row, .lst badSides]) (g1 := g) rfl).trans e1) ((call_ok (ds := [.row, .lst badWalks]) (g1 := g1) rfl).trans e2) (by simp [RF]) (by simp [RF])
  let R1 : Slot → En := fun ask => RF w h cs st (.frz sd) (.frz wr) ask .none .none .none .none
  have sw := side_walks hsd g2
  have q1 : ∀ (x : Str) (fs : FS), tbl_rows_walk_snake_walk_round_walk x = some fs → fs [.int 2, sd] g2 = .exc "BadSize" sd g2 → _ := fun x fs hx hf => told_repr (fb := vCallL 9 (tbl_rows_walk_snake_walk_round_walk) (aCons (vC (.int 2)) (aCons (vVar 7) (aNil)))) (f := vVar 7) (ρ := R1 (.frz (.fn x))) (tag := "size") (callL_exc (ds := [.int 2, sd]) rfl hx rfl hf) (by decide) rfl rfl rsd
  have f1 := (for_ok (seqIt_l (f := vLst (aCons (vC (.fn "rows_walk")) (aCons (vC (.fn "snake_walk")) (aCons (vC (.fn "round_walk")) (aNil))))) (ds := [.fn "rows_walk", .fn "snake_walk", .fn "round_walk"]) (ρ := R1 .none) (g := g2) (g1 := g2) rfl)).trans ((forL_nx (t := tgN 9) rfl (q1 "rows_walk" f_rows_walk rfl sw.1)).trans ((forL_nx (t := tgN 9) rfl (q1 "snake_walk" f_snake_walk rfl sw.2.1)).trans ((forL_nx (t := tgN 9) rfl (q1 "round_walk" f_round_walk rfl sw.2.2)).trans rfl)))
  have q2 := told_repr (fb := vMake (mk_Walk) (aCons (vVar 7) (aCons (vC (.int 2)) (aCons (vLst (aNil)) (aCons (vLst (aNil)) (aNil)))))) (f := vVar 7) (ρ := R1 (.frz (.fn "round_walk"))) (tag := "size") (make_exc (ds := [sd, .int 2, .lst [], .lst []]) (g1 := g2) rfl (by show (sd.noRow && true) = true; rw [sides_row hsd]; rfl) (walk_side hsd g2) (sides_row hsd)) (by decide) rfl rfl rsd
  have a3 := par2_ok (i := 10) (j := 11) (ρ := R1 (.frz (.fn "round_walk"))) (f1 := vCall f__law_taken (aCons (vVar 0) (aCons (v1 (pureK1 D.len) (bVar 5)) (aNil)))) (f2 := vCall f__law_pick (aCons (vVar 0) (aCons (vLst (aCons (vC .non) (aCons (vTup (aCons (vVar 3) (aCons (vC (.int 0)) (aNil)))) (aCons (vLst (aCons (vC (.int 0)) (aCons (vC (.int 0)) (aNil)))) (aCons (vTup (aCons (vC (.int 0)) (aCons (vVar 4) (aNil)))) (aCons (vTup (aCons (vC (.int 0)) (aCons (vC (.int 0)) (aCons (vC (.int 0)) (aNil))))) (aCons (vTup (aCons (vC (.bl true)) (aCons (vC (.int 0)) (aNil)))) (aNil)))))))) (aNil)))) ((call_ok (ds := [.row, .int (cs.length : Nat)]) (g1 := g2) (aC_ok rfl (aC_ok (v1_ok (k := D.len) (x := .lst (cellsD cs)) rfl (by show some (D.int (cellsD cs).length) = _; rw [cellsD_len])) a0_ok))).trans e3) ((call_ok (ds := [.row, .lst (badCells w h)]) (g1 := g3) rfl).trans e4) (by simp [R1, RF]) (by simp [R1, RF])
  let R2 : Slot → Slot → Slot → En := fun ask sa no => RF w h cs st (.frz sd) (.frz wr) ask (.frz (.int (K : Nat))) (.frz bd) sa no
  have nc := noRows_cells cs
  have nr : ∀ xs ys : List D, D.noRows [.int (w : Nat), .int (h : Nat), .lst xs, .lst ys] = (D.noRows xs && (D.noRows ys && true)) := fun xs ys => rfl
  have q4 := told_val (fb := vMake (mk_Walk) (aCons (vVar 3) (aCons (vVar 4) (aCons (v2 (pureK2 D.add) (v2 (pureK2 D.add) (vSl (bVar 5) (sN) (sS (bVar 10))) (vLst (aCons (vVar 11) (aNil)))) (vSl (bVar 5) (sS (v2 (pureK2 D.add) (bVar 10) (vC (.int 1)))) (sN))) (aCons (vLst (aNil)) (aNil)))))) (f := vVar 10) (ρ := R2 (.frz (.fn "round_walk")) .none .none) (g := g4) (tag := "cells") (i := (K : Nat)) (make_exc (g1 := g4) (aC_ok (x := .int (w : Nat)) (g1 := g4) rfl (aC_ok (x := .int (h : Nat)) (g1 := g4) rfl (aC_ok (g1 := g4) (mid_cells (K := K) (d := bd) (by omega) hK rfl rfl rfl) rfl))) (by
      rw [nr, noRows_app, noRows_app, noRows_take _ _ nc, noRows_drop _ _ nc]
      show (((true && (bd.noRow && true)) && true) && (true && true)) = true
      rw [cells_row hbd]; rfl) (walk_cells_bad gw hK hbd g4) rfl) (by decide) rfl rfl strOk_cells
  have q5 := told_val (fb := vMake (mk_Walk) (aCons (vVar 3) (aCons (vVar 4) (aCons (vSl (bVar 5) (sS (vC (.int 1))) (sN)) (aCons (vLst (aNil)) (aNil)))))) (f := v1 (pureK1 D.neg) (vC (.int 1))) (ρ := R2 (.frz (.fn "round_walk")) .none .none) (g := g4) (tag := "cells") (i := -1) (make_exc (g1 := g4) (aC_ok (x := .int (w : Nat)) (g1 := g4) rfl (aC_ok (x := .int (h : Nat)) (g1 := g4) rfl (aC_ok (x := .lst ((cellsD cs).drop 1)) (g1 := g4) (sl_ok (x := .lst (cellsD cs)) (l := some ((1 : Nat) : Int)) (h := none) (g1 := g4) (g2 := g4) (g3 := g4) rfl rfl rfl (cut_lst_from _ _)) rfl))) (by
      rw [nr, noRows_drop _ _ nc]; rfl) (walk_short gw g4) rfl) (by decide) rfl rfl strOk_cells
  have a6 := set_ok (i := 12) (f := vCall f__law_pick (aCons (vVar 0) (aCons (vLst (aCons (vC .non) (aCons (v1 (pureK1 D.neg) (vC (.int 1))) (aCons (v1 (pureK1 D.len) (bVar 5)) (aCons (vC (.bl true)) (aNil)))))) (aNil)))) (ρ := R2 (.frz (.fn "round_walk")) .none .none) (g := g4) ((call_ok (ds := [.row, .lst (badStarts cs.length)]) (g1 := g4) (aC_ok rfl (aC_ok (lst_ok (ds := badStarts cs.length) (aC_ok rfl (aC_ok rfl (aC_ok (v1_ok (k := D.len) (x := .lst (cellsD cs)) rfl (by show some (D.int (cellsD cs).length) = _; rw [cellsD_len])) rfl))) (by simp [badStarts]; omega)) a0_ok))).trans e5) (by simp [R2, RF])
  have q7 := told_val (fb := vMake (mk_Walk) (aCons (vVar 3) (aCons (vVar 4) (aCons (vVar 5) (aCons (v2 (pureK2 D.add) (bVar 6) (vLst (aCons (vVar 12) (aNil)))) (aNil)))))) (f := v1 (pureK1 D.len) (bVar 6)) (ρ := R2 (.frz (.fn "round_walk")) (.frz sa) .none) (g := g5) (tag := "starts") (i := (st.length : Nat)) (make_exc (g1 := g5) (aC_ok (x := .int (w : Nat)) (g1 := g5) rfl (aC_ok (x := .int (h : Nat)) (g1 := g5) rfl (aC_ok (x := .lst (cellsD cs)) (g1 := g5) rfl (aC_ok (x := .lst (dI st ++ [sa])) (g1 := g5) (v2_ok (k := D.add) (x := .lst (dI st)) (y := .lst [sa]) (g1 := g5) rfl (lst_ok (ds := [sa]) rfl (show 1 ≤ sizeLine by omega)) (add_lst (by rw [dI_len]; show _ + 1 ≤ _; omega))) rfl)))) (by
      rw [nr, nc, noRows_app, noRows_dI]
      show (true && ((true && (sa.noRow && true)) && true)) = true
      rw [starts_row hsa]; rfl) (walk_starts_bad gw hsa g5) rfl) (by decide) rfl (v1_ok (k := D.len) (x := .lst (dI st)) rfl (by show some (D.int (dI st).length) = _; rw [dI_len])) strOk_starts
  have q8 := told_val (fb := vMake (mk_Walk) (aCons (vVar 3) (aCons (vVar 4) (aCons (vVar 5) (aCons (vC .non) (aNil)))))) (f := v1 (pureK1 D.neg) (vC (.int 1))) (ρ := R2 (.frz (.fn "round_walk")) (.frz sa) .none) (g := g5) (tag := "starts") (i := -1) (make_exc (ds := [.int (w : Nat), .int (h : Nat), .lst (cellsD cs), .non]) (g1 := g5) rfl (by show (true && (true && (D.noRows (cellsD cs) && true))) = true; rw [nc]; rfl) (walk_starts_none gw g5) rfl) (by decide) rfl rfl strOk_starts
  have q9 := told_val (fb := vCall f_tiles_walk (aCons (vC (.int 2)) (aCons (vC (.int 2)) (aCons (vC (.int 3)) (aCons (vC (.int 1)) (aCons (vC (.bl false)) (aCons (vC (.bl false)) (aNil)))))))) (f := vC (.int 3)) (ρ := R2 (.frz (.fn "round_walk")) (.frz sa) .none) (g := g5) (tag := "tiles") (i := 3) ((call_ok (ds := [.int 2, .int 2, .int 3, .int 1, .bl false, .bl false]) (g1 := g5) rfl).trans (tiles_walk_bad g5)) (by decide) rfl rfl strOk_tiles
  have nw := no_walk hwr g5
  have q10 : ∀ (x : Str) (fs : FS), tbl_mirrored_walk_turned_walk_runs_of x = some fs → fs [wr] g5 = .exc "BadWalk" wr g5 → _ := fun x fs hx hf => told_repr (fb := vCallL 9 (tbl_mirrored_walk_turned_walk_runs_of) (aCons (vVar 8) (aNil))) (f := vVar 8) (ρ := R2 (.frz (.fn x)) (.frz sa) .none) (tag := "walk") (callL_exc (ds := [wr]) rfl hx rfl hf) (by decide) rfl rfl rwr
  have f10 := (for_ok (seqIt_l (f := vLst (aCons (vC (.fn "mirrored_walk")) (aCons (vC (.fn "turned_walk")) (aCons (vC (.fn "runs_of")) (aNil))))) (ds := [.fn "mirrored_walk", .fn "turned_walk", .fn "runs_of"]) (ρ := R2 (.frz (.fn "round_walk")) (.frz sa) .none) (g := g5) (g1 := g5) rfl)).trans ((forL_nx (t := tgN 9) rfl (q10 "mirrored_walk" f_mirrored_walk rfl nw.1)).trans ((forL_nx (t := tgN 9) rfl (q10 "turned_walk" f_turned_walk rfl nw.2.1)).trans ((forL_nx (t := tgN 9) rfl (q10 "runs_of" f_runs_of rfl nw.2.2)).trans rfl)))
  have a11 := set_ok (i := 13) (f := vCall f__law_bad_window (aCons (vVar 0) (aCons (vVar 2) (aNil)))) (ρ := R2 (.frz (.fn "runs_of")) (.frz sa) .none) (g := g5) ((call_ok (ds := [.row, walkT w h cs st]) (g1 := g5) rfl).trans e6) (by simp [R2, RF])
  have pn : f_pieces_of [walkO w h cs (startsS st), no] g6 = .exc "BadWindow" no g6 := run_exc (seq_exc (expr_exc ((call_ok (ds := [walkO w h cs (startsS st), no]) (g1 := g6) rfl).trans (check_window_bad (bad_window (cs := cs) (ss := st) gw.hw gw.hh hno (startsS st) g6).1))))
  have q12 := told_repr (fb := vCall f_pieces_of (aCons (vVar 1) (aCons (vVar 13) (aNil)))) (f := vVar 13) (ρ := R2 (.frz (.fn "runs_of")) (.frz sa) (.frz no)) (g := g6) (tag := "window") ((call_ok (ds := [walkO w h cs (startsS st), no]) (g1 := g6) rfl).trans pn) (by decide) rfl rfl rw2
  obtain ⟨r, hr⟩ := repr_str rw1.1
  have last : v2 (pureK2 D.eqD) (v1 (pureK1 D.reprD) (vRef ref_names told_list (vCall f_windows_of (aCons (vVar 1) (aCons (v2 (pureK2 D.add) (bVar 3) (vC (.int 1))) (aCons (vC (.int 1)) (aNil))))))) (v1 (pureK1 D.reprD) (vTup (aCons (vC (.str "size")) (aCons (v2 (pureK2 D.add) (bVar 3) (vC (.int 1))) (aNil))))) (R2 (.frz (.fn "runs_of")) (.frz sa) (.frz no)) g6 = .ok (.bl true, g6) :=
    v2_ok (k := D.eqD) (g1 := g6) (v1_ok (k := D.reprD) (ref_exc (tag := "size") ((call_ok (ds := [walkO w h cs (startsS st), .int ((w : Nat) + 1), .int 1]) (g1 := g6) rfl).trans (windows_of_bad 1 g6)) (by decide) rfl) hr) (v1_ok (k := D.reprD) (x := .tup [.str "size", .int ((w : Nat) + 1)]) rfl hr) (eq_str r)
  exact ⟨g6, run_ret ((seq_nx a0).trans ((seq_nx a1).trans ((seq_nx f1).trans ((seq_nx q2).trans ((seq_nx a3).trans ((seq_nx q4).trans ((seq_nx q5).trans ((seq_nx a6).trans ((seq_nx q7).trans ((seq_nx q8).trans ((seq_nx q9).trans ((seq_nx f10).trans ((seq_nx a11).trans ((seq_nx q12).trans (ret_ok last))))))))))))))), hg6⟩
end
end GD
end RP
end L2
set_option Elab.async false
set_option linter.all false
set_option maxRecDepth 100000
namespace L2
namespace RP
namespace GD
open PySem PySem.Spec PyProof.Rows
theorem eqvs_cells : ∀ cs : List (Int × Int), D.eqvs (cellsD cs) (cellsD cs) = true
  | [] => rfl
  | c :: cs => by
    show ((c.1 == c.1 && (c.2 == c.2 && true)) && D.eqvs (cellsD cs) (cellsD cs)) = true
    rw [eqvs_cells cs]
    simp
theorem ne_cells (cs : List (Int × Int)) : D.neD (.tup (cellsD cs)) (.tup (cellsD cs)) = some (.bl false) := by
  unfold D.neD D.eq
  show D.bOf ((if D.dats (cellsD cs) (58 + 1) && D.dats (cellsD cs) (58 + 1) then some (D.eqvs (cellsD cs) (cellsD cs)) else none).map (!·)) = _
  rw [dats_cells, eqvs_cells]; rfl
theorem plain_cellsL {n : Nat} {cs : List (Int × Int)} (hl : cs.length ≤ 1000) : plainD (n + 2) (.lst (cellsD cs)) := ⟨by rw [cellsD_len]; omega, fun x hx => by
  obtain ⟨c, _, rfl⟩ := List.mem_map.mp hx
  exact ⟨by simp, fun y hy => by
    simp only [List.mem_cons, List.not_mem_nil, or_false] at hy
    rcases hy with rfl | rfl <;> (cases n <;> trivial)⟩⟩
theorem plain_winds {nX nY : Nat} {a b : Int} (hX : nX ≤ 8) (hY : nY ≤ 8) : plainD 5 (.lst (windsD nX a b nY)) := ⟨by rw [windsD_len]; have : nY * nX ≤ 8 * 8 := Nat.mul_le_mul hY hX; omega, fun x hx => by
  unfold windsD at hx
  obtain ⟨y, _, hx⟩ := List.mem_flatMap.mp hx
  obtain ⟨z, _, rfl⟩ := List.mem_map.mp hx
  exact ⟨by simp, fun v hv => by
    simp only [List.mem_cons, List.not_mem_nil, or_false] at hv
    rcases hv with rfl | rfl | rfl | rfl <;> trivial⟩⟩
theorem is_true {f : SE} {ρ : En} {g : G} (h : f ρ g = .ok (.bl true, g)) : sIf (vNot f) (sRet (vC (.bl false))) sNil ρ g = .ok (.nx, ρ, g) :=
  (if_ok (x := .bl false) (b := false) (not_ok (b := true) h rfl) rfl).trans rfl
theorem runs_map (ss : List Int) (n : Int) : (rng 0 ss.length).map (fun x => cellD (ss.getD x.toNat 0, (ss.tail ++ [n]).getD x.toNat 0 - 1)) = cellsD (runsM ss n) := by
  refine List.ext_getElem ?_ fun i h1 h2 => ?_
  · unfold cellsD runsM
    simp only [List.length_map, rng_len, List.length_zip, List.length_append, List.length_tail, List.length_singleton]
    omega
  · have hi : i < ss.length := by simpa [rng_len] using h1
    have hi2 : i < (ss.tail ++ [n]).length := by simp; omega
    have e : (0 + (i : Int)).toNat = i := by omega
    have g1 : ss.getD i 0 = ss[i] := by rw [List.getD_eq_getElem?_getD, List.getElem?_eq_getElem hi]; rfl
    have g2 : (ss.tail ++ [n]).getD i 0 = (ss.tail ++ [n])[i] := by rw [List.getD_eq_getElem?_getD, List.getElem?_eq_getElem hi2]; rfl
    have rhs : (cellsD (runsM ss n))[i]? = some (cellD (ss[i], (ss.tail ++ [n])[i] - 1)) := by
      rw [cellsD_get]
      unfold runsM
      rw [List.getElem?_map, (List.getElem?_zip_eq_some (z := (ss[i], (ss.tail ++ [n])[i]))).mpr ⟨List.getElem?_eq_getElem hi, List.getElem?_eq_getElem hi2⟩]
      rfl
    rw [List.getElem?_eq_getElem h2] at rhs
    rw [Option.some.inj rhs]
    simp only [List.getElem_map, rng, List.getElem_range, e, g1, g2]
abbrev LW (wd ht ac dn tu ce be wk md ss en k tn wi du yy xx th ot td : Slot) : En := [.none, .frz .row, wd, ht, ac, dn, tu, ce, be, wk, md, ss, en, k, tn, wi, du, yy, xx, th, ot, td]
section
variable {w h : Nat} {cs : List (Int × Int)} {st : List Int}
/-- the law's runs -/
theorem law_runs {ss : List Int} (hs : ss.length ≤ 1000) {n : Int} {ρ : En} {g : G} (h11 : ρ[11]? = some (.frz (.lst (dI ss)))) (h12 : ρ[12]? = some (.frz (.lst (dI (ss.tail ++ [n]))))) (h13 : ρ[13]? = some .none) :
    vComp (itR1 (v1 (pureK1 D.len) (bVar 11))) (tgN 13) (List.map (·.2) ([("k", 13)] : List (Str × Nat))) (vC (.bl true)) (vTup (aCons (v2 (pureK2 D.ix) (bVar 11) (bVar 13)) (aCons (v2 (pureK2 D.sub) (v2 (pureK2 D.ix) (bVar 12) (bVar 13)) (vC (.int 1))) (aNil)))) ρ g = .ok (.lst (cellsD (runsM ss n)), g) := by
  have hbig := big
  have hl : 13 < ρ.length := (List.getElem?_eq_some_iff.mp h13).1
  have it : itR1 (v1 (pureK1 D.len) (bVar 11)) ρ g = .ok (dI (rng 0 ss.length), g) := by
    have e : bVar 11 ρ g = .ok (.lst (dI ss), g) := by unfold bVar; rw [h11]
    rw [r1_ok (j := (ss.length : Int)) (g1 := g) (v1_ok (k := D.len) e (by show some (D.int (dI ss).length) = _; rw [dI_len])) ⟨by omega, by omega⟩, ← rangeD_eq]
    simp
  have cp := compL_intA (i := 13) (fe := vTup (aCons (v2 (pureK2 D.ix) (bVar 11) (bVar 13)) (aCons (v2 (pureK2 D.sub) (v2 (pureK2 D.ix) (bVar 12) (bVar 13)) (vC (.int 1))) (aNil)))) (ρ := ρ.set 13 .none) (g := g) (q := fun x => cellD (ss.getD x.toNat 0, (ss.tail ++ [n]).getD x.toNat 0 - 1)) (xs := rng 0 ss.length) (by rw [List.length_set]; exact hl) (fun x hx => by
    rw [mem_rng] at hx
    obtain ⟨i, rfl⟩ := Int.eq_ofNat_of_zero_le hx.1
    have hi : i < ss.length := by omega
    have hi2 : i < (ss.tail ++ [n]).length := by simp; omega
    have e1 : bVar 11 ((ρ.set 13 .none).set 13 (.frz (.int (i : Nat)))) g = .ok (.lst (dI ss), g) := by
      unfold bVar
      rw [List.getElem?_set_ne (by decide), List.getElem?_set_ne (by decide), h11]
    have e2 : bVar 12 ((ρ.set 13 .none).set 13 (.frz (.int (i : Nat)))) g = .ok (.lst (dI (ss.tail ++ [n])), g) := by
      unfold bVar
      rw [List.getElem?_set_ne (by decide), List.getElem?_set_ne (by decide), h12]
    have e3 : bVar 13 ((ρ.set 13 .none).set 13 (.frz (.int (i : Nat)))) g = .ok (.int (i : Nat), g) := by
      unfold bVar
      rw [List.getElem?_set_self (by rw [List.length_set]; exact hl)]
    have x1 : D.ix (.lst (dI ss)) (.int (i : Nat)) = some (.int (ss.getD i 0)) := by
      show atI (dI ss) (i : Int) = _
      rw [atI_nat, dI_get, List.getD_eq_getElem?_getD, List.getElem?_eq_getElem hi]; rfl
    have x2 : D.ix (.lst (dI (ss.tail ++ [n]))) (.int (i : Nat)) = some (.int ((ss.tail ++ [n]).getD i 0)) := by
      show atI (dI (ss.tail ++ [n])) (i : Int) = _
      rw [atI_nat, dI_get, List.getD_eq_getElem?_getD, List.getElem?_eq_getElem hi2]; rfl
    exact tup_ok (ds := [.int (ss.getD i 0), .int ((ss.tail ++ [n]).getD i 0 - 1)]) (aC_ok (v2_ok (k := D.ix) e1 e3 x1) (aC_ok (v2_ok (k := D.sub) (v2_ok (k := D.ix) e2 e3 x2) rfl rfl) a0_ok)) (by simp; omega))
  rw [runs_map] at cp
  exact comp_ok (vs := [13]) it (by show (notOwn ρ 13 && true) = true; unfold notOwn; rw [h13]; rfl) cp
/-- one window -/
abbrev turnB : SS := (sSeq (sSet 15 (vCall f__law_window (aCons (vVar 1) (aCons (vVar 9) (aNil))))) (sSeq (sIf (vNot (vCall (f__law_alike 6) (aCons (vCall f_pieces_of (aCons (vVar 10) (aCons (vVar 15) (aNil)))) (aCons (vCall f__law_pieces (aCons (vTup (aCons (v2 (pureK2 D.ix) (bVar 9) (vC (.int 0))) (aCons (v2 (pureK2 D.ix) (bVar 9) (vC (.int 1))) (aCons (v2 (pureK2 D.ix) (bVar 9) (vC (.int 2))) (aCons (vVar 11) (aNil)))))) (aCons (vVar 15) (aNil)))) (aNil))))) (sRet (vC (.bl false))) (sNil)) (sSeq (sSet 16 (vLst (aNil))) (sSeq (sFor (itR1 (v2 (pureK2 D.add) (v2 (pureK2 D.sub) (v2 (pureK2 D.ix) (bVar 9) (vC (.int 1))) (v2 (pureK2 D.ix) (bVar 15) (vC (.int 3)))) (vC (.int 1)))) (tgN 17) (sSet 16 (v2 (pureK2 D.add) (bVar 16) (vComp (itR1 (v2 (pureK2 D.add) (v2 (pureK2 D.sub) (v2 (pureK2 D.ix) (bVar 9) (vC (.int 0))) (v2 (pureK2 D.ix) (bVar 15) (vC (.int 2)))) (vC (.int 1)))) (tgN 18) (List.map (·.2) ([("x", 18)] : List (Str × Nat))) (vC (.bl true)) (vTup (aCons (vVar 18) (aCons (vVar 17) (aCons (v2 (pureK2 D.ix) (bVar 15) (vC (.int 2))) (aCons (v2 (pureK2 D.ix) (bVar 15) (vC (.int 3))) (aNil)))))))))) (sIf (vNot (vCall (f__law_alike 6) (aCons (vCall f_windows_of (aCons (vVar 10) (aCons (v2 (pureK2 D.ix) (bVar 15) (vC (.int 2))) (aCons (v2 (pureK2 D.ix) (bVar 15) (vC (.int 3))) (aNil))))) (aCons (vVar 16) (aNil))))) (sRet (vC (.bl false))) (sNil))))))
theorem turn_ok (gw : GW (w : Nat) (h : Nat) cs st) {wd ht ac dn tu ce be en tn wi du yy : Slot} {g : G} (hg : GI g) (hy : ∀ d, yy ≠ .own d) : ∃ wi' du' yy' g', turnB (LW wd ht ac dn tu ce be (.frz (walkT w h cs st)) (.frz (walkO w h cs (startsS st))) (.frz (.lst (dI (startsS st)))) en .none tn wi du yy .none .none .none .none) g = .ok (.nx, LW wd ht ac dn tu ce be (.frz (walkT w h cs st)) (.frz (walkO w h cs (startsS st))) (.frz (.lst (dI (startsS st)))) en .none tn wi' du' yy' .none .none .none .none, g') ∧ GI g' ∧ ∀ d, yy' ≠ .own d := by
  have hbig := big
  have cl : cs.length ≤ 64 := gw_len gw
  have hw := gw.hw
  have hh := gw.hh
  obtain ⟨x, y, a, b, g', e1, n, hg'⟩ := law_window_ok (cs := cs) (st := st) hw hh hg
  have pa := n.pa; have pb := n.pb; have px := n.px; have py := n.py
  let P : Slot → Slot → Slot → En := fun wi du yy => LW wd ht ac dn tu ce be (.frz (walkT w h cs st)) (.frz (walkO w h cs (startsS st))) (.frz (.lst (dI (startsS st)))) en .none tn wi du yy .none .none .none .none
  let W : Slot := .frz (winD x y a b)
  have s1 := set_ok (i := 15) (f := vCall f__law_window (aCons (vVar 1) (aCons (vVar 9) (aNil)))) (ρ := P wi du yy) (g := g) ((call_ok (ds := [.row, walkT w h cs st]) (g1 := g) rfl).trans e1) (by simp [P, LW])
  have pieces := (call_ok (fr := aCons (vVar 10) (aCons (vVar 15) (aNil))) (fs := f_pieces_of) (ρ := P W du yy) (ds := [walkO w h cs (startsS st), winD x y a b]) (g := g') (g1 := g') rfl).trans (pieces_of_ok (ss := startsS st) n (by omega) g')
  have lpieces := (call_ok (fr := aCons (vTup (aCons (v2 (pureK2 D.ix) (bVar 9) (vC (.int 0))) (aCons (v2 (pureK2 D.ix) (bVar 9) (vC (.int 1))) (aCons (v2 (pureK2 D.ix) (bVar 9) (vC (.int 2))) (aCons (vVar 11) (aNil)))))) (aCons (vVar 15) (aNil))) (fs := f__law_pieces) (ρ := P W du yy) (ds := [walkT w h cs (startsS st), winD x y a b]) (g := g') (g1 := g') (aC_ok (tup_ok (ds := [.int (w : Nat), .int (h : Nat), .lst (cellsD cs), .lst (dI (startsS st))]) rfl (by simp; omega)) rfl)).trans (law_pieces_ok (w := (w : Nat)) (h := (h : Nat)) (x := x) (y := y) (a := a) (b := b) (ss := startsS st) (by omega) g')
  have pl := pieces_len (x := x) (y := y) (a := a) (b := b) (ss := startsS st) (cs := cs) cs.length
  have s2 := is_true ((call_ok (fs := f__law_alike 6) (aC_ok pieces (aC_ok lpieces a0_ok))).trans (alike_self (n := 5) (plain_cellsL (n := 3) (by omega))))
  -- the windows
  let nX := ((w : Int) - a + 1).toNat
  let nY := ((h : Int) - b + 1).toNat
  have loop := forL_inv (t := tgN 17) (body := (sSet 16 (v2 (pureK2 D.add) (bVar 16) (vComp (itR1 (v2 (pureK2 D.add) (v2 (pureK2 D.sub) (v2 (pureK2 D.ix) (bVar 9) (vC (.int 0))) (v2 (pureK2 D.ix) (bVar 15) (vC (.int 2)))) (vC (.int 1)))) (tgN 18) (List.map (·.2) ([("x", 18)] : List (Str × Nat))) (vC (.bl true)) (vTup (aCons (vVar 18) (aCons (vVar 17) (aCons (v2 (pureK2 D.ix) (bVar 15) (vC (.int 2))) (aCons (v2 (pureK2 D.ix) (bVar 15) (vC (.int 3))) (aNil))))))))))
    (fun n ρ g2 => g2 = g' ∧ n ≤ 8 ∧ ∃ yy, ρ = P W (.frz (.lst (windsD nX a b n))) yy ∧ ∀ d, yy ≠ .own d) (ds := rangeD 0 nY) (k := 0) (ρ := P W (.frz (.lst [])) yy) (g := g') ⟨rfl, by omega, yy, rfl, hy⟩ (fun j d ρ g2 hd hI => by
      obtain ⟨rfl, _, yy, rfl, _⟩ := hI
      obtain ⟨rfl, hj⟩ := rangeD_get hd
      rw [Nat.zero_add]
      have s2 := set_ok (i := 16) (ρ := P W (.frz (.lst (windsD nX a b j))) (.frz (.int (j : Nat)))) (g := g2) (d := .lst (windsD nX a b (j + 1))) (v2_ok (k := D.add) (fa := bVar 16) (x := .lst (windsD nX a b j)) rfl (wind_comp (n := nX) (i := 18) (a := a) (b := b) (y := (j : Int)) (fe := vTup (aCons (vVar 18) (aCons (vVar 17) (aCons (v2 (pureK2 D.ix) (bVar 15) (vC (.int 2))) (aCons (v2 (pureK2 D.ix) (bVar 15) (vC (.int 3))) (aNil)))))) (span_ok (f := v2 (pureK2 D.add) (v2 (pureK2 D.sub) (v2 (pureK2 D.ix) (bVar 9) (vC (.int 0))) (v2 (pureK2 D.ix) (bVar 15) (vC (.int 2)))) (vC (.int 1))) hw (by omega) rfl) (by simp [P, LW]) rfl (fun x => tup_ok (ds := [.int x, .int (j : Nat), .int a, .int b]) rfl (by simp; omega))) (by
        rw [windsD_succ]
        refine add_lst ?_
        rw [windsD_len, windRow_len]
        have : j * nX ≤ 8 * 8 := Nat.mul_le_mul (by omega) (by omega)
        omega)) (by simp [P, LW])
      exact ⟨_, _, g2, .nx, rfl, s2, .inl rfl, rfl, by omega, .frz (.int (j : Nat)), rfl, fun _ => by simp⟩)
  obtain ⟨ρ', g2, l1, rfl, _, yy2, rfl, hy2⟩ := loop
  rw [Nat.zero_add, rangeD_len] at l1
  have s3 := (for_ok (span_ok (f := v2 (pureK2 D.add) (v2 (pureK2 D.sub) (v2 (pureK2 D.ix) (bVar 9) (vC (.int 1))) (v2 (pureK2 D.ix) (bVar 15) (vC (.int 3)))) (vC (.int 1))) (ρ := P W (.frz (.lst [])) yy) (g := g2) (a := b) hh (by omega) rfl)).trans l1
  have wins := (call_ok (fr := aCons (vVar 10) (aCons (v2 (pureK2 D.ix) (bVar 15) (vC (.int 2))) (aCons (v2 (pureK2 D.ix) (bVar 15) (vC (.int 3))) (aNil)))) (fs := f_windows_of) (ρ := P W (.frz (.lst (windsD nX a b nY))) yy2) (ds := [walkO w h cs (startsS st), .int a, .int b]) (g := g2) (g1 := g2) rfl).trans (windows_of_ok (w := (w : Nat)) (h := (h : Nat)) (cs := cs) (ss := startsS st) hw hh (by omega) (by omega) g2)
  have s4 := is_true ((call_ok (fs := f__law_alike 6) (aC_ok wins (aC_ok (x := .lst (windsD nX a b nY)) (fa := vVar 16) rfl a0_ok))).trans (alike_self (n := 5) (plain_winds (by omega) (by omega))))
  exact ⟨W, .frz (.lst (windsD nX a b nY)), yy2, g2, (seq_nx s1).trans ((seq_nx s2).trans ((seq_nx (ρ1 := P W (.frz (.lst [])) yy) (g1 := g2) rfl).trans ((seq_nx s3).trans s4))), hg', hy2⟩
end
end GD
end RP
end L2
set_option Elab.async false
set_option linter.all false
set_option maxRecDepth 100000
namespace L2
namespace RP
namespace GD
open PySem PySem.Spec PyProof.Rows
theorem one_more {m : Nat} (h0 : 1 ≤ m) (h1 : m ≤ 8) {g : G} (hg : GI g) : ∃ (v : Nat) (g' : G), (∀ (ρ : En) (f : SE), ρ[1]? = some (.frz .row) → f ρ g = .ok (.int (m : Nat), g) → v2 (pureK2 D.add) (vC (.int 1)) (vCall f__law_taken (aCons (vVar 1) (aCons f (aNil)))) ρ g = .ok (.int (v : Nat), g')) ∧ 1 ≤ v ∧ v ≤ m ∧ GI g' := by
  obtain ⟨x, g', t, a, b, hg'⟩ := taken_ok (m := (m : Nat)) (by omega) (by omega) hg
  refine ⟨(1 + x).toNat, g', fun ρ f h1 hf => ?_, by omega, by omega, hg'⟩
  have e1 : vVar 1 ρ g = .ok (.row, g) := by unfold vVar; rw [h1]
  exact v2_ok (k := D.add) (x := .int 1) (y := .int x) rfl ((call_ok (aC_ok e1 (aC_ok hf a0_ok))).trans t) (by show some (D.int (1 + x)) = _; congr 2; omega)
section
variable {w h : Nat} {cs : List (Int × Int)} {st : List Int}
/-- both judge a thing the same -/
def Judged (w h : Nat) (cs : List (Int × Int)) (st : List Int) (d : D) : Prop := ∀ g, ∃ b, f_is_window [walkO w h cs (startsS st), d] g = .ok (.bl b, g) ∧ f__law_good_window [walkT w h cs st, d] g = .ok (.bl b, g)
theorem judged_int (gw : GW (w : Nat) (h : Nat) cs st) (x y a b : Int) : Judged w h cs st (winD x y a b) := fun g => ⟨winOk w h x y a b, is_window_int x y a b g, by rw [good_same gw.hw gw.hh]; exact good_int x y a b g⟩
theorem judged_bad (gw : GW (w : Nat) (h : Nat) cs st) {d : D} (hd : d ∈ badsW w h) : Judged w h cs st d := fun g => ⟨false, bad_window gw.hw gw.hh hd (startsS st) g⟩
theorem judged_list (ds : List D) : Judged w h cs st (.lst ds) := fun g => ⟨false, rfl, rfl⟩
theorem judge_ok {d : D} (hj : Judged w h cs st d) {ρ : En} {g : G} (h9 : ρ[9]? = some (.frz (walkT w h cs st))) (h10 : ρ[10]? = some (.frz (walkO w h cs (startsS st)))) (h19 : ρ[19]? = some (.frz d)) :
    sIf (vNot (vCall (f__law_alike 6) (aCons (vCall f_is_window (aCons (vVar 10) (aCons (vVar 19) (aNil)))) (aCons (vCall f__law_good_window (aCons (vVar 9) (aCons (vVar 19) (aNil)))) (aNil))))) (sRet (vC (.bl false))) (sNil) ρ g = .ok (.nx, ρ, g) := by
  obtain ⟨b, j1, j2⟩ := hj g
  have e9 : vVar 9 ρ g = .ok (walkT w h cs st, g) := by unfold vVar; rw [h9]
  have e10 : vVar 10 ρ g = .ok (walkO w h cs (startsS st), g) := by unfold vVar; rw [h10]
  have e19 : vVar 19 ρ g = .ok (d, g) := by unfold vVar; rw [h19]
  exact is_true ((call_ok (fs := f__law_alike 6) (aC_ok ((call_ok (aC_ok e10 (aC_ok e19 a0_ok))).trans j1) (aC_ok ((call_ok (aC_ok e9 (aC_ok e19 a0_ok))).trans j2) a0_ok))).trans (alike_self (n := 5) (d := .bl b) trivial))
end
theorem law_ok (g : G) (hg : GI g) : ∃ ρ' g', s_law (lawStart 22) g = .ok (.ret (.bl true), ρ', g') := by
  have hbig := big
  obtain ⟨w, g1, e1, w1, w2, hg1⟩ := one_more (m := 8) (by omega) (by omega) hg
  obtain ⟨h, g2, e2, h1, h2, hg2⟩ := one_more (m := 8) (by omega) (by omega) hg1
  obtain ⟨a, g3, e3, a1, a2, hg3⟩ := one_more (m := w) w1 w2 hg2
  obtain ⟨d, g4, e4, d1, d2, hg4⟩ := one_more (m := h) h1 h2 hg3
  obtain ⟨x5, g5, t5, _, _, hg5⟩ := taken_ok (m := 2) (by omega) (by omega) hg4
  let tn : Bool := x5 == 1
  let n : Slot := .none
  let L0 : En := LW n n n n n n n n n n n n n n n n n n n n
  let WH : Slot × Slot := (.frz (.int (w : Nat)), .frz (.int (h : Nat)))
  let L1 : En := LW WH.1 WH.2 n n n n n n n n n n n n n n n n n n
  let L2 : Slot → Slot → En := fun ce be => LW WH.1 WH.2 (.frz (.int (a : Nat))) (.frz (.int (d : Nat))) (.frz (.bl tn)) ce be n n n n n n n n n n n n n
  have p1 := par_ok (is := [2, 3]) (m := mF (v2 (pureK2 D.add) (vC (.int 1)) (vCall f__law_taken (aCons (vVar 1) (aCons (vC (.int 8)) (aNil))))) (mF (v2 (pureK2 D.add) (vC (.int 1)) (vCall f__law_taken (aCons (vVar 1) (aCons (vC (.int 8)) (aNil))))) (mNil))) (ρ := L0) (g := g) (vs := [(false, .int (w : Nat)), (false, .int (h : Nat))]) (mF_ok (e1 L0 _ rfl rfl) (mF_ok (g2 := g2) (vs := []) (e2 L0 _ rfl rfl) rfl)) rfl rfl
  have c5 : v2 (pureK2 D.eqD) (vCall f__law_taken (aCons (vVar 1) (aCons (vC (.int 2)) (aNil)))) (vC (.int 1)) L1 g4 = .ok (.bl tn, g5) := v2_ok (k := D.eqD) (x := .int x5) (y := .int 1) ((call_ok (ds := [.row, .int 2]) (g1 := g4) rfl).trans t5) rfl rfl
  have p2 := par_ok (is := [4, 5, 6]) (m := mF (v2 (pureK2 D.add) (vC (.int 1)) (vCall f__law_taken (aCons (vVar 1) (aCons (vVar 2) (aNil))))) (mF (v2 (pureK2 D.add) (vC (.int 1)) (vCall f__law_taken (aCons (vVar 1) (aCons (vVar 3) (aNil))))) (mF (v2 (pureK2 D.eqD) (vCall f__law_taken (aCons (vVar 1) (aCons (vC (.int 2)) (aNil)))) (vC (.int 1))) (mNil)))) (ρ := L1) (g := g2) (vs := [(false, .int (a : Nat)), (false, .int (d : Nat)), (false, .bl tn)]) (mF_ok (e3 L1 _ rfl rfl) (mF_ok (e4 L1 _ rfl rfl) (mF_ok (g2 := g5) (vs := []) c5 rfl))) rfl rfl
  have W8 : 1 ≤ w ∧ w ≤ 8 := ⟨w1, w2⟩
  have H8 : 1 ≤ h ∧ h ≤ 8 := ⟨h1, h2⟩
  have sq : w * h ≤ 64 := Nat.mul_le_mul w2 h2
  have m0 : ∀ k : Int, k ∈ ([0] : List Int) ++ [0] ↔ k ∈ ([] : List Int) ++ [0] := fun k => by simp
  have ll : ∀ tn, (linesM w h tn).length ≤ 1000 := fun tn => by rw [linesM_len, Nat.mul_comm]; omega
  have k1 := is_true ((call_ok (fs := f__law_is) (aC_ok ((call_ok (fr := aCons (vVar 2) (aCons (vVar 3) (aNil))) (fs := f_rows_walk) (ρ := L2 n n) (ds := [.int (w : Nat), .int (h : Nat)]) (g := g5) (g1 := g5) rfl).trans (rows_walk_ok W8 H8 g5)) (aC_ok (fa := vVar 2) (g1 := g5) rfl (aC_ok (fa := vVar 3) (g1 := g5) rfl (aC_ok ((call_ok (fr := aCons (vVar 2) (aCons (vVar 3) (aCons (vC (.bl false)) (aNil)))) (fs := f__law_lines) (ρ := L2 n n) (ds := [.int (w : Nat), .int (h : Nat), .bl false]) (g := g5) (g1 := g5) rfl).trans (law_lines_ok w2 h2 false g5)) (aC_ok (fa := vLst (aNil)) (x := .lst (dI [])) (g1 := g5) rfl a0_ok)))))).trans (law_is_ok (ll false) (by simp) m0 g5))
  have k2 := is_true ((call_ok (fs := f__law_is) (aC_ok ((call_ok (fr := aCons (vVar 2) (aCons (vVar 3) (aNil))) (fs := f_snake_walk) (ρ := L2 n n) (ds := [.int (w : Nat), .int (h : Nat)]) (g := g5) (g1 := g5) rfl).trans (snake_walk_ok W8 H8 g5)) (aC_ok (fa := vVar 2) (g1 := g5) rfl (aC_ok (fa := vVar 3) (g1 := g5) rfl (aC_ok ((call_ok (fr := aCons (vVar 2) (aCons (vVar 3) (aCons (vC (.bl true)) (aNil)))) (fs := f__law_lines) (ρ := L2 n n) (ds := [.int (w : Nat), .int (h : Nat), .bl true]) (g := g5) (g1 := g5) rfl).trans (law_lines_ok w2 h2 true g5)) (aC_ok (fa := vLst (aNil)) (x := .lst (dI [])) (g1 := g5) rfl a0_ok)))))).trans (law_is_ok (ll true) (by simp) m0 g5))
  have rl : (roundM w h).length ≤ 1000 := by have := gw_len (round_gw W8 H8); omega
  have k3 := is_true ((call_ok (fs := f__law_is) (aC_ok ((call_ok (fr := aCons (vVar 2) (aCons (vVar 3) (aNil))) (fs := f_round_walk) (ρ := L2 n n) (ds := [.int (w : Nat), .int (h : Nat)]) (g := g5) (g1 := g5) rfl).trans (round_walk_ok W8 H8 g5)) (aC_ok (fa := vVar 2) (g1 := g5) rfl (aC_ok (fa := vVar 3) (g1 := g5) rfl (aC_ok ((call_ok (fr := aCons (vVar 2) (aCons (vVar 3) (aNil))) (fs := f__law_round) (ρ := L2 n n) (ds := [.int (w : Nat), .int (h : Nat)]) (g := g5) (g1 := g5) rfl).trans (law_round_ok W8 H8 g5)) (aC_ok (fa := vLst (aNil)) (x := .lst (dI [])) (g1 := g5) rfl a0_ok)))))).trans (law_is_ok rl (by simp) m0 g5))
  -- tiles
  let T := tilesM w h a d tn
  have tgw := tiles_gw (tn := tn) W8 H8 a1 d1
  have tl : T.1.length ≤ 1000 := by have := gw_len tgw; show (tilesM w h a d tn).1.length ≤ _; omega
  have tl2 : T.2.length ≤ 900 := by have := gw_st tgw; show (tilesM w h a d tn).2.length ≤ _; omega
  let L3 : En := L2 (.frz (.lst (cellsD T.1))) (.frz (.lst (dI T.2)))
  have s4 := asg_ok (t := tgT 2 (tgsCons (tgN 7) (tgsCons (tgN 8) (tgsNil)))) (ρ := L2 n n) (ρ1 := L3) ((call_ok (fr := aCons (vVar 2) (aCons (vVar 3) (aCons (vVar 4) (aCons (vVar 5) (aCons (vVar 6) (aNil)))))) (fs := f__law_tiles) (ds := [.int (w : Nat), .int (h : Nat), .int (a : Nat), .int (d : Nat), .bl tn]) (g := g5) (g1 := g5) rfl).trans (law_tiles_ok W8 H8 ⟨a1, a2⟩ ⟨d1, d2⟩ g5)) rfl
  have k5 := is_true ((call_ok (fs := f__law_is) (aC_ok ((call_ok (fr := aCons (vVar 2) (aCons (vVar 3) (aCons (vVar 4) (aCons (vVar 5) (aCons (vVar 6) (aCons (vC (.bl false)) (aNil))))))) (fs := f_tiles_walk) (ρ := L3) (ds := [.int (w : Nat), .int (h : Nat), .int (a : Nat), .int (d : Nat), .bl tn, .bl false]) (g := g5) (g1 := g5) rfl).trans (tiles_walk_ok W8 H8 ⟨a1, a2⟩ ⟨d1, d2⟩ false g5)) (aC_ok (fa := vVar 2) (g1 := g5) rfl (aC_ok (fa := vVar 3) (g1 := g5) rfl (aC_ok (fa := vVar 7) (x := .lst (cellsD T.1)) (g1 := g5) rfl (aC_ok (fa := vLst (aNil)) (x := .lst (dI [])) (g1 := g5) rfl a0_ok)))))).trans (law_is_ok tl (by simp) m0 g5))
  have k6 := is_true ((call_ok (fs := f__law_is) (aC_ok ((call_ok (fr := aCons (vVar 2) (aCons (vVar 3) (aCons (vVar 4) (aCons (vVar 5) (aCons (vVar 6) (aCons (vC (.bl true)) (aNil))))))) (fs := f_tiles_walk) (ρ := L3) (ds := [.int (w : Nat), .int (h : Nat), .int (a : Nat), .int (d : Nat), .bl tn, .bl true]) (g := g5) (g1 := g5) rfl).trans (tiles_walk_ok W8 H8 ⟨a1, a2⟩ ⟨d1, d2⟩ true g5)) (aC_ok (fa := vVar 2) (g1 := g5) rfl (aC_ok (fa := vVar 3) (g1 := g5) rfl (aC_ok (fa := vVar 7) (x := .lst (cellsD T.1)) (g1 := g5) rfl (aC_ok (fa := vVar 8) (x := .lst (dI T.2)) (g1 := g5) rfl a0_ok)))))).trans (law_is_ok (st := T.2) tl tl2 (fun k => Iff.rfl) g5))
  -- a drawn walk
  obtain ⟨v, u, cs, st, g6, e7, gw, v6, u6, st2, hg6⟩ := law_walk_ok hg5
  have vw := gw.hw
  have uh := gw.hh
  have cl : cs.length ≤ 64 := gw_len gw
  obtain ⟨o, g7, e8, ho, hg7⟩ : ∃ o g7, f__law_pick [.row, .lst [.lst (cellsD cs), .tup (cellsD cs)]] g6 = .ok (o, g7) ∧ isSeqD o (cellsD cs) ∧ GI g7 := by
    obtain ⟨o, g7, e, ho, hg7⟩ := pick_ok (xs := [.lst (cellsD cs), .tup (cellsD cs)]) (by simp) (by simp) hg6
    refine ⟨o, g7, e, ?_, hg7⟩
    simp only [List.mem_cons, List.not_mem_nil, or_false] at ho
    rcases ho with rfl | rfl
    · exact .inl rfl
    · exact .inr rfl
  let KT : Slot := .frz (walkT v u cs st)
  let KO : Slot := .frz (walkO v u cs (startsS st))
  let M : Slot → Slot → Slot → Slot → Slot → Slot → Slot → Slot → Slot → Slot → Slot → En := fun md ss en tn' wi du yy xx th ot td => LW WH.1 WH.2 (.frz (.int (a : Nat))) (.frz (.int (d : Nat))) (.frz (.bl tn)) (.frz (.lst (cellsD T.1))) (.frz (.lst (dI T.2))) KT md ss en n tn' wi du yy xx th ot td
  have s7 := set_ok (i := 9) (f := vCall f__law_walk (aCons (vVar 1) (aCons (vC (.int 6)) (aNil)))) (ρ := L3) (g := g5) ((call_ok (ds := [.row, .int 6]) (g1 := g5) rfl).trans e7) (by simp [L3, L2, LW])
  have pk := (call_ok (fr := aCons (vVar 1) (aCons (vLst (aCons (v2 (pureK2 D.ix) (bVar 9) (vC (.int 2))) (aCons (v1 (pureK1 D.tupleD) (v2 (pureK2 D.ix) (bVar 9) (vC (.int 2)))) (aNil)))) (aNil))) (fs := f__law_pick) (ρ := M n n n n n n n n n n n) (ds := [.row, .lst [.lst (cellsD cs), .tup (cellsD cs)]]) (g := g6) (g1 := g6) (aC_ok rfl (aC_ok (lst_ok (ds := [.lst (cellsD cs), .tup (cellsD cs)]) rfl (by simp; omega)) rfl))).trans e8
  have mk8 : vMake mk_Walk (aCons (v2 (pureK2 D.ix) (bVar 9) (vC (.int 0))) (aCons (v2 (pureK2 D.ix) (bVar 9) (vC (.int 1))) (aCons (vCall f__law_pick (aCons (vVar 1) (aCons (vLst (aCons (v2 (pureK2 D.ix) (bVar 9) (vC (.int 2))) (aCons (v1 (pureK1 D.tupleD) (v2 (pureK2 D.ix) (bVar 9) (vC (.int 2)))) (aNil)))) (aNil)))) (aCons (v2 (pureK2 D.ix) (bVar 9) (vC (.int 3))) (aNil))))) (M n n n n n n n n n n n) g6 = .ok (walkO v u cs (startsS st), g7) := by
    refine make_ok (ds := [.int (v : Nat), .int (u : Nat), o, .lst (dI st)]) (g1 := g7) (aC_ok (g1 := g6) rfl (aC_ok (g1 := g6) rfl (aC_ok (g1 := g7) pk rfl))) ?_ (walk_made gw ho (.inl rfl) (by omega) g7) ?_
    · have n1 : o.noRow = true := by rcases ho with rfl | rfl <;> exact noRows_cells cs
      show (true && (true && (o.noRow && (D.noRows (dI st) && true)))) = true
      rw [n1, noRows_dI]; rfl
    · show (true && (true && (D.noRows (cellsD cs) && (D.noRows (dI (startsS st)) && true)))) = true
      rw [noRows_cells, noRows_dI]; rfl
  have s8 := set_ok (i := 10) mk8 (by simp [M, LW])
  have k9 := is_true ((call_ok (fs := f__law_is) (ρ := M KO n n n n n n n n n n) (fr := aCons (vVar 10) (aCons (v2 (pureK2 D.ix) (bVar 9) (vC (.int 0))) (aCons (v2 (pureK2 D.ix) (bVar 9) (vC (.int 1))) (aCons (v2 (pureK2 D.ix) (bVar 9) (vC (.int 2))) (aCons (v2 (pureK2 D.ix) (bVar 9) (vC (.int 3))) (aNil)))))) (ds := [walkO v u cs (startsS st), .int (v : Nat), .int (u : Nat), .lst (cellsD cs), .lst (dI st)]) (g := g7) (g1 := g7) rfl).trans (law_is_ok (by omega) (by omega) (fun k => Iff.rfl) g7))
  obtain ⟨ys, y1, y2, y3, y4⟩ := unlike_ok (st ++ [0]) (by simp; omega) g7
  have ey : ys = startsS st := lt_uniq y2 (sortU_lt _) fun k => (y3 k).trans (sortU_mem _ k).symm
  rw [ey] at y1 y4
  have y5 : (startsS st).length ≤ 3 := by simp at y4; omega
  let SS_ : Slot := .frz (.lst (dI (startsS st)))
  have s10 := set_ok (i := 11) (f := vCall f__law_unlike (aCons (v2 (pureK2 D.add) (v2 (pureK2 D.ix) (bVar 9) (vC (.int 3))) (vLst (aCons (vC (.int 0)) (aNil)))) (aNil))) (ρ := M KO n n n n n n n n n n) (g := g7) ((call_ok (ds := [.lst (dI (st ++ [0]))]) (g1 := g7) (aC_ok (v2_ok (k := D.add) (x := .lst (dI st)) (y := .lst (dI [0])) (g1 := g7) rfl rfl (by rw [dI_app]; exact add_lst (by rw [dI_len, dI_len]; simp; omega))) a0_ok)).trans y1) (by simp [M, LW])
  let EN : Slot := .frz (.lst (dI ((startsS st).tail ++ [(cs.length : Int)])))
  have s11 := set_ok (i := 12) (f := v2 (pureK2 D.add) (vSl (bVar 11) (sS (vC (.int 1))) (sN)) (vLst (aCons (v1 (pureK1 D.len) (v2 (pureK2 D.ix) (bVar 9) (vC (.int 2)))) (aNil)))) (ρ := M KO SS_ n n n n n n n n n) (g := g7) (g1 := g7) (d := .lst (dI ((startsS st).tail ++ [(cs.length : Int)]))) (v2_ok (k := D.add) (x := .lst (dI (startsS st).tail)) (y := .lst (dI [(cs.length : Int)])) (g1 := g7) (sl_ok (x := .lst (dI (startsS st))) (l := some ((1 : Nat) : Int)) (h := none) (g1 := g7) (g2 := g7) (g3 := g7) rfl rfl rfl (by rw [cut_lst_from, List.drop_one]; unfold dI; rw [List.map_tail])) (lst_ok (ds := [.int (cs.length : Nat)]) (aC_ok (v1_ok (k := D.len) (x := .lst (cellsD cs)) rfl (by show some (D.int (cellsD cs).length) = _; rw [cellsD_len])) a0_ok) (by simp; omega)) (by rw [dI_app]; exact add_lst (by rw [dI_len, dI_len]; simp; omega))) (by simp [M, LW])
  have rn := (call_ok (fr := aCons (vVar 10) (aNil)) (fs := f_runs_of) (ρ := M KO SS_ EN n n n n n n n n) (ds := [walkO v u cs (startsS st)]) (g := g7) (g1 := g7) rfl).trans (runs_of_ok (ss := startsS st) (by omega) g7)
  have rlen : (runsM (startsS st) cs.length).length ≤ 1000 := by unfold runsM; rw [List.length_map, List.length_zip]; omega
  have k12 := is_true ((call_ok (fs := f__law_alike 6) (aC_ok rn (aC_ok (law_runs (ss := startsS st) (n := (cs.length : Int)) (by omega) rfl rfl rfl) a0_ok))).trans (alike_self (n := 5) (plain_cellsL (n := 3) rlen)))
  -- four windows
  have loop := forL_inv (t := tgN 14) (body := turnB) (fun _ ρ g => GI g ∧ ∃ tn' wi du yy, ρ = M KO SS_ EN tn' wi du yy n n n n ∧ ∀ d, yy ≠ .own d) (ds := rangeD 0 4) (k := 0) (ρ := M KO SS_ EN n n n n n n n n) (g := g7) ⟨hg7, n, n, n, n, rfl, fun _ => by simp [n]⟩ (fun j e ρ g he hI => by
    obtain ⟨hg, tn', wi, du, yy, rfl, hy⟩ := hI
    obtain ⟨wi', du', yy', g', r1, hg', hy'⟩ := turn_ok gw (wd := WH.1) (ht := WH.2) (ac := .frz (.int (a : Nat))) (dn := .frz (.int (d : Nat))) (tu := .frz (.bl tn)) (ce := .frz (.lst (cellsD T.1))) (be := .frz (.lst (dI T.2))) (en := EN) (tn := .frz e) (wi := wi) (du := du) (yy := yy) hg hy
    exact ⟨_, _, g', .nx, rfl, r1, .inl rfl, hg', _, _, _, _, rfl, hy'⟩)
  obtain ⟨ρ', g8, l13, hg8, tn', wi, du, yy, rfl, hy⟩ := loop
  have ny : notOwn [yy] 0 = true := by cases yy with
    | own d => exact absurd rfl (hy d)
    | none => rfl
    | frz d => rfl
  have s13 : sFor (itR1 (vC (.int 4))) (tgN 14) turnB (M KO SS_ EN n n n n n n n n) g7 = .ok (.nx, M KO SS_ EN tn' wi du yy n n n n, g8) := (for_ok (r1_ok (j := 4) (g1 := g7) rfl ⟨by decide, by decide⟩)).trans l13
  -- things
  obtain ⟨q1, q2, q3, q4, g9, f1, _, hg9⟩ := law_window_ok (cs := cs) (st := st) vw uh hg8
  obtain ⟨b1, g10, f2, hb1, hg10⟩ := law_bad_window_ok (w := (v : Nat)) (h := (u : Nat)) (cs := cs) (st := st) hg9
  obtain ⟨b2, g11, f3, hb2, hg11⟩ := law_bad_window_ok (w := (v : Nat)) (h := (u : Nat)) (cs := cs) (st := st) hg10
  obtain ⟨r1, r2, r3, r4, g12, f4, _, hg12⟩ := law_window_ok (cs := cs) (st := st) vw uh hg11
  let N : Slot → Slot → Slot → En := fun th ot td => M KO SS_ EN tn' wi du yy n th ot td
  have it14 : itSeq (vLst (aCons (vCall f__law_window (aCons (vVar 1) (aCons (vVar 9) (aNil)))) (aCons (vCall f__law_bad_window (aCons (vVar 1) (aCons (vVar 9) (aNil)))) (aCons (vCall f__law_bad_window (aCons (vVar 1) (aCons (vVar 9) (aNil)))) (aCons (v1 (pureK1 D.listD) (vCall f__law_window (aCons (vVar 1) (aCons (vVar 9) (aNil))))) (aNil)))))) (N n n n) g8 = .ok ([winD q1 q2 q3 q4, b1, b2, .lst [.int r1, .int r2, .int r3, .int r4]], g12) :=
    seqIt_l (lst_ok (aC_ok ((call_ok (ds := [.row, walkT v u cs st]) (g1 := g8) rfl).trans f1) (aC_ok ((call_ok (ds := [.row, walkT v u cs st]) (g1 := g9) rfl).trans f2) (aC_ok ((call_ok (ds := [.row, walkT v u cs st]) (g1 := g10) rfl).trans f3) (aC_ok (v1_ok (k := D.listD) ((call_ok (ds := [.row, walkT v u cs st]) (g1 := g11) rfl).trans f4) rfl) a0_ok)))) (by simp; omega))
  have jd : ∀ (e : D), Judged v u cs st e → _ := fun e hj => judge_ok (d := e) hj (ρ := N (.frz e) n n) (g := g12) rfl rfl rfl
  have s14 := (for_ok (s := sIf (vNot (vCall (f__law_alike 6) (aCons (vCall f_is_window (aCons (vVar 10) (aCons (vVar 19) (aNil)))) (aCons (vCall f__law_good_window (aCons (vVar 9) (aCons (vVar 19) (aNil)))) (aNil))))) (sRet (vC (.bl false))) (sNil)) (t := tgN 19) it14).trans ((forL_nx (t := tgN 19) rfl (jd _ (judged_int gw q1 q2 q3 q4))).trans ((forL_nx (t := tgN 19) rfl (jd _ (judged_bad gw hb1))).trans ((forL_nx (t := tgN 19) rfl (jd _ (judged_bad gw hb2))).trans ((forL_nx (t := tgN 19) rfl (jd _ (judged_list _))).trans rfl))))
  let TH : Slot := .frz (.lst [.int r1, .int r2, .int r3, .int r4])
  -- mirrored, turned
  have s15 := par2_ok (i := 20) (j := 21) (ρ := N TH n n) ((call_ok (fr := aCons (vVar 10) (aNil)) (fs := f_mirrored_walk) (ds := [walkO v u cs (startsS st)]) (g := g12) (g1 := g12) rfl).trans (mirrored_ok gw g12)) ((call_ok (fr := aCons (vVar 10) (aNil)) (fs := f_turned_walk) (ds := [walkO v u cs (startsS st)]) (g := g12) (g1 := g12) rfl).trans (turned_ok gw g12)) (by simp [N, M, LW]) (by simp [N, M, LW])
  let Q : En := N TH (.frz (walkO v u (mirrorM v cs) (startsS st))) (.frz (walkO u v (turnM cs) (startsS st)))
  have mc := cells_comp (cs := cs) (q := fun c => ((v : Int) - 1 - c.1, c.2)) (i := 18) (k := 17) (fi := itSeq (v2 (pureK2 D.ix) (bVar 9) (vC (.int 2)))) (fe := vTup (aCons (v2 (pureK2 D.sub) (v2 (pureK2 D.sub) (v2 (pureK2 D.ix) (bVar 9) (vC (.int 0))) (vC (.int 1))) (bVar 18)) (aCons (vVar 17) (aNil)))) (ρ := Q) (g := g12) (seqIt_l rfl) (by simp [Q, N, M, LW]) (by simp [Q, N, M, LW]) rfl ny (fun c _ => rfl)
  have tc := cells_comp (cs := cs) (q := fun c => (c.2, c.1)) (i := 18) (k := 17) (fi := itSeq (v2 (pureK2 D.ix) (bVar 9) (vC (.int 2)))) (fe := vTup (aCons (vVar 17) (aCons (vVar 18) (aNil)))) (ρ := Q) (g := g12) (seqIt_l rfl) (by simp [Q, N, M, LW]) (by simp [Q, N, M, LW]) rfl ny (fun c _ => rfl)
  have k16 := is_true ((call_ok (fs := f__law_is) (aC_ok (fa := vVar 20) (x := walkO v u (mirrorM v cs) (startsS st)) (g1 := g12) rfl (aC_ok (fa := v2 (pureK2 D.ix) (bVar 9) (vC (.int 0))) (x := .int (v : Nat)) (g1 := g12) rfl (aC_ok (fa := v2 (pureK2 D.ix) (bVar 9) (vC (.int 1))) (x := .int (u : Nat)) (g1 := g12) rfl (aC_ok (x := .lst (cellsD (mirrorM v cs))) mc (aC_ok (fa := v2 (pureK2 D.ix) (bVar 9) (vC (.int 3))) (x := .lst (dI st)) (g1 := g12) rfl a0_ok)))))).trans (law_is_ok (by have := gw_len (gw_mirror gw); omega) (by omega) (fun k => Iff.rfl) g12))
  have k17 := is_true ((call_ok (fs := f__law_is) (aC_ok (fa := vVar 21) (x := walkO u v (turnM cs) (startsS st)) (g1 := g12) rfl (aC_ok (fa := v2 (pureK2 D.ix) (bVar 9) (vC (.int 1))) (x := .int (u : Nat)) (g1 := g12) rfl (aC_ok (fa := v2 (pureK2 D.ix) (bVar 9) (vC (.int 0))) (x := .int (v : Nat)) (g1 := g12) rfl (aC_ok (x := .lst (cellsD (turnM cs))) tc (aC_ok (fa := v2 (pureK2 D.ix) (bVar 9) (vC (.int 3))) (x := .lst (dI st)) (g1 := g12) rfl a0_ok)))))).trans (law_is_ok (by have := gw_len (gw_turn gw); omega) (by omega) (fun k => Iff.rfl) g12))
  have mm := mirrored_ok (gw_mirror gw) g12
  rw [mirror_twice] at mm
  have tt := turned_ok (gw_turn gw) g12
  rw [turn_twice] at tt
  have c18 : v2 (pureK2 D.neD) (v1 (pureK1 (D.fld "Walk" "cells")) (vCall f_mirrored_walk (aCons (vVar 20) (aNil)))) (v1 (pureK1 (D.fld "Walk" "cells")) (bVar 10)) Q g12 = .ok (.bl false, g12) := v2_ok (k := D.neD) (x := .tup (cellsD cs)) (y := .tup (cellsD cs)) (v1_ok (k := D.fld "Walk" "cells") ((call_ok (ds := [walkO v u (mirrorM v cs) (startsS st)]) (g1 := g12) rfl).trans mm) rfl) rfl (ne_cells cs)
  have c19 : v2 (pureK2 D.neD) (v1 (pureK1 (D.fld "Walk" "cells")) (vCall f_turned_walk (aCons (vVar 21) (aNil)))) (v1 (pureK1 (D.fld "Walk" "cells")) (bVar 10)) Q g12 = .ok (.bl false, g12) := v2_ok (k := D.neD) (x := .tup (cellsD cs)) (y := .tup (cellsD cs)) (v1_ok (k := D.fld "Walk" "cells") ((call_ok (ds := [walkO u v (turnM cs) (startsS st)]) (g1 := g12) rfl).trans tt) rfl) rfl (ne_cells cs)
  have s18 := (if_ok (s := sRet (vC (.bl false))) (t := sNil) (x := .bl false) (b := false) ((or_ok c18 rfl).trans ((if_neg (by decide)).trans c19)) rfl).trans (rfl : (if false = true then _ else _) = _)
  obtain ⟨g13, e19, hg13⟩ := law_refusals_ok gw v6 u6 st2 hg12
  have fin := (call_ok (fr := aCons (vVar 1) (aCons (vVar 10) (aCons (vVar 9) (aNil)))) (fs := f__law_refusals) (ρ := Q) (ds := [.row, walkO v u cs (startsS st), walkT v u cs st]) (g := g12) (g1 := g12) rfl).trans e19
  exact ⟨Q, g13, (seq_nx p1).trans ((seq_nx p2).trans ((seq_nx k1).trans ((seq_nx k2).trans ((seq_nx k3).trans ((seq_nx s4).trans ((seq_nx k5).trans ((seq_nx k6).trans ((seq_nx s7).trans ((seq_nx s8).trans ((seq_nx k9).trans ((seq_nx s10).trans ((seq_nx s11).trans ((seq_nx k12).trans ((seq_nx s13).trans ((seq_nx s14).trans ((seq_nx s15).trans ((seq_nx k16).trans ((seq_nx k17).trans ((seq_nx s18).trans (ret_ok fin))))))))))))))))))))⟩
end GD
end RP
end L2
set_option Elab.async false
set_option linter.all false
set_option maxRecDepth 100000
set_option maxHeartbeats 0
namespace L2
namespace RP
namespace GD
open PySem PySem.Spec PyProof.Rows HdK
def d_is_integer : He.DefD := ⟨("is_integer", none), "is_integer", "is_integer", defArgs (top 1), defBody (top 1), defScope (top 1), [], []⟩
def d_is_within : He.DefD := ⟨("is_within", none), "is_within", "is_within", defArgs (top 2), defBody (top 2), defScope (top 2), [], []⟩
def d_is_row : He.DefD := ⟨("is_row", none), "is_row", "is_row", defArgs (top 3), defBody (top 3), defScope (top 3), [], []⟩
def d_is_tuple_of : He.DefD := ⟨("is_tuple_of", none), "is_tuple_of", "is_tuple_of", defArgs (top 4), defBody (top 4), defScope (top 4), [], []⟩
def d_is_cell : He.DefD := ⟨("is_cell", none), "is_cell", "is_cell", defArgs (top 16), defBody (top 16), defScope (top 16), [], []⟩
def d_check_size : He.DefD := ⟨("check_size", none), "check_size", "check_size", defArgs (top 17), defBody (top 17), defScope (top 17), [], []⟩
def d_check_walk : He.DefD := ⟨("check_walk", none), "check_walk", "check_walk", defArgs (top 18), defBody (top 18), defScope (top 18), [], []⟩
def d_is_window : He.DefD := ⟨("is_window", none), "is_window", "is_window", defArgs (top 19), defBody (top 19), defScope (top 19), [], []⟩
def d_check_window : He.DefD := ⟨("check_window", none), "check_window", "check_window", defArgs (top 20), defBody (top 20), defScope (top 20), [], []⟩
def d_is_inside : He.DefD := ⟨("is_inside", none), "is_inside", "is_inside", defArgs (top 21), defBody (top 21), defScope (top 21), [], []⟩
def d_windows_of : He.DefD := ⟨("windows_of", none), "windows_of", "windows_of", defArgs (top 22), defBody (top 22), defScope (top 22), [], []⟩
def d_pieces_of : He.DefD := ⟨("pieces_of", none), "pieces_of", "pieces_of", defArgs (top 23), defBody (top 23), defScope (top 23), [], []⟩
def d_runs_of : He.DefD := ⟨("runs_of", none), "runs_of", "runs_of", defArgs (top 24), defBody (top 24), defScope (top 24), [], []⟩
def d_lines_of : He.DefD := ⟨("lines_of", none), "lines_of", "lines_of", defArgs (top 25), defBody (top 25), defScope (top 25), [], []⟩
def d_rows_walk : He.DefD := ⟨("rows_walk", none), "rows_walk", "rows_walk", defArgs (top 26), defBody (top 26), defScope (top 26), [], []⟩
def d_snake_walk : He.DefD := ⟨("snake_walk", none), "snake_walk", "snake_walk", defArgs (top 27), defBody (top 27), defScope (top 27), [], []⟩
def d_round_walk : He.DefD := ⟨("round_walk", none), "round_walk", "round_walk", defArgs (top 28), defBody (top 28), defScope (top 28), [], []⟩
def d_tiles_walk : He.DefD := ⟨("tiles_walk", none), "tiles_walk", "tiles_walk", defArgs (top 29), defBody (top 29), defScope (top 29), [], []⟩
def d_mirrored_walk : He.DefD := ⟨("mirrored_walk", none), "mirrored_walk", "mirrored_walk", defArgs (top 30), defBody (top 30), defScope (top 30), [], []⟩
def d_turned_walk : He.DefD := ⟨("turned_walk", none), "turned_walk", "turned_walk", defArgs (top 31), defBody (top 31), defScope (top 31), [], []⟩
def d__law_taken : He.DefD := ⟨("_law_taken", none), "_law_taken", "_law_taken", defArgs (top 33), defBody (top 33), defScope (top 33), [], []⟩
def d__law_pick : He.DefD := ⟨("_law_pick", none), "_law_pick", "_law_pick", defArgs (top 34), defBody (top 34), defScope (top 34), [], []⟩
def d__law_alike : He.DefD := ⟨("_law_alike", none), "_law_alike", "_law_alike", defArgs (top 35), defBody (top 35), defScope (top 35), [], []⟩
def d__law_unlike : He.DefD := ⟨("_law_unlike", none), "_law_unlike", "_law_unlike", defArgs (top 36), defBody (top 36), defScope (top 36), [], []⟩
def d__law_shuffled : He.DefD := ⟨("_law_shuffled", none), "_law_shuffled", "_law_shuffled", defArgs (top 37), defBody (top 37), defScope (top 37), [], []⟩
def d__law_number : He.DefD := ⟨("_law_number", none), "_law_number", "_law_number", defArgs (top 38), defBody (top 38), defScope (top 38), [], []⟩
def d__law_walk : He.DefD := ⟨("_law_walk", none), "_law_walk", "_law_walk", defArgs (top 39), defBody (top 39), defScope (top 39), [], []⟩
def d__law_window : He.DefD := ⟨("_law_window", none), "_law_window", "_law_window", defArgs (top 40), defBody (top 40), defScope (top 40), [], []⟩
def d__law_in : He.DefD := ⟨("_law_in", none), "_law_in", "_law_in", defArgs (top 41), defBody (top 41), defScope (top 41), [], []⟩
def d__law_bad_window : He.DefD := ⟨("_law_bad_window", none), "_law_bad_window", "_law_bad_window", defArgs (top 42), defBody (top 42), defScope (top 42), [], []⟩
def d__law_lines : He.DefD := ⟨("_law_lines", none), "_law_lines", "_law_lines", defArgs (top 43), defBody (top 43), defScope (top 43), [], []⟩
def d__law_tiles : He.DefD := ⟨("_law_tiles", none), "_law_tiles", "_law_tiles", defArgs (top 44), defBody (top 44), defScope (top 44), [], []⟩
def d__law_round : He.DefD := ⟨("_law_round", none), "_law_round", "_law_round", defArgs (top 45), defBody (top 45), defScope (top 45), [], []⟩
def d__law_is : He.DefD := ⟨("_law_is", none), "_law_is", "_law_is", defArgs (top 46), defBody (top 46), defScope (top 46), [], []⟩
def d__law_pieces : He.DefD := ⟨("_law_pieces", none), "_law_pieces", "_law_pieces", defArgs (top 47), defBody (top 47), defScope (top 47), [], []⟩
def d__law_good_window : He.DefD := ⟨("_law_good_window", none), "_law_good_window", "_law_good_window", defArgs (top 48), defBody (top 48), defScope (top 48), [], []⟩
def d__law_refusals : He.DefD := ⟨("_law_refusals", none), "_law_refusals", "_law_refusals", defArgs (top 49), defBody (top 49), defScope (top 49), [], []⟩
def d__law_refused : He.DefD := ⟨("_law_refused", none), "_law_refused", "_law_refused", defArgs (top 50), defBody (top 50), defScope (top 50), [], []⟩
def d_law : He.DefD := ⟨("law", none), "law", "law", defArgs (top 51), defBody (top 51), defScope (top 51), [], []⟩
def d_GreyError___init__ : He.DefD := ⟨("GreyError", some "__init__"), "__init__", "GreyError.__init__", defArgs (sub 6 0), defBody (sub 6 0), defScope (sub 6 0), [.non], []⟩
def d_Walk___init__ : He.DefD := ⟨("Walk", some "__init__"), "__init__", "Walk.__init__", defArgs (sub 15 0), defBody (sub 15 0), defScope (sub 15 0), [], []⟩
def d_Walk_place : He.DefD := ⟨("Walk", some "place"), "place", "Walk.place", defArgs (sub 15 1), defBody (sub 15 1), defScope (sub 15 1), [], []⟩
def fn0 : List He.DefD := [d_is_integer, d_is_within, d_is_row, d_is_tuple_of, d_is_cell, d_check_size, d_check_walk, d_is_window, d_check_window, d_is_inside, d_windows_of, d_pieces_of, d_runs_of, d_lines_of, d_rows_walk, d_snake_walk, d_round_walk, d_tiles_walk, d_mirrored_walk, d_turned_walk]
def fn1 : List He.DefD := [d__law_taken, d__law_pick, d__law_alike, d__law_unlike, d__law_shuffled, d__law_number, d__law_walk, d__law_window, d__law_in, d__law_bad_window, d__law_lines, d__law_tiles, d__law_round, d__law_is, d__law_pieces, d__law_good_window, d__law_refusals, d__law_refused, d_law, d_GreyError___init__]
def fn2 : List He.DefD := [d_Walk___init__, d_Walk_place]
def fn : List He.DefD := fn0 ++ fn1 ++ fn2
def fa0 : List He.Fa := [.glo "is_integer", .glo "is_within", .glo "is_row", .glo "is_tuple_of", .glo "is_cell", .glo "check_size", .glo "check_walk", .glo "is_window", .glo "check_window", .glo "is_inside", .glo "windows_of", .glo "pieces_of", .glo "runs_of", .glo "lines_of", .glo "rows_walk", .glo "snake_walk", .glo "round_walk", .glo "tiles_walk", .glo "mirrored_walk", .glo "turned_walk", .glo "_law_taken", .glo "_law_pick", .glo "_law_alike", .glo "_law_unlike", .glo "_law_shuffled", .glo "_law_number", .glo "_law_walk", .glo "_law_window", .glo "_law_in", .glo "_law_bad_window"]
def fa1 : List He.Fa := [.glo "_law_lines", .glo "_law_tiles", .glo "_law_round", .glo "_law_is", .glo "_law_pieces", .glo "_law_good_window", .glo "_law_refusals", .glo "_law_refused", .glo "law", .glo "GreyError", .glo "BadWalk", .glo "BadSize", .glo "BadCells", .glo "BadStarts", .glo "BadTiles", .glo "BadWindow", .glo "Walk", .cls "Walk", .mkr "Walk", .noat "Walk" "width", .noat "Walk" "height", .noat "Walk" "cells", .noat "Walk" "starts", .meth "Walk" "place", .free "len", .free "abs", .free "all", .free "any", .free "bool", .free "dict"]
def fa2 : List He.Fa := [.free "enumerate", .free "int", .free "isinstance", .free "list", .free "max", .free "min", .free "range", .free "repr", .free "set", .free "sorted", .free "str", .free "sum", .free "tuple", .free "zip", .int "MOST_SIDE" 8]
def fa : List He.Fa := fa0 ++ fa1 ++ fa2
def tf : List He.Defn := [("_law_refusals", none)]
def ex (K : PySem.W.Frag) : Bool := isaB K own_cls && (excsB K exc_names && apartB K tf)
abbrev RW : PySem.W.OpenRow := PySem.W.OpenLaw.row PySem.Challenge.rw_fewgreys_k01_walks
abbrev hk : PySem.W.Hook := He.hookX 4 fa fn [] tf ex
def ob (s : PySem.W.SharedT) : He.AlX := He.obsX 4 fa fn [] tf ex (HandSHeadRun.getT s)
theorem ob_eq (s : PySem.W.SharedT) : ob s = hk.obs s.abs := He.obsX_eq (HandSHeadRun.getT_eq s)
def nm0 : List Str := ["is_integer", "is_within", "is_row", "is_tuple_of", "GreyError", "BadWalk", "BadSize", "BadCells", "BadStarts", "BadTiles", "BadWindow", "MOST_SIDE", "Walk", "is_cell", "check_size", "check_walk", "is_window", "check_window", "is_inside", "windows_of"]
def nm1 : List Str := ["pieces_of", "runs_of", "lines_of", "rows_walk", "snake_walk", "round_walk", "tiles_walk", "mirrored_walk", "turned_walk", "_law_taken", "_law_pick", "_law_alike", "_law_unlike", "_law_shuffled", "_law_number", "_law_walk", "_law_window", "_law_in", "_law_bad_window", "_law_lines"]
def nm2 : List Str := ["_law_tiles", "_law_round", "_law_is", "_law_pieces", "_law_good_window", "_law_refusals", "_law_refused"]
def nms : List Str := nm0 ++ nm1 ++ nm2
theorem run (w : World) : HandSHeadRun.RunEq RW (PySem.W.view RW.prog [51]) hk ob 6000 nms w := by
  intro os
  kernel_rfl

abbrev q__law_refusals : Str := (envOfC "_law_refusals" (defScope (top 49)) 0 0 .none).qual ++ "<lambda>"
def qs (p : He.Defn) : Str := if p.1 = "_law_refusals" then q__law_refusals else ""
def tbT (K : PySem.W.Frag) : List (Addr × Str) := tf.map fun p => ((He.cT K p).2, qs p)
section
variable {P : Program} {w : World} {K : PySem.W.Frag} {h base : Heap} {mg : Str → Option Value}
abbrev Says (w : World) (h : Heap) (K : PySem.W.Frag) : Prop := He.SaysX fa fn [] tf ex w h K
theorem fact (c : Says w h K) {f : He.Fa} (m : f ∈ fa) : f.ok K = true := c.t.d.facts m
theorem glo (c : Says w h K) (X : K.In base) (G : base.Ns mainGlobals mg) {x : Str} (m : He.Fa.glo x ∈ fa) : mg x = some (.ref (He.ga K x)) := He.glo_ok X G (fact c m)
theorem fre (c : Says w h K) (X : K.In base) (G : base.Ns mainGlobals mg) {x : Str} (m : He.Fa.free x ∈ fa) : mg x = none := He.free_ok X G (fact c m)
theorem mem_fa {f : He.Fa} (k : Nat) (h : fa[k]? = some f := by rfl) : f ∈ fa := List.mem_of_getElem? h
theorem mem_fn {d : He.DefD} (k : Nat) (h : fn[k]? = some d := by rfl) : d ∈ fn := List.mem_of_getElem? h
theorem bi_of (c : Says w h K) (X : K.In base) (G : base.Ns mainGlobals mg) : Bi mg := ⟨fre c X G (mem_fa 54), fre c X G (mem_fa 55), fre c X G (mem_fa 56), fre c X G (mem_fa 57), fre c X G (mem_fa 58), fre c X G (mem_fa 59), fre c X G (mem_fa 60), fre c X G (mem_fa 61), fre c X G (mem_fa 62), fre c X G (mem_fa 63), fre c X G (mem_fa 64), fre c X G (mem_fa 65), fre c X G (mem_fa 66), fre c X G (mem_fa 67), fre c X G (mem_fa 68), fre c X G (mem_fa 69), fre c X G (mem_fa 70), fre c X G (mem_fa 71), fre c X G (mem_fa 72), fre c X G (mem_fa 73)⟩
theorem gexc (c : Says w h K) (X : K.In base) (G : base.Ns mainGlobals mg) : ∀ x ∈ exc_names, mg x = some (.ref (He.ga K x)) := fun x hx => by
  simp only [exc_names, List.mem_cons, List.not_mem_nil, or_false] at hx
  rcases hx with rfl | rfl | rfl | rfl | rfl | rfl
  · exact glo c X G (mem_fa 40)
  · exact glo c X G (mem_fa 41)
  · exact glo c X G (mem_fa 42)
  · exact glo c X G (mem_fa 43)
  · exact glo c X G (mem_fa 44)
  · exact glo c X G (mem_fa 45)
theorem gobj (c : Says w h K) (X : K.In base) (G : base.Ns mainGlobals mg) : ∀ x ∈ own_cls, mg x = some (.ref (He.ga K x)) ∧ Cls K (He.ga K x) := fun x hx => by
  simp only [own_cls, List.mem_cons, List.not_mem_nil, or_false] at hx
  rcases hx with rfl
  · exact ⟨glo c X G (mem_fa 46), He.cls_ok (fact c (mem_fa 47))⟩
theorem sc_err : FnScope ["self", "value"] ["self", "value"] (defScope (sub 6 0)) := ⟨rfl, rfl, rfl, by decide +kernel, rfl, by decide +kernel, by decide +kernel⟩
theorem env_of (c : Says w h K) (X : K.In base) (G : base.Ns mainGlobals mg) : Env P w K mg base := by
  have gx := gexc c X G
  have go := gobj c X G
  obtain ⟨m1, m2⟩ := He.ba c.more
  obtain ⟨m2, m3⟩ := He.ba m2
  obtain ⟨ea, er⟩ := excsB_ok m2 gx
  refine ⟨bi_of c X G, isaB_ok m1 (fun x hx => (go x hx).1) (fun x hx => (go x hx).2), ea, fun x hx => ?_, ⟨_, (go "Walk" (by decide)).1⟩, fun A e => by
    have q := (go "Walk" (by decide)).1
    rw [q] at e; cases e
    exact ⟨(go "Walk" (by decide)).2, He.noat_ok (fact c (mem_fa 49))⟩, fun A e => by
    have q := (go "Walk" (by decide)).1
    rw [q] at e; cases e
    exact ⟨(go "Walk" (by decide)).2, He.noat_ok (fact c (mem_fa 50))⟩, fun A e => by
    have q := (go "Walk" (by decide)).1
    rw [q] at e; cases e
    exact ⟨(go "Walk" (by decide)).2, He.noat_ok (fact c (mem_fa 51))⟩, fun A e => by
    have q := (go "Walk" (by decide)).1
    rw [q] at e; cases e
    exact ⟨(go "Walk" (by decide)).2, He.noat_ok (fact c (mem_fa 52))⟩, He.int_ok X G (fact c (mem_fa 74))⟩
  obtain ⟨fd, Fd⟩ := c.t.d.defs (mem_fn (d := d_GreyError___init__) 39)
  obtain ⟨k1, k2, k3, k4⟩ := er x hx
  refine ⟨_, _, fd, ["self", "value"], gx x hx, k1, k2, k3, ?_, err_ok (k := 0) Fd sc_err rfl (Or.inl rfl) (Or.inl rfl) k1 k4⟩
  obtain ⟨zs, hz, hb⟩ := FunD.binds1 (ps := ["self", "value"]) Fd 2 1 (by simp [d_GreyError___init__, He.DefD.dvs]) rfl (fun T kV doc pm an cdv ct us its h1 h2 => by
    match us, h1, its, h2 with
    | [_, _], _, [_], _ => exact ⟨_, rfl, rfl⟩)
  cases hz
  exact hb
theorem sc_refused : FnScope ["ask", "e"] ["ask"] (defScope (top 50)) := ⟨rfl, rfl, rfl, by decide +kernel, rfl, by decide +kernel, by decide +kernel⟩
theorem ref_of (c : Says w h K) (X : K.In base) (G : base.Ns mainGlobals mg) : RefE K mg ref_names told_list "_law_refused" := by
  obtain ⟨fd, Fd⟩ := c.t.d.defs (mem_fn (d := d__law_refused) 37)
  refine ⟨He.ga K, _, fd, _, _, _, fun x hx => gexc c X G x ((by decide : ∀ x ∈ ref_names, x ∈ exc_names) x hx), by decide, glo c X G (mem_fa 37), Fd, sc_refused, ⟨_, _, _, _, _, _, _, _, _, _, _, _, _, ?_, rfl⟩, by first | exact Or.inl rfl | exact Or.inr (Or.inl rfl), rfl, ?_, Fd.bindsN fun _ _ _ _ _ _ us hl => match us, hl with | [_], _ => rfl⟩
  · exact Told.cons (Told.cons (Told.cons (Told.cons (Told.cons (Told.cons (Told.nil))))))
  · intro y hy
    simp only [ref_names, List.mem_cons, List.not_mem_nil, or_false] at hy
    rcases hy with rfl | rfl | rfl | rfl | rfl | rfl <;> exact ⟨rfl, by decide⟩
theorem law_of (c : Says w h K) (X : K.In base) (G : base.Ns mainGlobals mg) (TB : ∀ p ∈ tf.map (He.cT K), LamX.TabB base mg p.1 p.2) :
    ∃ fd, FunD K "law" "law" (defArgs (top 51)) (defBody (top 51)) (defScope (top 51)) [] [] (He.fAd K ("law", none)) fd ∧ FnG P w K mg base 10 (He.fAd K ("law", none)) fd ["script"] (spLaw K (tbT K) 509 22 s_law) := by
  have E : Env P w K mg base := env_of c X G
  have re := ref_of c X G
  have go := gobj c X G
  obtain ⟨m1, m2⟩ := He.ba c.more
  obtain ⟨m2, m3⟩ := He.ba m2
  obtain ⟨fd_is_integer, F_is_integer⟩ := c.t.d.defs (mem_fn (d := d_is_integer) 0)
  have c_is_integer := c_is_integer (T := tbT K) E (glo c X G (mem_fa 0)) F_is_integer 
  obtain ⟨fd_is_within, F_is_within⟩ := c.t.d.defs (mem_fn (d := d_is_within) 1)
  have c_is_within := c_is_within (T := tbT K) E (glo c X G (mem_fa 1)) F_is_within c_is_integer
  obtain ⟨fd_is_row, F_is_row⟩ := c.t.d.defs (mem_fn (d := d_is_row) 2)
  have c_is_row := c_is_row (T := tbT K) E (glo c X G (mem_fa 2)) F_is_row 
  obtain ⟨fd_is_tuple_of, F_is_tuple_of⟩ := c.t.d.defs (mem_fn (d := d_is_tuple_of) 3)
  have c_is_tuple_of := c_is_tuple_of (T := tbT K) E (glo c X G (mem_fa 3)) F_is_tuple_of 
  obtain ⟨fd_is_cell, F_is_cell⟩ := c.t.d.defs (mem_fn (d := d_is_cell) 4)
  have c_is_cell := c_is_cell (T := tbT K) E (glo c X G (mem_fa 4)) F_is_cell c_is_tuple_of c_is_within
  obtain ⟨fd_check_size, F_check_size⟩ := c.t.d.defs (mem_fn (d := d_check_size) 5)
  have c_check_size := c_check_size (T := tbT K) E (glo c X G (mem_fa 5)) F_check_size c_is_within
  obtain ⟨fd_check_walk, F_check_walk⟩ := c.t.d.defs (mem_fn (d := d_check_walk) 6)
  have c_check_walk := c_check_walk (T := tbT K) E (glo c X G (mem_fa 6)) F_check_walk 
  obtain ⟨fd_is_window, F_is_window⟩ := c.t.d.defs (mem_fn (d := d_is_window) 7)
  have c_is_window := c_is_window (T := tbT K) E (glo c X G (mem_fa 7)) F_is_window c_check_walk c_is_tuple_of c_is_cell c_is_within
  obtain ⟨fd_check_window, F_check_window⟩ := c.t.d.defs (mem_fn (d := d_check_window) 8)
  have c_check_window := c_check_window (T := tbT K) E (glo c X G (mem_fa 8)) F_check_window c_is_window
  obtain ⟨fd_is_inside, F_is_inside⟩ := c.t.d.defs (mem_fn (d := d_is_inside) 9)
  have c_is_inside := c_is_inside (T := tbT K) E (glo c X G (mem_fa 9)) F_is_inside 
  obtain ⟨fd_windows_of, F_windows_of⟩ := c.t.d.defs (mem_fn (d := d_windows_of) 10)
  have c_windows_of := c_windows_of (T := tbT K) E (glo c X G (mem_fa 10)) F_windows_of c_check_walk c_is_within
  obtain ⟨fd_pieces_of, F_pieces_of⟩ := c.t.d.defs (mem_fn (d := d_pieces_of) 11)
  have c_pieces_of := c_pieces_of (T := tbT K) E (glo c X G (mem_fa 11)) F_pieces_of c_check_window c_is_inside
  obtain ⟨fd_runs_of, F_runs_of⟩ := c.t.d.defs (mem_fn (d := d_runs_of) 12)
  have c_runs_of := c_runs_of (T := tbT K) E (glo c X G (mem_fa 12)) F_runs_of c_check_walk
  obtain ⟨fd_lines_of, F_lines_of⟩ := c.t.d.defs (mem_fn (d := d_lines_of) 13)
  have c_lines_of := c_lines_of (T := tbT K) E (glo c X G (mem_fa 13)) F_lines_of 
  obtain ⟨fd__law_taken, F__law_taken⟩ := c.t.d.defs (mem_fn (d := d__law_taken) 20)
  have c__law_taken := c__law_taken (T := tbT K) E (glo c X G (mem_fa 20)) F__law_taken 
  obtain ⟨fd__law_pick, F__law_pick⟩ := c.t.d.defs (mem_fn (d := d__law_pick) 21)
  have c__law_pick := c__law_pick (T := tbT K) E (glo c X G (mem_fa 21)) F__law_pick c__law_taken
  obtain ⟨fd__law_alike, F__law_alike⟩ := c.t.d.defs (mem_fn (d := d__law_alike) 22)
  have c__law_alike := c__law_alike (T := tbT K) E (glo c X G (mem_fa 22)) F__law_alike  6
  obtain ⟨fd__law_unlike, F__law_unlike⟩ := c.t.d.defs (mem_fn (d := d__law_unlike) 23)
  have c__law_unlike := c__law_unlike (T := tbT K) E (glo c X G (mem_fa 23)) F__law_unlike 
  obtain ⟨fd__law_shuffled, F__law_shuffled⟩ := c.t.d.defs (mem_fn (d := d__law_shuffled) 24)
  have c__law_shuffled := c__law_shuffled (T := tbT K) E (glo c X G (mem_fa 24)) F__law_shuffled c__law_taken
  obtain ⟨fd__law_number, F__law_number⟩ := c.t.d.defs (mem_fn (d := d__law_number) 25)
  have c__law_number := c__law_number (T := tbT K) E (glo c X G (mem_fa 25)) F__law_number 
  obtain ⟨fd__law_walk, F__law_walk⟩ := c.t.d.defs (mem_fn (d := d__law_walk) 26)
  have c__law_walk := c__law_walk (T := tbT K) E (glo c X G (mem_fa 26)) F__law_walk c__law_taken c__law_shuffled c__law_pick c__law_unlike
  obtain ⟨fd__law_window, F__law_window⟩ := c.t.d.defs (mem_fn (d := d__law_window) 27)
  have c__law_window := c__law_window (T := tbT K) E (glo c X G (mem_fa 27)) F__law_window c__law_taken
  obtain ⟨fd__law_in, F__law_in⟩ := c.t.d.defs (mem_fn (d := d__law_in) 28)
  have c__law_in := c__law_in (T := tbT K) E (glo c X G (mem_fa 28)) F__law_in 
  obtain ⟨fd__law_bad_window, F__law_bad_window⟩ := c.t.d.defs (mem_fn (d := d__law_bad_window) 29)
  have c__law_bad_window := c__law_bad_window (T := tbT K) E (glo c X G (mem_fa 29)) F__law_bad_window c__law_pick
  obtain ⟨fd__law_lines, F__law_lines⟩ := c.t.d.defs (mem_fn (d := d__law_lines) 30)
  have c__law_lines := c__law_lines (T := tbT K) E (glo c X G (mem_fa 30)) F__law_lines 
  obtain ⟨fd__law_tiles, F__law_tiles⟩ := c.t.d.defs (mem_fn (d := d__law_tiles) 31)
  have c__law_tiles := c__law_tiles (T := tbT K) E (glo c X G (mem_fa 31)) F__law_tiles c__law_lines
  obtain ⟨fd__law_round, F__law_round⟩ := c.t.d.defs (mem_fn (d := d__law_round) 32)
  have c__law_round := c__law_round (T := tbT K) E (glo c X G (mem_fa 32)) F__law_round 
  obtain ⟨fd__law_is, F__law_is⟩ := c.t.d.defs (mem_fn (d := d__law_is) 33)
  have c__law_is := c__law_is (T := tbT K) E (glo c X G (mem_fa 33)) F__law_is c__law_unlike c__law_alike
  obtain ⟨fd__law_pieces, F__law_pieces⟩ := c.t.d.defs (mem_fn (d := d__law_pieces) 34)
  have c__law_pieces := c__law_pieces (T := tbT K) E (glo c X G (mem_fa 34)) F__law_pieces c__law_in
  obtain ⟨fd__law_good_window, F__law_good_window⟩ := c.t.d.defs (mem_fn (d := d__law_good_window) 35)
  have c__law_good_window := c__law_good_window (T := tbT K) E (glo c X G (mem_fa 35)) F__law_good_window c__law_number
  obtain ⟨fd_Walk___init__, F_Walk___init__⟩ := c.t.d.defs (mem_fn (d := d_Walk___init__) 40)
  have k_Walk := k_Walk (T := tbT K) E (glo c X G (mem_fa 46)) (go "Walk" (by decide)).2 (He.mkr_ok (fact c (mem_fa 48))) (fun q hq => by
    simp only [fl_Walk, List.mem_cons, List.not_mem_nil, or_false] at hq
    rcases hq with rfl | rfl | rfl | rfl
    · exact He.noat_ok (fact c (mem_fa 49))
    · exact He.noat_ok (fact c (mem_fa 50))
    · exact He.noat_ok (fact c (mem_fa 51))
    · exact He.noat_ok (fact c (mem_fa 52))) F_Walk___init__ c_check_size c_is_row c_is_cell c_is_within
  obtain ⟨fd_rows_walk, F_rows_walk⟩ := c.t.d.defs (mem_fn (d := d_rows_walk) 14)
  have c_rows_walk := c_rows_walk (T := tbT K) E (glo c X G (mem_fa 14)) F_rows_walk c_check_size c_lines_of k_Walk
  obtain ⟨fd_snake_walk, F_snake_walk⟩ := c.t.d.defs (mem_fn (d := d_snake_walk) 15)
  have c_snake_walk := c_snake_walk (T := tbT K) E (glo c X G (mem_fa 15)) F_snake_walk c_check_size c_lines_of k_Walk
  obtain ⟨fd_round_walk, F_round_walk⟩ := c.t.d.defs (mem_fn (d := d_round_walk) 16)
  have c_round_walk := c_round_walk (T := tbT K) E (glo c X G (mem_fa 16)) F_round_walk c_check_size k_Walk
  obtain ⟨fd_tiles_walk, F_tiles_walk⟩ := c.t.d.defs (mem_fn (d := d_tiles_walk) 17)
  have c_tiles_walk := c_tiles_walk (T := tbT K) E (glo c X G (mem_fa 17)) F_tiles_walk c_check_size c_is_within c_lines_of k_Walk
  obtain ⟨fd_mirrored_walk, F_mirrored_walk⟩ := c.t.d.defs (mem_fn (d := d_mirrored_walk) 18)
  have c_mirrored_walk := c_mirrored_walk (T := tbT K) E (glo c X G (mem_fa 18)) F_mirrored_walk c_check_walk k_Walk
  obtain ⟨fd_turned_walk, F_turned_walk⟩ := c.t.d.defs (mem_fn (d := d_turned_walk) 19)
  have c_turned_walk := c_turned_walk (T := tbT K) E (glo c X G (mem_fa 19)) F_turned_walk c_check_walk k_Walk
  obtain ⟨fd__law_refusals, F__law_refusals⟩ := c.t.d.defs (mem_fn (d := d__law_refusals) 36)
  have c__law_refusals := c__law_refusals (T := tbT K) E (glo c X G (mem_fa 36)) F__law_refusals c__law_pick (glo c X G (mem_fa 16)) (glo c X G (mem_fa 15)) (glo c X G (mem_fa 14)) k_Walk c__law_taken c_tiles_walk (glo c X G (mem_fa 12)) (glo c X G (mem_fa 19)) (glo c X G (mem_fa 18)) c__law_bad_window c_pieces_of c_windows_of c_rows_walk c_snake_walk c_round_walk c_mirrored_walk c_turned_walk c_runs_of (cd_of F__law_refusals) (TB _ (List.mem_map_of_mem (f := He.cT K) (a := (("_law_refusals", none) : He.Defn)) (by decide))) (List.mem_map.mpr ⟨(("_law_refusals", none) : He.Defn), by decide, rfl⟩) (tab_uniq (q := qs) (p := (("_law_refusals", none) : He.Defn)) m3 (by decide)) re
  obtain ⟨fd_law, F_law⟩ := c.t.d.defs (mem_fn (d := d_law) 38)
  exact ⟨fd_law, F_law, c_law E F_law c__law_taken c__law_lines c_rows_walk c__law_is c_snake_walk c__law_round c_round_walk c__law_tiles c_tiles_walk c__law_walk c__law_pick k_Walk c__law_unlike c_runs_of c__law_alike c__law_window c__law_pieces c_pieces_of c_windows_of c__law_bad_window c__law_good_window c_is_window c_turned_walk c_mirrored_walk c__law_refusals⟩
end
theorem room_law : Room 10 callerA := ⟨rfl, by decide, by decide⟩
theorem says_law {w : World} {h : Heap} {K : PySem.W.Frag} (X : K.In h) (c : Says w h K) {mg : Str → Option Value} (G : h.Ns mainGlobals mg) {fa : Addr} (hfa : mg "law" = some (.ref fa))
    (plain : ∀ ns : List Int, ns.length ≤ 63 → (∀ z ∈ ns, Builtin.Int.intBits z ≤ 1048576) → ∃ ρ' g', s_law (lawStart 22) ⟨0, 509, 0, none, ns⟩ = .ok (.ret (.bl true), ρ', g')) :
    LawG PySem.Challenge.rw_fewgreys_k01_walks w K 10 63 "script" mg fa h := by
  have e := hfa.symm.trans (glo c X G (mem_fa 38))
  cases e
  obtain ⟨fd, Fd⟩ := c.t.d.defs (mem_fn (d := d_law) 38)
  refine ⟨fd, tf.map (He.cT K), spLaw K (tbT K) 509 22 s_law, fun p hp => ?_, fun p hp => ?_, fun p hp => ?_, fun s u => ?_, fun H a ns hl hb hT hS => ?_, fun base KB GB TB => ?_⟩
  · obtain ⟨q, hq, rfl⟩ := List.mem_map.mp hp
    exact c.empty q hq
  · obtain ⟨q, hq, rfl⟩ := List.mem_map.mp hp
    exact c.out q hq
  · obtain ⟨q, hq, rfl⟩ := List.mem_map.mp hp
    exact PySem.W.codeHd_of_K X (c.hd q hq)
  · exact FunD.bindsA (ps := ["script"]) Fd (fun _ _ _ _ _ _ us hl => match us, hl with | [_], _ => rfl) s [u] rfl
  · refine ⟨a, ns, rfl, hS, fun p hp => ?_, fun _ => rfl, plain ns hl hb⟩
    obtain ⟨q, hq, rfl⟩ := List.mem_map.mp hp
    exact LamX.TabS.nil (hT _ (List.mem_map_of_mem hq))
  · obtain ⟨fd', Fd', hG⟩ := law_of (P := (PySem.Challenge.rw_fewgreys_k01_walks).prog) (w := w) c KB GB TB
    have e : fd' = fd := by
      obtain ⟨oc, od, dV, kV, doc, pm, an, cdv, ct, osl, e1, l1, _⟩ := Fd.ex
      obtain ⟨oc', od', dV', kV', doc', pm', an', cdv', ct', osl', e2, l2, _⟩ := Fd'.ex
      have l1 : K.lookup (He.fAd K ("law", none)) = _ := l1
      rw [l1] at l2
      cases l2
      rfl
    rw [← e]
    exact hG
end GD
end RP
end L2
open PySem PySem.W PySem.Calls PyProof.Rows in
theorem holds_of (plain : ∀ ns : List Int, ns.length ≤ 63 → (∀ z ∈ ns, Builtin.Int.intBits z ≤ 1048576) → ∃ ρ' g', L2.RP.GD.s_law (L2.RP.lawStart 22) ⟨0, 509, 0, none, ns⟩ = .ok (.ret (.bl true), ρ', g')) : PySem.Challenge.rw_fewgreys_k01_walks.Holds := by
  w_on; o_law
  refine HandSHeadRun.head_any (r := OpenLaw.row PySem.Challenge.rw_fewgreys_k01_walks) (q := view (OpenLaw.row PySem.Challenge.rw_fewgreys_k01_walks).prog [51]) (H := L2.RP.GD.hk) (ob := L2.RP.GD.ob) (M := 6000) (loose := L2.RP.GD.nms) (d := HandSHeadRun.topDef (OpenLaw.row PySem.Challenge.rw_fewgreys_k01_walks).prog 51) (kwd := []) L2.RP.GD.ob_eq
    (by kernel_rfl) (fun s => by kernel_rfl) L2.RP.GD.run (by kernel_rfl) (by kernel_rfl) (by kernel_rfl) (by rfl) (by first | assumption | decide +kernel) (by decide +kernel) ⟨rfl, rfl, rfl, rfl, rfl, by decide +kernel⟩ ?hw ?hc
  case hw => w_witness2
  case hc =>
    refine L2.RP.walk_G (l := PySem.Challenge.rw_fewgreys_k01_walks) (n := 63) (k := 10) (x := "script") rfl (by decide) (by kernel_rfl) L2.RP.GD.room_law ?F (fun _ _ _ _ _ z => by
      obtain ⟨_, _, _, _, _, _, _, _, _, _, _, _, q⟩ := z
      exact q)
    intro w mg fa h Y G hmg0
    obtain ⟨K, KX, c⟩ := Y
    have hmg : mg ("law" : PySem.Str) = some (.ref fa) := by
      have e : (HandSHeadRun.topDef (OpenLaw.row PySem.Challenge.rw_fewgreys_k01_walks).prog 51).name = ("law" : PySem.Str) := by kernel_rfl
      rw [← e]
      exact hmg0
    exact ⟨K, KX, L2.RP.GD.says_law KX c G hmg plain⟩
theorem PySem.Challenge.cw_fewgreys_k01_walks_holds : PySem.Challenge.rw_fewgreys_k01_walks.Holds := by
  exact _root_.holds_of fun ns h1 h2 => L2.RP.GD.law_ok _ ⟨rfl, Int.le_refl 0⟩
