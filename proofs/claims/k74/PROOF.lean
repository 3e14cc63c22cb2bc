import PyProof.Rows.All
import Wide.All
import OpenK.AllK
import Wide.FinOn
import KE.KStateDown
import HandS.ForMost
import HandS.Exc
import HandS.WordsExc
import HandS.Defaults
import HandS.Deep
import HandS.Wide
import HandS.Gcd
import HandS.Property
import HandS.ClsMeth
import HandS.IsInst
import HandS.Head0
import HandS.Head1
import HandS.Head2
import HandS.HeadEnd
import HandS.HeadHook1
import HandS.HeadHook2
import HandS.TupAny
import HandS.TupLe
import HandS.Style
import KE.KIntText
import PyProof.Rows.Digits
import PyProof.Rows.StrOr
import HandS.CallSlots
import HandS.HeadHook3
import HandS.HeadHook4
import PySem.Challenge.RW_swornlots_k74_plain_texts
import HandS.Codes
open PySem PySem.W PyProof.Rows
set_option Elab.async false
set_option linter.all false
set_option maxRecDepth 100000
set_option maxHeartbeats 4000000
/-! The Z layer, part A: data, the store of mutable objects, what represents what, how the abstract heap grows. -/
namespace Z
open PySem PySem.Spec PyProof.Rows L2

/-- built-in types -/
inductive Ty where
  | none | bool | int | str | tuple | list | dict | set
  deriving DecidableEq, Inhabited
def tyS : Ty → String
  | .none => "NoneType" | .bool => "bool" | .int => "int" | .str => "str" | .tuple => "tuple" | .list => "list" | .dict => "dict" | .set => "set"
/-- data: tup, lst, ins never change any more; ref n is the n-th object of the store -/
inductive D where
  | non | bl (b : Bool) | int (i : Int) | str (x : Str)
  | tup (ds : List D) | lst (ds : List D)
  | ins (c : Nat) (fs : List Str) (ds : List D)
  | ref (n : Nat)
  | cls (c : Nat)
  | ty (t : Ty)
  | exn (c : Nat) (x : D)
  | scr (ds : List D)
  | nim
  deriving Inhabited
/-- mutable objects -/
inductive O where
  | lst (ds : List D)
  | frz (ds : List D)
  | ins (c : Nat) (fs : List Str) (ds : List D)
  | dK (kvs : List (Key × D))
  | dT (kvs : List (List Key × D))
  deriving Inhabited
abbrev Sto := List O
/-- the n-th from the bottom -/
def look {α : Type} : List α → Nat → Option α
  | [], _ => none
  | x :: xs, n => if n = xs.length then some x else look xs n
def put {α : Type} : List α → Nat → α → List α
  | [], _, _ => []
  | x :: xs, n, y => if n = xs.length then y :: xs else x :: put xs n y
theorem look_top {α : Type} {x : α} {xs : List α} : look (x :: xs) xs.length = some x := if_pos rfl
theorem look_lt {α : Type} : ∀ {xs : List α} {n : Nat} {x : α}, look xs n = some x → n < xs.length
  | [], _, _, h => by cases h
  | y :: ys, n, x, h => by
    unfold look at h
    split at h
    · rename_i e; simp only [List.length_cons]; omega
    · have := look_lt h; simp only [List.length_cons]; omega
theorem look_cons {α : Type} {x y : α} {xs : List α} {n : Nat} (h : look xs n = some y) : look (x :: xs) n = some y := by
  have := look_lt h
  unfold look
  rw [if_neg (by omega)]
  exact h
theorem look_app {α : Type} {y : α} {xs : List α} {n : Nat} (h : look xs n = some y) : ∀ l : List α, look (l ++ xs) n = some y
  | [] => h
  | _ :: l => look_cons (look_app h l)
theorem put_length {α : Type} {y : α} : ∀ {xs : List α} {n : Nat}, (put xs n y).length = xs.length
  | [], _ => rfl
  | x :: xs, n => by
    unfold put
    split
    · rfl
    · simp only [List.length_cons, put_length]
theorem look_put_same {α : Type} {y : α} : ∀ {xs : List α} {n : Nat}, n < xs.length → look (put xs n y) n = some y
  | [], _, h => by simp at h
  | x :: xs, n, h => by
    unfold put
    split
    · rename_i e; rw [e]; exact look_top
    · rename_i e
      unfold look
      rw [put_length, if_neg e]
      exact look_put_same (by simp only [List.length_cons] at h; omega)
theorem look_put_ne {α : Type} {y : α} : ∀ {xs : List α} {n m : Nat}, m ≠ n → look (put xs n y) m = look xs m
  | [], _, _, _ => rfl
  | x :: xs, n, m, h => by
    unfold put
    split
    · rename_i e
      unfold look
      rw [if_neg (by omega), if_neg (by omega)]
    · unfold look
      rw [put_length]
      split
      · rfl
      · exact look_put_ne h
theorem look_none {α : Type} : ∀ {xs : List α} {n : Nat}, xs.length ≤ n → look xs n = none
  | [], _, _ => rfl
  | x :: xs, n, h => by
    simp only [List.length_cons] at h
    unfold look
    rw [if_neg (by omega)]
    exact look_none (by omega)
theorem look_some {α : Type} : ∀ {xs : List α} {n : Nat}, n < xs.length → ∃ x, look xs n = some x
  | [], _, h => by simp at h
  | x :: xs, n, h => by
    unfold look
    split
    · exact ⟨x, rfl⟩
    · exact look_some (by simp only [List.length_cons] at h; omega)
theorem look_mem {α : Type} : ∀ {xs : List α} {n : Nat} {x : α}, look xs n = some x → x ∈ xs
  | [], _, _, h => by cases h
  | y :: ys, n, x, h => by
    unfold look at h
    split at h
    · cases h; exact List.mem_cons_self
    · exact List.mem_cons_of_mem _ (look_mem h)
theorem look_inj {α : Type} : ∀ {xs : List α} {n m : Nat} {x : α}, xs.Nodup → look xs n = some x → look xs m = some x → n = m
  | [], _, _, _, _, h, _ => by cases h
  | y :: ys, n, m, x, nd, h1, h2 => by
    have hy := (List.nodup_cons.mp nd).1
    unfold look at h1 h2
    split at h1
    · rename_i e1
      cases h1
      split at h2
      · rename_i e2; rw [e1, e2]
      · exact absurd (look_mem h2) hy
    · split at h2
      · cases h2; exact absurd (look_mem h1) hy
      · exact look_inj (List.nodup_cons.mp nd).2 h1 h2
theorem put_put {α : Type} {y z : α} : ∀ {xs : List α} {n : Nat}, put (put xs n y) n z = put xs n z
  | [], _ => rfl
  | x :: xs, n => by
    by_cases e : n = xs.length
    · simp only [put, if_pos e]
    · simp only [put, if_neg e, put_length, put_put]
theorem drop_put {α : Type} {y : α} : ∀ {xs : List α} {n : Nat} (k : Nat), n + k < xs.length → (put xs n y).drop k = put (xs.drop k) n y
  | xs, n, 0, _ => rfl
  | [], _, _ + 1, _ => by simp [put]
  | x :: xs, n, k + 1, h => by
    simp only [List.length_cons] at h
    have e : ¬ n = xs.length := by omega
    simp only [put, if_neg e, List.drop_succ_cons]
    exact drop_put k (by omega)
theorem look_drop {α : Type} : ∀ {xs : List α} {n : Nat} (k : Nat), n + k < xs.length → look (xs.drop k) n = look xs n
  | xs, n, 0, _ => rfl
  | [], _, _ + 1, _ => by simp
  | x :: xs, n, k + 1, h => by
    simp only [List.length_cons] at h
    have e : look (x :: xs) n = look xs n := by
      conv => lhs; unfold look
      rw [if_neg (by omega)]
    rw [e]
    exact look_drop k (by omega)

/-- the written part, the classes' addresses -/
structure Wp where
  K : PySem.W.Frag
  cad : Nat → Addr
  exf : Nat → Str

/-- a tuple: tracked, or the module's own -/
def TpAt (K : PySem.W.Frag) (B : Hp) (a : Addr) (vs : List V) : Prop :=
  B a = some (.tup vs) ∨ ∃ (o : Obj) (its : Array Value) (n : Nat), K.lookup a = some o ∧ o.cls = .type "tuple" ∧ o.data = .seq its n ∧ its.size ≤ sizeLine ∧ Vals vs its.toList
theorem TpAt.sq {K : PySem.W.Frag} {B : Hp} {a : Addr} {vs : List V} (h : TpAt K B a vs) : SqT K B a vs := h.imp (fun h => .inl h) id
mutual
/-- v stands for the datum, by the objects that do not change (B) and the store's addresses (ρ) -/
inductive Rp (T : Wp) (B : Hp) (ρ : List Addr) : D → V → Prop
  | non : Rp T B ρ .non .non
  | bl (b : Bool) : Rp T B ρ (.bl b) (.bl b)
  | int (i : Int) : Rp T B ρ (.int i) (.int i)
  | str (x : Str) : Rp T B ρ (.str x) (.str x)
  | tup {a : Addr} {ds : List D} {vs : List V} : TpAt T.K B a vs → Rps T B ρ ds vs → Rp T B ρ (.tup ds) (.ref a)
  | lst {a : Addr} {ds : List D} {vs : List V} : B a = some (.lst vs) → Rps T B ρ ds vs → Rp T B ρ (.lst ds) (.ref a)
  | scr {a : Addr} {ds : List D} {vs : List V} : SqL T.K B a vs → Rps T B ρ ds vs → Rp T B ρ (.scr ds) (.ref a)
  | ins {a dx : Addr} {c : Nat} {fs : List Str} {ds : List D} {vs : List V} : B a = some (.ins (T.cad c) dx (fs.zip vs)) → Rps T B ρ ds vs → fs.length = ds.length → Rp T B ρ (.ins c fs ds) (.ref a)
  | ref {n : Nat} {a : Addr} : look ρ n = some a → Rp T B ρ (.ref n) (.ref a)
  | cls (c : Nat) : Rp T B ρ (.cls c) (.ref (T.cad c))
  | ty (t : Ty) : Rp T B ρ (.ty t) (.ty (tyS t))
inductive Rps (T : Wp) (B : Hp) (ρ : List Addr) : List D → List V → Prop
  | nil : Rps T B ρ [] []
  | cons {d : D} {v : V} {ds : List D} {vs : List V} : Rp T B ρ d v → Rps T B ρ ds vs → Rps T B ρ (d :: ds) (v :: vs)
end

/-- B grows -/
def Le (B B' : Hp) : Prop := ∀ a o, B a = some o → B' a = some o
theorem Le.refl (B : Hp) : Le B B := fun _ _ h => h
theorem Le.trans {B B1 B2 : Hp} (a : Le B B1) (b : Le B1 B2) : Le B B2 := fun c o h => b c o (a c o h)
theorem Le.upd {B : Hp} {a : Addr} {o : HO} (h : B a = none) : Le B (upd B a o) := fun b u e => by rw [upd_ne (ne_of_none e h)]; exact e
theorem Le.sqT {K : PySem.W.Frag} {B B' : Hp} {a : Addr} {xs : List V} (e : Le B B') (h : SqT K B a xs) : SqT K B' a xs := by
  rcases h with (h | ⟨o, h⟩) | h
  · exact .inl (.inl (e _ _ h))
  · exact .inl (.inr ⟨o, e _ _ h⟩)
  · exact .inr h
theorem Le.tp {K : PySem.W.Frag} {B B' : Hp} {a : Addr} {xs : List V} (e : Le B B') (h : TpAt K B a xs) : TpAt K B' a xs := h.imp (fun h => e _ _ h) id
theorem Le.sqL {K : PySem.W.Frag} {B B' : Hp} {a : Addr} {xs : List V} (e : Le B B') (h : SqL K B a xs) : SqL K B' a xs := by
  rcases h with (h | ⟨o, h⟩) | h
  · exact .inl (.inl (e _ _ h))
  · exact .inl (.inr ⟨o, e _ _ h⟩)
  · exact .inr h

section
variable {T : Wp} {B B' : Hp} {ρ ρ' : List Addr}
mutual
theorem Rp.mono (hB : Le B B') (hρ : ∀ n a, look ρ n = some a → look ρ' n = some a) : ∀ {d : D} {v : V}, Rp T B ρ d v → Rp T B' ρ' d v
  | _, _, .non => .non
  | _, _, .bl b => .bl b
  | _, _, .int i => .int i
  | _, _, .str x => .str x
  | _, _, .tup h r => .tup (hB.tp h) (Rps.mono hB hρ r)
  | _, _, .lst h r => .lst (hB _ _ h) (Rps.mono hB hρ r)
  | _, _, .scr h r => .scr (hB.sqL h) (Rps.mono hB hρ r)
  | _, _, .ins h r l => .ins (hB _ _ h) (Rps.mono hB hρ r) l
  | _, _, .ref h => .ref (hρ _ _ h)
  | _, _, .cls c => .cls c
  | _, _, .ty t => .ty t
theorem Rps.mono (hB : Le B B') (hρ : ∀ n a, look ρ n = some a → look ρ' n = some a) : ∀ {ds : List D} {vs : List V}, Rps T B ρ ds vs → Rps T B' ρ' ds vs
  | _, _, .nil => .nil
  | _, _, .cons r t => .cons (Rp.mono hB hρ r) (Rps.mono hB hρ t)
end
theorem Rps.length : ∀ {ds : List D} {vs : List V}, Rps T B ρ ds vs → ds.length = vs.length
  | _, _, .nil => rfl
  | _, _, .cons _ t => by simp only [List.length_cons, Rps.length t]
theorem Rps.get : ∀ {ds : List D} {vs : List V} {i : Nat} {d : D}, Rps T B ρ ds vs → ds[i]? = some d → ∃ v, vs[i]? = some v ∧ Rp T B ρ d v
  | _, _, _, _, .nil, h => by simp at h
  | _, _, 0, _, .cons r _, h => by simp at h; subst h; exact ⟨_, rfl, r⟩
  | _, _, i + 1, _, .cons _ t, h => by
    obtain ⟨v, h1, h2⟩ := Rps.get (i := i) t (by simpa using h)
    exact ⟨v, by simpa using h1, h2⟩
theorem Rps.getV : ∀ {ds : List D} {vs : List V} {i : Nat} {v : V}, Rps T B ρ ds vs → vs[i]? = some v → ∃ d, ds[i]? = some d ∧ Rp T B ρ d v
  | _, _, _, _, .nil, h => by simp at h
  | _, _, 0, _, .cons r _, h => by simp at h; subst h; exact ⟨_, rfl, r⟩
  | _, _, i + 1, _, .cons _ t, h => by
    obtain ⟨v, h1, h2⟩ := Rps.getV (i := i) t (by simpa using h)
    exact ⟨v, by simpa using h1, h2⟩
theorem Rps.append : ∀ {ds es : List D} {vs ws : List V}, Rps T B ρ ds vs → Rps T B ρ es ws → Rps T B ρ (ds ++ es) (vs ++ ws)
  | _, _, _, _, .nil, s => s
  | _, _, _, _, .cons r t, s => .cons r (Rps.append t s)
theorem Rps.set {d : D} {v : V} (r : Rp T B ρ d v) : ∀ {ds : List D} {vs : List V} (i : Nat), Rps T B ρ ds vs → Rps T B ρ (ds.set i d) (vs.set i v)
  | _, _, _, .nil => .nil
  | _, _, 0, .cons _ t => .cons r t
  | _, _, i + 1, .cons q t => .cons q (Rps.set r i t)
theorem Rps.take : ∀ {ds : List D} {vs : List V} (n : Nat), Rps T B ρ ds vs → Rps T B ρ (ds.take n) (vs.take n)
  | _, _, 0, _ => .nil
  | _, _, _ + 1, .nil => .nil
  | _, _, n + 1, .cons r t => .cons r (Rps.take n t)
theorem Rps.drop : ∀ {ds : List D} {vs : List V} (n : Nat), Rps T B ρ ds vs → Rps T B ρ (ds.drop n) (vs.drop n)
  | _, _, 0, r => r
  | _, _, _ + 1, .nil => .nil
  | _, _, n + 1, .cons _ t => Rps.drop n t
theorem Rps.reverse : ∀ {ds : List D} {vs : List V}, Rps T B ρ ds vs → Rps T B ρ ds.reverse vs.reverse
  | _, _, .nil => .nil
  | _, _, .cons r t => by
    rw [List.reverse_cons, List.reverse_cons]
    exact Rps.append (Rps.reverse t) (.cons r .nil)
theorem Rps.ints : ∀ {ns : List Int} {vs : List V}, Rps T B ρ (ns.map D.int) vs → vs = ns.map V.int
  | [], _, .nil => rfl
  | _ :: _, _, .cons r t => by cases r; rw [Rps.ints t]; rfl
theorem Rps.of_ints : ∀ ns : List Int, Rps T B ρ (ns.map D.int) (ns.map V.int)
  | [] => .nil
  | n :: ns => .cons (.int n) (Rps.of_ints ns)
end

/-- what the store's object at a is -/
def ObjR (T : Wp) (B H : Hp) (ρ : List Addr) (a : Addr) : O → Prop
  | .lst ds => B a = none ∧ ∃ vs, H a = some (.lst vs) ∧ Rps T B ρ ds vs
  | .frz ds => ∃ vs, B a = some (.lst vs) ∧ Rps T B ρ ds vs
  | .ins c fs ds => B a = none ∧ ∃ dx vs, H a = some (.ins (T.cad c) dx (fs.zip vs)) ∧ Rps T B ρ ds vs ∧ fs.length = ds.length
  | .dK kvs => B a = none ∧ ∃ vs, H a = some (.dK ((kvs.map (·.1)).zip vs)) ∧ Rps T B ρ (kvs.map (·.2)) vs
  | .dT kvs => B a = none ∧ ∃ vs, H a = some (.dT ((kvs.map (·.1)).zip vs)) ∧ Rps T B ρ (kvs.map (·.2)) vs
/-- the abstract heap bears the store -/
structure RelS (T : Wp) (B H : Hp) (ρ : List Addr) (S : Sto) : Prop where
  sub : Le B H
  len : ρ.length = S.length
  nd : ρ.Nodup
  obj : ∀ n o, look S n = some o → ∃ a, look ρ n = some a ∧ ObjR T B H ρ a o
/-- growth: from (B, H, ρ) to (B', H', ρ') -/
structure Gr (B H : Hp) (ρ : List Addr) (B' H' : Hp) (ρ' : List Addr) : Prop where
  le : Le B B'
  suf : ∃ l, ρ' = l ++ ρ
  frm : ∀ a o, H a = some o → a ∉ ρ → H' a = some o
  new : ∀ a ∈ ρ', a ∈ ρ ∨ H a = none
  pri : ∀ a o, H a = some o → a ∉ ρ → B a = none → B' a = none
theorem Gr.refl {B H : Hp} {ρ : List Addr} : Gr B H ρ B H ρ := ⟨Le.refl _, ⟨[], rfl⟩, fun _ _ h _ => h, fun _ h => .inl h, fun _ _ _ _ h => h⟩
theorem Gr.lk {B H B' H' : Hp} {ρ ρ' : List Addr} (g : Gr B H ρ B' H' ρ') : ∀ n a, Z.look ρ n = some a → Z.look ρ' n = some a := fun n a h => by
  obtain ⟨l, e⟩ := g.suf
  rw [e]; exact look_app h l
theorem Gr.trans {B H B1 H1 B2 H2 : Hp} {ρ ρ1 ρ2 : List Addr} (a : Gr B H ρ B1 H1 ρ1) (b : Gr B1 H1 ρ1 B2 H2 ρ2) : Gr B H ρ B2 H2 ρ2 := by
  obtain ⟨l1, e1⟩ := a.suf
  obtain ⟨l2, e2⟩ := b.suf
  refine ⟨a.le.trans b.le, ⟨l2 ++ l1, by rw [e2, e1, List.append_assoc]⟩, fun c o h hn' => ?_, fun c hc => ?_, fun c o h hn' hb => ?_⟩
  · refine b.frm c o (a.frm c o h hn') fun hm => ?_
    rcases a.new c hm with hm | hm
    · exact hn' hm
    · rw [hm] at h; cases h
  · rcases b.new c hc with hc | hc
    · exact a.new c hc
    · by_cases hm : c ∈ ρ
      · exact .inl hm
      · cases q : H c with
        | none => exact .inr rfl
        | some o => rw [a.frm c o q hm] at hc; cases hc
  · refine b.pri c o (a.frm c o h hn') (fun hm => ?_) (a.pri c o h hn' hb)
    rcases a.new c hm with hm | hm
    · exact hn' hm
    · rw [hm] at h; cases h
section
variable {T : Wp} {B B' H H' : Hp} {ρ ρ' : List Addr} {S : Sto}
theorem Gr.rp (g : Gr B H ρ B' H' ρ') {d : D} {v : V} (r : Rp T B ρ d v) : Rp T B' ρ' d v := r.mono g.le g.lk
theorem Gr.rps (g : Gr B H ρ B' H' ρ') {ds : List D} {vs : List V} (r : Rps T B ρ ds vs) : Rps T B' ρ' ds vs := r.mono g.le g.lk
theorem RelS.sqT (R : RelS T B H ρ S) {a : Addr} {vs : List V} (h : TpAt T.K B a vs) : SqT T.K H a vs := R.sub.sqT h.sq
theorem RelS.sqL (R : RelS T B H ρ S) {a : Addr} {vs : List V} (h : SqL T.K B a vs) : SqL T.K H a vs := R.sub.sqL h
/-- an address of the store is free of B or frozen there -/
theorem RelS.ne (R : RelS T B H ρ S) {p : Addr} (hp : H p = none) : B p = none := by
  cases q : B p with
  | none => rfl
  | some o => rw [R.sub _ _ q] at hp; cases hp
theorem mem_look {α : Type} : ∀ {xs : List α} {x : α}, x ∈ xs → ∃ n, look xs n = some x
  | [], _, h => by cases h
  | y :: ys, x, h => by
    rcases List.mem_cons.mp h with e | h
    · exact ⟨ys.length, by rw [e]; exact look_top⟩
    · obtain ⟨n, hn⟩ := mem_look h
      exact ⟨n, look_cons hn⟩
theorem RelS.there (R : RelS T B H ρ S) {n : Nat} {a : Addr} (h : look ρ n = some a) : ∃ o, look S n = some o ∧ ObjR T B H ρ a o := by
  obtain ⟨o, ho⟩ := look_some (xs := S) (n := n) (by rw [← R.len]; exact look_lt h)
  obtain ⟨a', h1, h2⟩ := R.obj n o ho
  rw [h] at h1; cases h1
  exact ⟨o, ho, h2⟩
theorem ObjR.mono (hB : Le B B') (hρ : ∀ n a, look ρ n = some a → look ρ' n = some a) {a : Addr} {o : O} (hb : B a = none → B' a = none) (hh : ∀ u, H a = some u → H' a = some u) (h : ObjR T B H ρ a o) : ObjR T B' H' ρ' a o := by
  cases o with
  | lst ds => obtain ⟨h1, vs, h2, h3⟩ := h; exact ⟨hb h1, vs, hh _ h2, h3.mono hB hρ⟩
  | frz ds => obtain ⟨vs, h2, h3⟩ := h; exact ⟨vs, hB _ _ h2, h3.mono hB hρ⟩
  | ins c fs ds => obtain ⟨h1, dx, vs, h2, h3, h4⟩ := h; exact ⟨hb h1, dx, vs, hh _ h2, h3.mono hB hρ, h4⟩
  | dK kvs => obtain ⟨h1, vs, h2, h3⟩ := h; exact ⟨hb h1, vs, hh _ h2, h3.mono hB hρ⟩
  | dT kvs => obtain ⟨h1, vs, h2, h3⟩ := h; exact ⟨hb h1, vs, hh _ h2, h3.mono hB hρ⟩
/-- a new object that will not change: its address p -/
theorem RelS.fix (R : RelS T B H ρ S) {p : Addr} {o : HO} (hp : H p = none) (hr : p ∉ ρ) : RelS T (upd B p o) (upd H p o) ρ S := by
  have hb := R.ne hp
  refine ⟨fun a u e => ?_, R.len, R.nd, fun n u e => ?_⟩
  · by_cases h : a = p
    · subst h; rw [upd_same] at e ⊢; exact e
    · rw [upd_ne h] at e ⊢; exact R.sub _ _ e
  · obtain ⟨a, h1, h2⟩ := R.obj n u e
    have hne : a ≠ p := fun z => hr (z ▸ look_mem h1)
    exact ⟨a, h1, h2.mono (Le.upd hb) (fun _ _ h => h) (fun h => by rw [upd_ne hne]; exact h) fun w h => by rw [upd_ne hne]; exact h⟩
theorem ObjR.there {a : Addr} {o : O} (R : Le B H) (h : ObjR T B H ρ a o) : ∃ u, H a = some u := by
  cases o with
  | lst ds => obtain ⟨_, vs, h2, _⟩ := h; exact ⟨_, h2⟩
  | frz ds => obtain ⟨vs, h2, _⟩ := h; exact ⟨_, R _ _ h2⟩
  | ins c fs ds => obtain ⟨_, dx, vs, h2, _⟩ := h; exact ⟨_, h2⟩
  | dK kvs => obtain ⟨_, vs, h2, _⟩ := h; exact ⟨_, h2⟩
  | dT kvs => obtain ⟨_, vs, h2, _⟩ := h; exact ⟨_, h2⟩
theorem RelS.notin (R : RelS T B H ρ S) {p : Addr} (hp : H p = none) : p ∉ ρ := fun hm => by
  obtain ⟨n, hn⟩ := mem_look hm
  obtain ⟨o, _, h⟩ := R.there hn
  obtain ⟨u, e⟩ := h.there R.sub
  rw [hp] at e; cases e
theorem RelS.fix' (R : RelS T B H ρ S) {p : Addr} {o : HO} (hp : H p = none) : RelS T (upd B p o) (upd H p o) ρ S := R.fix hp (R.notin hp)
theorem Gr.fix {p : Addr} {o : HO} (hb : B p = none) (hp : H p = none) : Gr B H ρ (upd B p o) (upd H p o) ρ :=
  ⟨Le.upd hb, ⟨[], rfl⟩, fun a u h _ => by rw [upd_ne (ne_of_none h hp)]; exact h, fun _ h => .inl h, fun a u h _ q => by rw [upd_ne (ne_of_none h hp)]; exact q⟩
/-- a new mutable object -/
theorem RelS.mkR (R : RelS T B H ρ S) {p : Addr} {o : HO} {x : O} (hp : H p = none) (hx : ObjR T B (upd H p o) (p :: ρ) p x) : RelS T B (upd H p o) (p :: ρ) (x :: S) := by
  refine ⟨fun a u e => ?_, by simp only [List.length_cons, R.len], List.nodup_cons.mpr ⟨R.notin hp, R.nd⟩, fun n u e => ?_⟩
  · rw [upd_ne (ne_of_none (R.sub _ _ e) hp)]; exact R.sub _ _ e
  · unfold look at e
    split at e
    · rename_i h
      cases e
      exact ⟨p, by rw [h, ← R.len]; exact look_top, hx⟩
    · obtain ⟨a, h1, h2⟩ := R.obj n u e
      have hne : a ≠ p := fun z => R.notin hp (z ▸ look_mem h1)
      exact ⟨a, look_cons h1, h2.mono (Le.refl _) (fun _ _ h => look_cons h) id fun w h => by rw [upd_ne hne]; exact h⟩
theorem Gr.mkR {p : Addr} {o : HO} (hp : H p = none) : Gr B H ρ B (upd H p o) (p :: ρ) :=
  ⟨Le.refl _, ⟨[p], rfl⟩, fun a u h _ => by rw [upd_ne (ne_of_none h hp)]; exact h, fun a h => by
    rcases List.mem_cons.mp h with e | h
    · exact .inr (e ▸ hp)
    · exact .inl h, fun _ _ _ _ h => h⟩
/-- a mutable object is changed -/
theorem RelS.chg (R : RelS T B H ρ S) {n : Nat} {a : Addr} {o : HO} {x : O} (ha : look ρ n = some a) (hb : B a = none) (hx : ObjR T B (upd H a o) ρ a x) : RelS T B (upd H a o) ρ (put S n x) := by
  have hn : n < S.length := by rw [← R.len]; exact look_lt ha
  refine ⟨fun c u e => ?_, by rw [put_length]; exact R.len, R.nd, fun m u e => ?_⟩
  · have hne : c ≠ a := fun z => by rw [z, hb] at e; cases e
    rw [upd_ne hne]; exact R.sub _ _ e
  · by_cases h : m = n
    · subst h
      rw [look_put_same hn] at e; cases e
      exact ⟨a, ha, hx⟩
    · rw [look_put_ne h] at e
      obtain ⟨c, h1, h2⟩ := R.obj m u e
      have hne : c ≠ a := fun z => h (look_inj R.nd (z ▸ h1) ha)
      exact ⟨c, h1, h2.mono (Le.refl _) (fun _ _ h => h) id fun w h => by rw [upd_ne hne]; exact h⟩
theorem Gr.chg {n : Nat} {a : Addr} {o : HO} (ha : look ρ n = some a) : Gr B H ρ B (upd H a o) ρ :=
  ⟨Le.refl _, ⟨[], rfl⟩, fun c u h hc => by
    have ne : c ≠ a := fun z => hc (by rw [z]; exact look_mem ha)
    rw [upd_ne ne]; exact h, fun _ h => .inl h, fun _ _ _ _ h => h⟩
/-- a mutable object is frozen -/
theorem RelS.ice (R : RelS T B H ρ S) {n : Nat} {a : Addr} {o : HO} {x : O} (ha : look ρ n = some a) (hH : H a = some o) (hb : B a = none) (hx : ObjR T (upd B a o) H ρ a x) : RelS T (upd B a o) H ρ (put S n x) := by
  have hn : n < S.length := by rw [← R.len]; exact look_lt ha
  refine ⟨fun c u e => ?_, by rw [put_length]; exact R.len, R.nd, fun m u e => ?_⟩
  · by_cases h : c = a
    · subst h; rw [upd_same] at e; cases e; exact hH
    · rw [upd_ne h] at e; exact R.sub _ _ e
  · by_cases h : m = n
    · subst h
      rw [look_put_same hn] at e; cases e
      exact ⟨a, ha, hx⟩
    · rw [look_put_ne h] at e
      obtain ⟨c, h1, h2⟩ := R.obj m u e
      have hne : c ≠ a := fun z => h (look_inj R.nd (z ▸ h1) ha)
      exact ⟨c, h1, h2.mono (Le.upd hb) (fun _ _ h => h) (fun h => by rw [upd_ne hne]; exact h) fun w h => h⟩
theorem Gr.ice {a : Addr} {o : HO} (hb : B a = none) (hm : a ∈ ρ) : Gr B H ρ (upd B a o) H ρ := ⟨Le.upd hb, ⟨[], rfl⟩, fun _ _ h _ => h, fun _ h => .inl h, fun c u _ hn q => by
  have ne : c ≠ a := fun z => hn (by rw [z]; exact hm)
  rw [upd_ne ne]; exact q⟩
theorem Gr.pinT (g : Gr B H ρ B' H' ρ') {p : Addr} {o : HO} (hp : H p = none) (hb : B' p = none) : Gr B H ρ (upd B' p o) H' ρ' :=
  ⟨g.le.trans (Le.upd hb), g.suf, g.frm, g.new, fun a u h hn q => by rw [upd_ne (ne_of_none h hp)]; exact g.pri a u h hn q⟩
end
end Z

set_option Elab.async false
set_option linter.all false
set_option maxRecDepth 100000
set_option maxHeartbeats 4000000
/-! The Z layer, part B: answers, the judgements, operators. -/
namespace Z
open PySem PySem.Spec PyProof.Rows L2

/-- an answer: a value and the store behind it; an exception of class number c with its one field; no answer -/
inductive Res (α : Type) where
  | ok (a : α) (S : Sto) | exc (c : Nat) (x : D) (S : Sto) | bad
def Res.bind {α β : Type} (r : Res α) (f : α → Sto → Res β) : Res β := match r with
  | .ok a S => f a S
  | .exc c x S => .exc c x S
  | .bad => .bad
def Res.map {α β : Type} (f : α → β) (r : Res α) : Res β := match r with
  | .ok a S => .ok (f a) S
  | .exc c x S => .exc c x S
  | .bad => .bad
@[simp] theorem Res.bind_ok {α β : Type} (a : α) (S : Sto) (f : α → Sto → Res β) : (Res.ok a S).bind f = f a S := rfl
@[simp] theorem Res.bind_exc {α β : Type} (c : Nat) (x : D) (S : Sto) (f : α → Sto → Res β) : (Res.exc c x S).bind f = .exc c x S := rfl
@[simp] theorem Res.bind_bad {α β : Type} (f : α → Sto → Res β) : (Res.bad).bind f = .bad := rfl
@[simp] theorem Res.map_ok {α β : Type} (a : α) (S : Sto) (f : α → β) : (Res.ok a S).map f = .ok (f a) S := rfl
abbrev En := List (Option D)

/-- the slots hold the data -/
def EnvR (T : Wp) (B : Hp) (ρ : List Addr) (σ : L2.St) (env : En) : Prop := env.length = σ.length ∧ ∀ (i : Nat) (d : D), env[i]? = some (some d) → ∃ v : V, σ[i]? = some (some v) ∧ Rp T B ρ d v
theorem EnvR.gr {T : Wp} {B H B' H' : Hp} {ρ ρ' : List Addr} {σ : L2.St} {env : En} (e : EnvR T B ρ σ env) (g : Gr B H ρ B' H' ρ') : EnvR T B' ρ' σ env :=
  ⟨e.1, fun i d h => let ⟨v, h1, h2⟩ := e.2 i d h; ⟨v, h1, g.rp h2⟩⟩
theorem EnvR.set {T : Wp} {B : Hp} {ρ : List Addr} {σ : L2.St} {env : En} (e : EnvR T B ρ σ env) {i : Nat} {d : D} {v : V} (r : Rp T B ρ d v) : EnvR T B ρ (σ.set i (some v)) (env.set i (some d)) := by
  refine ⟨by simp only [List.length_set]; exact e.1, fun j d' h => ?_⟩
  by_cases hj : i = j
  · subst hj
    by_cases hl : i < env.length
    · rw [List.getElem?_set_self hl] at h
      have : d = d' := by simpa using h
      subst this
      exact ⟨v, List.getElem?_set_self (by rw [← e.1]; exact hl), r⟩
    · rw [List.getElem?_eq_none (by simpa using hl)] at h; cases h
  · rw [List.getElem?_set_ne hj] at h ⊢
    exact e.2 j d' h

/-- what is wanted holds of an answer -/
def OkG {α β : Type} (T : Wp) (W : WX) (σ : L2.St) (B H : Hp) (ρ : List Addr) (P : Hp → List Addr → α → β → Prop) (r : Res α) (Q : β → Hp → Prop) : Prop := match r with
  | .ok a S' => ∀ B' H' ρ' v, Gr B H ρ B' H' ρ' → RelS T B' H' ρ' S' → P B' ρ' a v → Q v H'
  | .exc c x S' => ∀ B' H' ρ' v dd, Gr B H ρ B' H' ρ' → RelS T B' H' ρ' S' → Rp T B' ρ' x v → H' dd = some (.xd [(T.exf c, v)]) → W (.ref (T.cad c)) (some dd) σ H'
  | .bad => False
abbrev OkE (T : Wp) (W : WX) (σ : L2.St) (B H : Hp) (ρ : List Addr) (r : Res D) (Q : VK) : Prop := OkG T W σ B H ρ (Rp T) r Q
abbrev OkA (T : Wp) (W : WX) (σ : L2.St) (B H : Hp) (ρ : List Addr) (r : Res (List D)) (Q : List V → Hp → Prop) : Prop := OkG T W σ B H ρ (Rps T) r Q
abbrev OkT (T : Wp) (W : WX) (σ : L2.St) (B H : Hp) (ρ : List Addr) (r : Res Bool) (Q : Bool → Hp → Prop) : Prop := OkG T W σ B H ρ (fun _ _ b c => b = c) r Q

/-- what the machine does, as a reading -/
def tS (X : Cx) (e : Expr) : TE := fun σ H Q => ∀ pins s, Inv X pins σ H s → wpAny (model X.prog X.w) X.A (eval e X.env) (EP X pins σ Q) X.xe s
theorem sPE {X : Cx} {e : Expr} : PE X e (tS X e) := ⟨fun pins s _ _ _ I h => h pins s I⟩
def tST (X : Cx) (e : Expr) : TT := fun σ H Q => ∀ pins s, Inv X pins σ H s → wpAny (model X.prog X.w) X.A (isTrue e X.env (eval e X.env)) (TP X pins σ Q) X.xe s
theorem sPT {X : Cx} {e : Expr} : PT X e (tST X e) := ⟨fun pins s _ _ _ I h => h pins s I⟩
def tSA (X : Cx) (es : List Expr) : TA := fun σ H Q => ∀ pos pins s, Inv X pins σ H s → wpAny (model X.prog X.w) X.A (spliced (backTo pos (starEach es X.env))) (AP X pins σ Q) X.xe s
theorem sPA {X : Cx} {es : List Expr} : PA X es (tSA X es) := ⟨fun pos pins s _ _ _ I h => h pos pins s I⟩
/-- an operator on values, as a reading -/
def rS2 (X : Cx) (f : Value → Value → Sem Value) : R2 := fun x y H Q => ∀ (pins : List (Addr × Obj)) (s : Shared) (σ : L2.St) (v u : Value), Inv X pins σ H s → RelV x v → RelV y u → wpAny (model X.prog X.w) X.A (f v u) (EP X pins σ Q) X.xe s
theorem sOp {X : Cx} {f : Value → Value → Sem Value} : OpR X f (rS2 X f) := fun pins s σ H x y v u Q I rx ry h => h pins s σ v u I rx ry
def rS1 (X : Cx) (f : Value → Sem Value) : V → Hp → VK → Prop := fun x H Q => ∀ (pins : List (Addr × Obj)) (s : Shared) (σ : L2.St) (v : Value), Inv X pins σ H s → RelV x v → wpAny (model X.prog X.w) X.A (f v) (EP X pins σ Q) X.xe s
theorem sUn {X : Cx} {f : Value → Sem Value} : UnR X f (rS1 X f) := fun pins s σ H x v Q I rx h => h pins s σ v I rx
def rSC (X : Cx) (f : Value) : List V → Hp → VK → Prop := fun xs H Q => ∀ (pins : List (Addr × Obj)) (s : Shared) (σ : L2.St) (us : List Value), Inv X pins σ H s → Vals xs us → wpAny (model X.prog X.w) X.A (call f us) (EP X pins σ Q) X.xe s
theorem sCall {X : Cx} {f : Value} : CallR X f (rSC X f) := fun pins s σ H xs us Q I r h => h pins s σ us I r
def rSI (X : Cx) : R2 := fun x y H Q => ∀ (value slice : Expr) (pins : List (Addr × Obj)) (s : Shared) (σ : L2.St) (v u : Value), Inv X pins σ H s → RelV x v → RelV y u →
  subscripted slice false v u = operate [v, u] (getItem v u) → wpAny (model X.prog X.w) X.A (subscriptTail value slice v u) (EP X pins σ Q) X.xe s
theorem sIx {X : Cx} : IxR X (rSI X) := fun value slice pins s σ H x y v u Q I rx ry h hs => h value slice pins s σ v u I rx ry hs

/-- an expression does what m says -/
def DE (X : Cx) (T : Wp) (W : WX) (e : Expr) (m : En → Sto → Res D) : Prop :=
  ∀ σ B H ρ S env Q, RelS T B H ρ S → EnvR T B ρ σ env → OkE T W σ B H ρ (m env S) Q → tS X e σ H Q
def DA (X : Cx) (T : Wp) (W : WX) (es : List Expr) (m : En → Sto → Res (List D)) : Prop :=
  ∀ σ B H ρ S env Q, RelS T B H ρ S → EnvR T B ρ σ env → OkA T W σ B H ρ (m env S) Q → tSA X es σ H Q
def DT (X : Cx) (T : Wp) (W : WX) (e : Expr) (m : En → Sto → Res Bool) : Prop :=
  ∀ σ B H ρ S env Q, RelS T B H ρ S → EnvR T B ρ σ env → OkT T W σ B H ρ (m env S) Q → tST X e σ H Q
/-- an operator on data -/
def DO (X : Cx) (T : Wp) (F : Value → Value → Sem Value) (f : D → D → Sto → Res D) : Prop :=
  ∀ σ B H ρ S d e x y Q, RelS T B H ρ S → Rp T B ρ d x → Rp T B ρ e y → OkE T (fun _ _ _ _ => False) σ B H ρ (f d e S) Q → rS2 X F x y H Q
def DU (X : Cx) (T : Wp) (F : Value → Sem Value) (f : D → Sto → Res D) : Prop :=
  ∀ σ B H ρ S d x Q, RelS T B H ρ S → Rp T B ρ d x → OkE T (fun _ _ _ _ => False) σ B H ρ (f d S) Q → rS1 X F x H Q
/-- a built-in's call on data -/
def DC (X : Cx) (T : Wp) (F : Value) (f : List D → Sto → Res D) : Prop :=
  ∀ σ B H ρ S ds xs Q, RelS T B H ρ S → Rps T B ρ ds xs → OkE T (fun _ _ _ _ => False) σ B H ρ (f ds S) Q → rSC X F xs H Q

section
variable {T : Wp} {W : WX} {σ : L2.St} {B H B' H' : Hp} {ρ ρ' : List Addr} {S S' : Sto} {α β γ δ : Type} {P : Hp → List Addr → α → γ → Prop} {P' : Hp → List Addr → β → δ → Prop}
/-- an answer, then a further one -/
theorem OkG.bind {r : Res α} {f : α → Sto → Res β} {Q : δ → Hp → Prop} (h : OkG T W σ B H ρ P' (r.bind f) Q) {R : γ → Hp → Prop}
    (k : ∀ a S1 B1 H1 ρ1 v, r = .ok a S1 → Gr B H ρ B1 H1 ρ1 → RelS T B1 H1 ρ1 S1 → P B1 ρ1 a v → OkG T W σ B1 H1 ρ1 P' (f a S1) Q → R v H1) : OkG T W σ B H ρ P r R := by
  cases r with
  | ok a S1 =>
    intro B1 H1 ρ1 v g R1 p
    refine k a S1 B1 H1 ρ1 v rfl g R1 p ?_
    have h' : OkG T W σ B H ρ P' (f a S1) Q := h
    cases e : f a S1 with
    | ok b S2 =>
      rw [e] at h'
      exact fun B2 H2 ρ2 w g2 R2 p2 => h' B2 H2 ρ2 w (g.trans g2) R2 p2
    | exc c x S2 =>
      rw [e] at h'
      exact fun B2 H2 ρ2 w dd g2 R2 p2 hd => h' B2 H2 ρ2 w dd (g.trans g2) R2 p2 hd
    | bad => rw [e] at h'; exact h'
  | exc c x S1 => exact h
  | bad => exact h
/-- no exception: any wish does -/
theorem OkG.wish {r : Res α} {Q : γ → Hp → Prop} (hr : ∀ c x S', r ≠ .exc c x S') (h : OkG T W σ B H ρ P r Q) {W' : WX} {σ' : L2.St} : OkG T W' σ' B H ρ P r Q := by
  cases r with
  | ok a S1 => exact h
  | exc c x S1 => exact absurd rfl (hr c x S1)
  | bad => exact h
theorem OkG.ok {a : α} {v : γ} {Q : γ → Hp → Prop} (h : OkG T W σ B H ρ P (.ok a S) Q) (R : RelS T B H ρ S) (p : P B ρ a v) : Q v H := h B H ρ v Gr.refl R p
end
/-- an operator raises nothing -/
def Calm {α : Type} (r : Res α) : Prop := ∀ c x S', r ≠ .exc c x S'
/-- exceptions are no answer -/
def Res.calm {α : Type} (r : Res α) : Res α := match r with
  | .exc _ _ _ => .bad
  | r => r
theorem OkG.calm {T : Wp} {W W' : WX} {σ σ' : L2.St} {B H : Hp} {ρ : List Addr} {α γ : Type} {P : Hp → List Addr → α → γ → Prop} {r : Res α} {Q : γ → Hp → Prop} (h : OkG T W σ B H ρ P r.calm Q) : OkG T W' σ' B H ρ P r Q := by
  cases r with
  | ok a S => exact h
  | exc c x S => exact h.elim
  | bad => exact h

section
variable {X : Cx} {T : Wp} {W : WX} {a b c : Expr} {pos : Pos} {ma mb mc : En → Sto → Res D}
/-! ### operators -/
def mBin (f : D → D → Sto → Res D) (ma mb : En → Sto → Res D) : En → Sto → Res D := fun env S => (ma env S).bind fun d S1 => (mb env S1).bind fun e S2 => (f d e S2).calm
theorem two (ha : DE X T W a ma) (hb : DE X T W b mb) {F : Value → Value → Sem Value} {f : D → D → Sto → Res D} (hf : DO X T F f) {σ B H ρ S env Q} (R : RelS T B H ρ S) (E : EnvR T B ρ σ env) (h : OkE T W σ B H ρ (mBin f ma mb env S) Q) :
    tOp (rS2 X F) (tS X a) (tS X b) σ H Q := by
  refine ha σ B H ρ S env _ R E (OkG.bind (P := Rp T) h fun d S1 B1 H1 ρ1 x _ g1 R1 p1 h1 => ?_)
  refine hb σ B1 H1 ρ1 S1 env _ R1 (E.gr g1) (OkG.bind (P := Rp T) h1 fun e S2 B2 H2 ρ2 y _ g2 R2 p2 h2 => ?_)
  exact hf σ B2 H2 ρ2 S2 d e x y Q R2 (g2.rp p1) p2 h2.calm
theorem de_bin {op : Operator} {f : D → D → Sto → Res D} (hf : DO X T (binaryOp op) f) (ha : DE X T W a ma) (hb : DE X T W b mb) : DE X T W (.BinOp a op b pos) (mBin f ma mb) :=
  fun σ B H ρ S env Q R E h pins s I => (pe_op sOp sPE sPE).run pins s σ H Q I (two ha hb hf R E h)
theorem de_cmp {op : CmpOp} {f : D → D → Sto → Res D} (hm : behindInMarks op b = false) (hf : DO X T (compareOp op) f) (ha : DE X T W a ma) (hb : DE X T W b mb) : DE X T W (.Compare a [op] [b] pos) (mBin f ma mb) :=
  fun σ B H ρ S env Q R E h pins s I => (pe_cmpR sOp sPE sPE hm).run pins s σ H Q I (two ha hb hf R E h)
/-- a value that is True or False -/
def asB (m : En → Sto → Res D) : En → Sto → Res Bool := fun env S => (m env S).bind fun d S1 => match d with
  | .bl k => .ok k S1
  | _ => .bad
theorem dt_test {e : Expr} {m : En → Sto → Res D} {t : TE} (ht : ∀ {Q : Bool → Hp → Prop}, ∀ pins s σ H, Inv X pins σ H s → tTest (tS X e) σ H Q → wpAny (model X.prog X.w) X.A (isTrue e X.env (eval e X.env)) (TP X pins σ Q) X.xe s)
    (he : DE X T W e m) : DT X T W e (asB m) := by
  intro σ B H ρ S env Q R E h pins s I
  refine ht pins s σ H I ?_
  refine he σ B H ρ S env _ R E (OkG.bind (P := Rp T) h fun d S1 B1 H1 ρ1 x _ g1 R1 p1 h1 => ?_)
  cases p1 with
  | bl k => exact ⟨k, rfl, h1.ok R1 rfl⟩
  | _ => exact h1.elim
end
end Z

set_option Elab.async false
set_option linter.all false
set_option maxRecDepth 100000
set_option maxHeartbeats 4000000
/-! The Z layer, part C: the operators on data. -/
namespace Z
open PySem PySem.Spec PyProof.Rows L2

/-- a list that can be read -/
def asL (S : Sto) : D → Option (List D)
  | .lst ds => some ds
  | .ref n => match look S n with
    | some (.lst ds) => some ds
    | some (.frz ds) => some ds
    | _ => none
  | _ => none
section
variable {T : Wp} {B H B' H' : Hp} {ρ ρ' : List Addr} {S S' : Sto}
theorem asL_rp {d : D} {v : V} {ds : List D} (R : RelS T B H ρ S) (r : Rp T B ρ d v) (h : asL S d = some ds) : ∃ a vs, v = .ref a ∧ H a = some (.lst vs) ∧ Rps T B ρ ds vs := by
  cases r with
  | lst hb hr =>
    have : _ = ds := Option.some.inj h
    subst this
    exact ⟨_, _, rfl, R.sub _ _ hb, hr⟩
  | ref hl =>
    obtain ⟨o, ho, hx⟩ := R.there hl
    have h' : (match look S _ with | some (.lst ds) => some ds | some (.frz ds) => some ds | _ => none) = some ds := h
    rw [ho] at h'
    cases o with
    | lst es =>
      have : es = ds := Option.some.inj h'
      subst this
      obtain ⟨_, vs, h2, h3⟩ := hx
      exact ⟨_, vs, rfl, h2, h3⟩
    | frz es =>
      have : es = ds := Option.some.inj h'
      subst this
      obtain ⟨vs, h2, h3⟩ := hx
      exact ⟨_, vs, rfl, R.sub _ _ h2, h3⟩
    | ins c fs ds => cases h'
    | dK kvs => cases h'
    | dT kvs => cases h'
  | _ => cases h

/-! ### plain data, compared -/
mutual
def py : D → Option PyData
  | .non => some .none
  | .bl b => some (.bool b)
  | .int i => some (.int i)
  | .str x => some (.str x)
  | .tup ds => (pys ds).map .tuple
  | .lst ds => (pys ds).map .list
  | _ => none
def pys : List D → Option (List PyData)
  | [] => some []
  | d :: ds => match py d, pys ds with
    | some p, some ps => some (p :: ps)
    | _, _ => none
end
mutual
theorem rp_dp (hB : Le B H) : ∀ {d : D} {v : V} {p : PyData}, Rp T B ρ d v → py d = some p → Dp T.K H v p
  | _, _, p, .non, h => by
    have : PyData.none = p := Option.some.inj (by simpa only [py] using h)
    subst this; exact .non
  | _, _, p, .bl b, h => by
    have : PyData.bool b = p := Option.some.inj (by simpa only [py] using h)
    subst this; exact .bl b
  | _, _, p, .int i, h => by
    have : PyData.int i = p := Option.some.inj (by simpa only [py] using h)
    subst this; exact .int i
  | _, _, p, .str x, h => by
    have : PyData.str x = p := Option.some.inj (by simpa only [py] using h)
    subst this; exact .str x
  | _, _, p, .tup (ds := ds) hb hr, h => by
    simp only [py] at h
    cases e : pys ds with
    | none => rw [e] at h; cases h
    | some ps =>
      rw [e] at h
      have : PyData.tuple ps = p := Option.some.inj h
      subst this
      exact .tup (hB.sqT hb.sq) (rps_dp hB hr e)
  | _, _, p, .lst (ds := ds) hb hr, h => by
    simp only [py] at h
    cases e : pys ds with
    | none => rw [e] at h; cases h
    | some ps =>
      rw [e] at h
      have : PyData.list ps = p := Option.some.inj h
      subst this
      exact .lst (SqL.of (hB _ _ hb)) (rps_dp hB hr e)
  | _, _, p, .scr _ _, h => by simp only [py] at h; cases h
  | _, _, p, .ins _ _ _, h => by simp only [py] at h; cases h
  | _, _, p, .ref _, h => by simp only [py] at h; cases h
  | _, _, p, .cls _, h => by simp only [py] at h; cases h
  | _, _, p, .ty _, h => by simp only [py] at h; cases h
theorem rps_dp (hB : Le B H) : ∀ {ds : List D} {vs : List V} {ps : List PyData}, Rps T B ρ ds vs → pys ds = some ps → DpAll T.K H vs ps
  | _, _, ps, .nil, h => by
    have : [] = ps := Option.some.inj (by simpa only [pys] using h)
    subst this; exact .nil
  | _, _, ps, .cons (d := d) (ds := ds) r t, h => by
    simp only [pys] at h
    cases e1 : py d with
    | none => rw [e1] at h; cases h
    | some p =>
      cases e2 : pys ds with
      | none => rw [e1, e2] at h; cases h
      | some qs =>
        rw [e1, e2] at h
        have : p :: qs = ps := Option.some.inj h
        subst this
        exact .cons (rp_dp hB r e1) (rps_dp hB t e2)
end
def pyS (S : Sto) (d : D) : Option PyData := match d with
  | .ref n => match asL S (.ref n) with
    | some ds => (pys ds).map .list
    | none => none
  | d => py d
theorem pyS_dp {d : D} {v : V} {p : PyData} (R : RelS T B H ρ S) (r : Rp T B ρ d v) (h : pyS S d = some p) : Dp T.K H v p := by
  cases d with
  | ref n =>
    simp only [pyS] at h
    cases e : asL S (.ref n) with
    | none => rw [e] at h; cases h
    | some ds =>
      rw [e] at h
      obtain ⟨a, vs, rfl, h1, h2⟩ := asL_rp R r e
      cases e2 : pys ds with
      | none => simp only [e2] at h; cases h
      | some ps =>
        simp only [e2] at h
        have : PyData.list ps = p := Option.some.inj h
        subst this
        exact .lst (SqL.of h1) (rps_dp R.sub h2 e2)
  | _ => exact rp_dp R.sub r h

/-! ### new objects as values -/
variable {W : WX} {σ : L2.St} {Q : VK}
theorem ok_fix {ds : List D} {vs : List V} {d : D} {o : HO} (h : OkE T W σ B H ρ (.ok d S) Q) (R : RelS T B H ρ S)
    (hd : ∀ p, H p = none → Rp T (upd B p o) ρ d (.ref p)) : ∀ p, H p = none → Q (.ref p) (upd H p o) := fun p hp =>
  h _ _ _ _ (Gr.fix (R.ne hp) hp) (R.fix' hp) (hd p hp)
theorem ok_tup {ds : List D} {vs : List V} (h : OkE T W σ B H ρ (.ok (.tup ds) S) Q) (R : RelS T B H ρ S) (r : Rps T B ρ ds vs) : ∀ p, H p = none → Q (.ref p) (upd H p (.tup vs)) :=
  ok_fix (ds := ds) (vs := vs) h R fun p hp => .tup (.inl upd_same) (r.mono (Le.upd (R.ne hp)) fun _ _ h => h)
theorem ok_lst {ds : List D} {vs : List V} (h : OkE T W σ B H ρ (.ok (.lst ds) S) Q) (R : RelS T B H ρ S) (r : Rps T B ρ ds vs) : ∀ p, H p = none → Q (.ref p) (upd H p (.lst vs)) :=
  ok_fix (ds := ds) (vs := vs) h R fun p hp => .lst upd_same (r.mono (Le.upd (R.ne hp)) fun _ _ h => h)
end

/-! ### operators -/
def catD (d e : D) (S : Sto) : Res D := match asL S d, asL S e with
  | some ds, some es => if ds.length + es.length ≤ sizeLine then .ok (.lst (ds ++ es)) S else .bad
  | _, _ => .bad
def addD (d e : D) (S : Sto) : Res D := match d, e with
  | .int i, .int j => .ok (.int (i + j)) S
  | .str x, .str y => if x.length + y.length ≤ sizeLine then .ok (.str (x ++ y)) S else .bad
  | .tup ds, .tup es => if ds.length + es.length ≤ sizeLine then .ok (.tup (ds ++ es)) S else .bad
  | d, e => catD d e S
def subD (d e : D) (S : Sto) : Res D := match d, e with
  | .int i, .int j => .ok (.int (i - j)) S
  | _, _ => .bad
/-- a text n times -/
def repS (n : Nat) (x : Str) : Str := ⟨(List.replicate n x.cps).foldl (· ++ ·) #[]⟩
def mulD (d e : D) (S : Sto) : Res D := match d, e with
  | .int i, .int j => if i.natAbs.log2 + j.natAbs.log2 < 1000000 then .ok (.int (i * j)) S else .bad
  | .str x, .int n => if 0 ≤ n ∧ n ≤ 100000 ∧ x.length ≤ 100 then .ok (.str (repS n.toNat x)) S else .bad
  | _, _ => .bad
def divD (d e : D) (S : Sto) : Res D := match d, e with
  | .int i, .int j => if 0 < j ∧ j.natAbs.log2 < 9000 then .ok (.int (i / j)) S else .bad
  | _, _ => .bad
def modD (d e : D) (S : Sto) : Res D := match d, e with
  | .int i, .int j => if 0 < j then .ok (.int (i % j)) S else .bad
  | _, _ => .bad
def powD (d e : D) (S : Sto) : Res D := match d, e with
  | .int i, .int j => if 0 ≤ j ∧ j ≤ 1000000 ∧ i.natAbs < 2 ^ 64 then .ok (.int (i ^ j.toNat)) S else .bad
  | _, _ => .bad
def negD (d : D) (S : Sto) : Res D := match d with
  | .int i => .ok (.int (-i)) S
  | _ => .bad
def eqG (d e : D) (S : Sto) : Res D := match pyS S d, pyS S e with
  | some p, some q => if SeqAt.shaped p = true ∧ SeqAt.shaped q = true then .ok (.bl (PyData.eqv p q)) S else .bad
  | _, _ => .bad
def neG (d e : D) (S : Sto) : Res D := match pyS S d, pyS S e with
  | some p, some q => if SeqAt.shaped p = true ∧ SeqAt.shaped q = true then .ok (.bl (!PyData.eqv p q)) S else .bad
  | _, _ => .bad
def strD2 : D → Option Str
  | .str x => some x
  | _ => none
theorem strD2_ok {d : D} {x : Str} (h : strD2 d = some x) : d = .str x := by
  cases d <;> first | cases h | skip
  rfl
def eqD (d e : D) (S : Sto) : Res D := match strD2 d, strD2 e with
  | some x, some y => .ok (.bl (decide (x = y))) S
  | _, _ => eqG d e S
def neD (d e : D) (S : Sto) : Res D := match strD2 d, strD2 e with
  | some x, some y => .ok (.bl (!decide (x = y))) S
  | _, _ => neG d e S
def ltD (d e : D) (S : Sto) : Res D := match d, e with
  | .int i, .int j => .ok (.bl (decide (i < j))) S
  | .str x, .str y => .ok (.bl (decide (x.cps.toList < y.cps.toList))) S
  | _, _ => .bad
def leD (d e : D) (S : Sto) : Res D := match d, e with
  | .int i, .int j => .ok (.bl (decide (i ≤ j))) S
  | _, _ => .bad
def gtD (d e : D) (S : Sto) : Res D := match d, e with
  | .int i, .int j => .ok (.bl (decide (j < i))) S
  | _, _ => .bad
def geD (d e : D) (S : Sto) : Res D := match d, e with
  | .int i, .int j => .ok (.bl (decide (j ≤ i))) S
  | _, _ => .bad
def isD (d e : D) (S : Sto) : Res D := match e with
  | .non => (match d with
    | .non => .ok (.bl true) S
    | .exn _ _ => .bad
    | .nim => .bad
    | _ => .ok (.bl false) S)
  | .bl b => (match d with
    | .bl a => .ok (.bl (decide (a = b))) S
    | .int _ => .ok (.bl false) S
    | .str _ => .ok (.bl false) S
    | .tup _ => .ok (.bl false) S
    | _ => .bad)
  | _ => .bad
def notD (r : Res D) : Res D := match r with
  | .ok (.bl b) S => .ok (.bl (!b)) S
  | _ => .bad
def isntD (d e : D) (S : Sto) : Res D := notD (isD d e S)

section
variable {X : Cx} {T : Wp}
theorem do_cat : DO X T (binaryOp .Add) catD := by
  intro σ B H ρ S d e x y Q R rd re h pins s σ' v u I rx ry
  unfold catD at h
  cases e1 : asL S d with
  | none => rw [e1] at h; exact h.elim
  | some ds =>
    cases e2 : asL S e with
    | none => rw [e1, e2] at h; exact h.elim
    | some es =>
      rw [e1, e2] at h
      dsimp only at h
      split at h
      · rename_i hl
        obtain ⟨a, xs, rfl, h1, r1⟩ := asL_rp R rd e1
        obtain ⟨b, ys, rfl, h2, r2⟩ := asL_rp R re e2
        exact op_cat pins s σ' H _ _ v u Q I rx ry ⟨a, b, xs, ys, rfl, rfl, h1, h2, by rw [← r1.length, ← r2.length]; exact hl, ok_lst h R (r1.append r2)⟩
      · exact h.elim
theorem do_add (hK : X.K = T.K) : DO X T (binaryOp .Add) addD := by
  intro σ B H ρ S d e x y Q R rd re h
  have other : OkE T (fun _ _ _ _ => False) σ B H ρ (catD d e S) Q → rS2 X (binaryOp .Add) x y H Q := fun h => do_cat σ B H ρ S d e x y Q R rd re h
  cases rd with
  | int i =>
    cases re with
    | int j => exact fun pins s σ' v u I rx ry => op_add pins s σ' H _ _ v u Q I rx ry ⟨i, j, rfl, rfl, h.ok R (.int _)⟩
    | _ => exact other h
  | str i =>
    cases re with
    | str j =>
      simp only [addD] at h
      split at h
      · rename_i hl
        exact fun pins s σ' v u I rx ry => op_add_str pins s σ' H _ _ v u Q I rx ry ⟨i, j, rfl, rfl, hl, h.ok R (.str _)⟩
      · exact h.elim
    | _ => exact other h
  | tup h1 r1 =>
    cases re with
    | tup h2 r2 =>
      rename_i a ds vs b es ws
      simp only [addD] at h
      split at h
      · rename_i hl
        refine fun pins s σ' v u I rx ry => op_catA pins s σ' H _ _ v u Q I rx ry ?_
        rw [hK]
        refine ⟨_, _, _, _, rfl, rfl, R.sqT h1, R.sqT h2, by rw [← r1.length, ← r2.length]; exact hl, fun e => ?_, fun _ e => ?_, fun _ _ => ok_tup h R (r1.append r2)⟩
        · subst e
          cases r1
          exact h.ok R (.tup h2 r2)
        · subst e
          cases r2
          rw [List.append_nil] at h
          exact h.ok R (.tup h1 r1)
      · exact h.elim
    | _ => exact other h
  | _ => exact other h
theorem do_sub : DO X T (binaryOp .Sub) subD := by
  intro σ B H ρ S d e x y Q R rd re h
  cases rd with
  | int i =>
    cases re with
    | int j => exact fun pins s σ' v u I rx ry => op_sub pins s σ' H _ _ v u Q I rx ry ⟨i, j, rfl, rfl, h.ok R (.int _)⟩
    | _ => exact h.elim
  | _ => exact h.elim
theorem do_mul : DO X T (binaryOp .Mult) mulD := by
  intro σ B H ρ S d e x y Q R rd re h
  cases rd with
  | int i =>
    cases re with
    | int j =>
      simp only [mulD] at h
      split at h
      · rename_i c
        exact fun pins s σ' v u I rx ry => op_mulW pins s σ' H _ _ v u Q I rx ry ⟨i, j, rfl, rfl, c, h.ok R (.int _)⟩
      · exact h.elim
    | _ => exact h.elim
  | str x =>
    cases re with
    | int n =>
      simp only [mulD] at h
      split at h
      · rename_i c
        obtain ⟨c0, c1, c2⟩ := c
        intro pins s σ' v u I rx ry
        obtain ⟨t, rfl⟩ := rx
        obtain ⟨t', rfl⟩ := ry
        have hq : Q (.str (repS n.toNat x)) H := h.ok R (.str _)
        have hsz : x.length * n.toNat ≤ 10000000 := by
          have : x.length * n.toNat ≤ 100 * 100000 := Nat.mul_le_mul c2 (by omega)
          omega
        have htl : Builtin.Str.tooLong (x.length * n.toNat) = false := by
          unfold Builtin.Str.tooLong
          first
          | exact decide_eq_false (by rw [sizeLine_eq]; omega)
          | (simp only [sizeLine_eq]; omega)
          | (simp; omega)
        refine P.mul_str (by rw [decide_eq_false (by omega), decide_eq_false (by omega)]; rfl) (fun h1 _ hgt => ?_) (fun _ _ => htl) ?_
        · have h3 : (100 : Int) ≤ (2 ^ 63 - 1) / n := by
            rw [Int.le_ediv_iff_mul_le (by omega)]
            omega
          have h4 : (x.length : Int) ≤ 100 := by exact_mod_cast c2
          omega
        · have fin : ∀ (t' : Tok) (k : Nat), EP X pins σ' Q (.str (repS n.toNat x) t') { s with toks := k } := fun t' k => ⟨.str _, H, I.tok k, ⟨t', rfl⟩, hq⟩
          have fin0 : ∀ (t' : Tok), EP X pins σ' Q (.str (repS n.toNat x) t') s := fun t' => ⟨.str _, H, I, ⟨t', rfl⟩, hq⟩
          by_cases h1 : n < 1
          · rw [if_pos h1]
            have e0 : repS n.toNat x = Str.empty := by
              have : n.toNat = 0 := by omega
              rw [this]; rfl
            rw [e0] at fin
            exact ⟨by decide, fin _ _⟩
          · rw [if_neg h1]
            by_cases h2 : (n == 1 || x.length == 0) = true
            · rw [if_pos h2]
              have e0 : repS n.toNat x = x := by
                rw [Bool.or_eq_true] at h2
                rcases h2 with h2 | h2
                · have : n.toNat = 1 := by have := eq_of_beq h2; omega
                  rw [this]
                  apply Str.ext'
                  show #[] ++ x.cps = x.cps
                  simp
                · have h5 : x.length = 0 := eq_of_beq h2
                  have h6 : x.cps = #[] := Array.eq_empty_of_size_eq_zero h5
                  apply Str.ext'
                  show (List.replicate n.toNat x.cps).foldl (· ++ ·) #[] = x.cps
                  rw [h6]
                  have : ∀ m : Nat, (List.replicate m (#[] : Array Nat)).foldl (· ++ ·) #[] = #[] := fun m => by
                    induction m with
                    | zero => rfl
                    | succ m ih => rw [List.replicate_succ, List.foldl_cons, Array.append_empty]; exact ih
                  exact this _
              rw [e0] at fin0
              exact fin0 t
            · rw [if_neg h2]
              refine ⟨?_, fin _ _⟩
              show (repS n.toNat x).length ≤ sizeLine
              have : (repS n.toNat x).length = x.length * n.toNat := by
                show ((List.replicate n.toNat x.cps).foldl (· ++ ·) #[]).size = _
                have : ∀ (m : Nat) (acc : Array Nat), ((List.replicate m x.cps).foldl (· ++ ·) acc).size = acc.size + x.cps.size * m := fun m => by
                  induction m with
                  | zero => intro acc; simp
                  | succ m ih => intro acc; rw [List.replicate_succ, List.foldl_cons, ih, Array.size_append, Nat.mul_succ]; omega
                rw [this]
                show 0 + x.cps.size * n.toNat = x.cps.size * n.toNat
                omega
              rw [this, sizeLine_eq]; omega
      · exact h.elim
    | _ => exact h.elim
  | _ => exact h.elim
theorem do_div : DO X T (binaryOp .FloorDiv) divD := by
  intro σ B H ρ S d e x y Q R rd re h
  cases rd with
  | int i =>
    cases re with
    | int j =>
      simp only [divD] at h
      split at h
      · rename_i c
        exact fun pins s σ' v u I rx ry => op_fdivW pins s σ' H _ _ v u Q I rx ry ⟨i, j, rfl, rfl, c, h.ok R (.int _)⟩
      · exact h.elim
    | _ => exact h.elim
  | _ => exact h.elim
theorem do_mod : DO X T (binaryOp .Mod) modD := by
  intro σ B H ρ S d e x y Q R rd re h
  cases rd with
  | int i =>
    cases re with
    | int j =>
      simp only [modD] at h
      split at h
      · rename_i c
        exact fun pins s σ' v u I rx ry => op_mod pins s σ' H _ _ v u Q I rx ry ⟨i, j, rfl, rfl, c, h.ok R (.int _)⟩
      · exact h.elim
    | _ => exact h.elim
  | _ => exact h.elim
theorem do_pow : DO X T (binaryOp .Pow) powD := by
  intro σ B H ρ S d e x y Q R rd re h
  cases rd with
  | int i =>
    cases re with
    | int j =>
      simp only [powD] at h
      split at h
      · rename_i c
        exact fun pins s σ' v u I rx ry => op_pow pins s σ' H _ _ v u Q I rx ry ⟨i, j, rfl, rfl, c, h.ok R (.int _)⟩
      · exact h.elim
    | _ => exact h.elim
  | _ => exact h.elim
theorem du_neg : DU X T (unaryOp .USub) negD := by
  intro σ B H ρ S d x Q R rd h
  cases rd with
  | int i => exact fun pins s σ' v I rx => un_neg pins s σ' H _ v Q I rx ⟨i, rfl, h.ok R (.int _)⟩
  | _ => exact h.elim
theorem do_eqG (hK : X.K = T.K) (hu : X.A.units + 64 < cLine) : DO X T (compareOp .Eq) eqG := by
  intro σ B H ρ S d e x y Q R rd re h
  unfold eqG at h
  cases e1 : pyS S d with
  | none => rw [e1] at h; exact h.elim
  | some p =>
    cases e2 : pyS S e with
    | none => rw [e1, e2] at h; exact h.elim
    | some q =>
      rw [e1, e2] at h
      dsimp only at h
      split at h
      · rename_i c
        refine fun pins s σ' v u I rx ry => op_eqD hu pins s σ' H _ _ v u Q I rx ry ⟨p, q, ?_, ?_, c.1, c.2, h.ok R (.bl _)⟩
        · rw [hK]; exact pyS_dp R rd e1
        · rw [hK]; exact pyS_dp R re e2
      · exact h.elim
theorem do_neG (hK : X.K = T.K) (hu : X.A.units + 64 < cLine) : DO X T (compareOp .NotEq) neG := by
  intro σ B H ρ S d e x y Q R rd re h
  unfold neG at h
  cases e1 : pyS S d with
  | none => rw [e1] at h; exact h.elim
  | some p =>
    cases e2 : pyS S e with
    | none => rw [e1, e2] at h; exact h.elim
    | some q =>
      rw [e1, e2] at h
      dsimp only at h
      split at h
      · rename_i c
        refine fun pins s σ' v u I rx ry => op_neD hu pins s σ' H _ _ v u Q I rx ry ⟨p, q, ?_, ?_, c.1, c.2, h.ok R (.bl _)⟩
        · rw [hK]; exact pyS_dp R rd e1
        · rw [hK]; exact pyS_dp R re e2
      · exact h.elim
theorem dec_str {x y : Str} : decide (V.str x = V.str y) = decide (x = y) := by
  by_cases h : x = y
  · subst h; simp
  · rw [decide_eq_false h, decide_eq_false]
    intro e; exact h (V.str.inj e)
theorem do_eq (hK : X.K = T.K) (hu : X.A.units + 64 < cLine) : DO X T (compareOp .Eq) eqD := by
  intro σ B H ρ S d e x y Q R rd re h
  unfold eqD at h
  split at h
  · rename_i a b e1 e2
    have e1 := strD2_ok e1
    have e2 := strD2_ok e2
    subst e1 e2
    cases rd
    cases re
    have hq : Q (.bl (decide (a = b))) H := h.ok R (.bl _)
    exact fun pins s σ' v u I rx ry => op_eq pins s σ' H _ _ v u Q I rx ry ⟨rfl, by rw [dec_str]; exact hq⟩
  · exact do_eqG hK hu σ B H ρ S d e x y Q R rd re h
theorem do_ne (hK : X.K = T.K) (hu : X.A.units + 64 < cLine) : DO X T (compareOp .NotEq) neD := by
  intro σ B H ρ S d e x y Q R rd re h
  unfold neD at h
  split at h
  · rename_i a b e1 e2
    have e1 := strD2_ok e1
    have e2 := strD2_ok e2
    subst e1 e2
    cases rd
    cases re
    have hq : Q (.bl (!decide (a = b))) H := h.ok R (.bl _)
    exact fun pins s σ' v u I rx ry => op_ne pins s σ' H _ _ v u Q I rx ry ⟨rfl, by rw [dec_str]; exact hq⟩
  · exact do_neG hK hu σ B H ρ S d e x y Q R rd re h
theorem do_lt : DO X T (compareOp .Lt) ltD := by
  intro σ B H ρ S d e x y Q R rd re h
  cases rd with
  | int i =>
    cases re with
    | int j => exact fun pins s σ' v u I rx ry => op_lt pins s σ' H _ _ v u Q I rx ry ⟨i, j, rfl, rfl, h.ok R (.bl _)⟩
    | _ => exact h.elim
  | str i =>
    cases re with
    | str j => exact fun pins s σ' v u I rx ry => op_lt_str pins s σ' H _ _ v u Q I rx ry ⟨i, j, rfl, rfl, h.ok R (.bl _)⟩
    | _ => exact h.elim
  | _ => exact h.elim
theorem do_le : DO X T (compareOp .LtE) leD := by
  intro σ B H ρ S d e x y Q R rd re h
  cases rd with
  | int i =>
    cases re with
    | int j => exact fun pins s σ' v u I rx ry => op_le pins s σ' H _ _ v u Q I rx ry ⟨i, j, rfl, rfl, h.ok R (.bl _)⟩
    | _ => exact h.elim
  | _ => exact h.elim
theorem do_gt : DO X T (compareOp .Gt) gtD := by
  intro σ B H ρ S d e x y Q R rd re h
  cases rd with
  | int i =>
    cases re with
    | int j => exact fun pins s σ' v u I rx ry => op_gt pins s σ' H _ _ v u Q I rx ry ⟨i, j, rfl, rfl, h.ok R (.bl _)⟩
    | _ => exact h.elim
  | _ => exact h.elim
theorem do_ge : DO X T (compareOp .GtE) geD := by
  intro σ B H ρ S d e x y Q R rd re h
  cases rd with
  | int i =>
    cases re with
    | int j => exact fun pins s σ' v u I rx ry => op_ge pins s σ' H _ _ v u Q I rx ry ⟨i, j, rfl, rfl, h.ok R (.bl _)⟩
    | _ => exact h.elim
  | _ => exact h.elim
theorem do_is : DO X T (compareOp .Is) isD := by
  intro σ B H ρ S d e x y Q R rd re h
  cases re with
  | non =>
    refine fun pins s σ' v u I rx ry => op_isN pins s σ' H _ _ v u Q I rx ry ⟨rfl, ?_⟩
    cases rd with
    | non => exact h.ok R (.bl _)
    | bl _ => exact h.ok R (.bl _)
    | int _ => exact h.ok R (.bl _)
    | str _ => exact h.ok R (.bl _)
    | tup _ _ => exact h.ok R (.bl _)
    | lst _ _ => exact h.ok R (.bl _)
    | scr _ _ => exact h.ok R (.bl _)
    | ins _ _ _ => exact h.ok R (.bl _)
    | ref _ => exact h.ok R (.bl _)
    | cls _ => exact h.ok R (.bl _)
    | ty _ => exact h.ok R (.bl _)
  | bl b =>
    cases rd with
    | bl a => exact fun pins s σ' v u I rx ry => op_is_bl pins s σ' H _ _ v u Q I rx ry ⟨a, b, rfl, rfl, h.ok R (.bl _)⟩
    | int i =>
      have hq : Q (.bl false) H := h.ok R (.bl _)
      intro pins s σ' v u I rx ry
      obtain ⟨t, rfl⟩ := rx
      cases (show u = Value.bool b from ry)
      exact wpAny_is_other rfl (fun z => nomatch z) ⟨.bl false, H, I, rfl, hq⟩
    | str x =>
      have hq : Q (.bl false) H := h.ok R (.bl _)
      intro pins s σ' v u I rx ry
      obtain ⟨t, rfl⟩ := rx
      cases (show u = Value.bool b from ry)
      exact wpAny_is_other rfl (fun z => nomatch z) ⟨.bl false, H, I, rfl, hq⟩
    | tup _ _ =>
      have hq : Q (.bl false) H := h.ok R (.bl _)
      intro pins s σ' v u I rx ry
      cases rx
      cases (show u = Value.bool b from ry)
      exact wpAny_is_other rfl (fun z => nomatch z) ⟨.bl false, H, I, rfl, hq⟩
    | _ => exact h.elim
  | _ => exact h.elim
theorem do_isnt : DO X T (compareOp .IsNot) isntD := by
  intro σ B H ρ S d e x y Q R rd re h
  cases re with
  | non =>
    refine fun pins s σ' v u I rx ry => op_notN pins s σ' H _ _ v u Q I rx ry ⟨rfl, ?_⟩
    cases rd with
    | non => exact h.ok R (.bl _)
    | bl _ => exact h.ok R (.bl _)
    | int _ => exact h.ok R (.bl _)
    | str _ => exact h.ok R (.bl _)
    | tup _ _ => exact h.ok R (.bl _)
    | lst _ _ => exact h.ok R (.bl _)
    | scr _ _ => exact h.ok R (.bl _)
    | ins _ _ _ => exact h.ok R (.bl _)
    | ref _ => exact h.ok R (.bl _)
    | cls _ => exact h.ok R (.bl _)
    | ty _ => exact h.ok R (.bl _)
  | bl b =>
    cases rd with
    | bl a => exact fun pins s σ' v u I rx ry => op_isnot_bl pins s σ' H _ _ v u Q I rx ry ⟨a, b, rfl, rfl, h.ok R (.bl _)⟩
    | int i =>
      have hq : Q (.bl true) H := h.ok R (.bl _)
      intro pins s σ' v u I rx ry
      obtain ⟨t, rfl⟩ := rx
      cases (show u = Value.bool b from ry)
      exact wpAny_isNot_other rfl (fun z => nomatch z) ⟨.bl true, H, I, rfl, hq⟩
    | str x =>
      have hq : Q (.bl true) H := h.ok R (.bl _)
      intro pins s σ' v u I rx ry
      obtain ⟨t, rfl⟩ := rx
      cases (show u = Value.bool b from ry)
      exact wpAny_isNot_other rfl (fun z => nomatch z) ⟨.bl true, H, I, rfl, hq⟩
    | tup _ _ =>
      have hq : Q (.bl true) H := h.ok R (.bl _)
      intro pins s σ' v u I rx ry
      cases rx
      cases (show u = Value.bool b from ry)
      exact wpAny_isNot_other rfl (fun z => nomatch z) ⟨.bl true, H, I, rfl, hq⟩
    | _ => exact h.elim
  | _ => exact h.elim
end
end Z

set_option Elab.async false
set_option linter.all false
set_option maxRecDepth 100000
set_option maxHeartbeats 4000000
/-! The Z layer, part D: expressions. -/
namespace Z
open PySem PySem.Spec PyProof.Rows L2
section
variable {X : Cx} {T : Wp} {W : WX} {a b c : Expr} {pos : Pos} {ma mb mc : En → Sto → Res D}

/-! ### constants and names -/
def mCon (d : D) : En → Sto → Res D := fun _ S => .ok d S
theorem de_int {i j} : DE X T W (.Constant (.int i) j pos) (mCon (.int i)) := fun σ B H ρ S env Q R E h pins s I => pe_int.run pins s σ H Q I (h.ok R (.int _))
theorem de_bl {i j} : DE X T W (.Constant (.bool i) j pos) (mCon (.bl i)) := fun σ B H ρ S env Q R E h pins s I => pe_bl.run pins s σ H Q I (h.ok R (.bl _))
theorem de_non {j} : DE X T W (.Constant .none j pos) (mCon .non) := fun σ B H ρ S env Q R E h pins s I => pe_non.run pins s σ H Q I (h.ok R .non)
theorem de_str {x j} : DE X T W (.Constant (.str x) j pos) (mCon (.str x)) := fun σ B H ρ S env Q R E h pins s I => pe_str.run pins s σ H Q I (h.ok R (.str _))
def mVar (i : Nat) : En → Sto → Res D := fun env S => match env[i]? with
  | some (some d) => .ok d S
  | _ => .bad
theorem var_rd {σ : L2.St} {B H : Hp} {ρ : List Addr} {S : Sto} {env : En} {Q : VK} {i : Nat} (R : RelS T B H ρ S) (E : EnvR T B ρ σ env) (h : OkE T W σ B H ρ (mVar i env S) Q) : ∃ v, σ[i]? = some (some v) ∧ Q v H := by
  unfold mVar at h
  split at h
  · rename_i d e
    obtain ⟨v, h1, h2⟩ := E.2 i d e
    exact ⟨v, h1, h.ok R h2⟩
  · exact h.elim
theorem de_var {i : Nat} {x : Str} (hN : X.N[i]? = some x) (hv : Vis X.env.scope x) (hd : (x == ("__debug__" : Str)) = false) (hcd : (x == ("__classdict__" : Str)) = false) : DE X T W (.Name x pos) (mVar i) :=
  fun σ B H ρ S env Q R E h pins s I => (pe_var hN hv hd hcd).run pins s σ H Q I (var_rd R E h)
/-- a local name read for good: its list does not change any more -/
def mFrz (i : Nat) : En → Sto → Res D := fun env S => match env[i]? with
  | some (some (.ref n)) => (match look S n with
    | some (.lst ds) => .ok (.lst ds) (put S n (.frz ds))
    | some (.frz ds) => .ok (.lst ds) S
    | _ => .bad)
  | some (some d) => .ok d S
  | _ => .bad
theorem frz_rd {σ : L2.St} {B H : Hp} {ρ : List Addr} {S : Sto} {env : En} {Q : VK} {i : Nat} (R : RelS T B H ρ S) (E : EnvR T B ρ σ env) (h : OkE T W σ B H ρ (mFrz i env S) Q) : ∃ v, σ[i]? = some (some v) ∧ Q v H := by
  unfold mFrz at h
  split at h
  · rename_i n e
    obtain ⟨v, h1, h2⟩ := E.2 i _ e
    cases h2 with
    | ref hl =>
      rename_i a
      obtain ⟨o, ho, hx⟩ := R.there hl
      rw [ho] at h
      cases o with
      | lst ds =>
        obtain ⟨hb, vs, hH, hr⟩ := hx
        refine ⟨_, h1, h (upd B a (.lst vs)) H ρ _ (Gr.ice hb (look_mem hl)) (R.ice hl hH hb ⟨vs, upd_same, hr.mono (Le.upd hb) fun _ _ h => h⟩) (.lst upd_same (hr.mono (Le.upd hb) fun _ _ h => h))⟩
      | frz ds =>
        obtain ⟨vs, hH, hr⟩ := hx
        exact ⟨_, h1, h.ok R (.lst hH hr)⟩
      | _ => exact h.elim
  · rename_i d _ e
    obtain ⟨v, h1, h2⟩ := E.2 i _ e
    exact ⟨v, h1, h.ok R h2⟩
  · exact h.elim
theorem de_frz {i : Nat} {x : Str} (hN : X.N[i]? = some x) (hv : Vis X.env.scope x) (hd : (x == ("__debug__" : Str)) = false) (hcd : (x == ("__classdict__" : Str)) = false) : DE X T W (.Name x pos) (mFrz i) :=
  fun σ B H ρ S env Q R E h pins s I => (pe_var hN hv hd hcd).run pins s σ H Q I (frz_rd R E h)
/-- a module's constant -/
def GloOk (X : Cx) (T : Wp) (x : Str) (d : D) : Prop := ∃ u v, X.mg x = some u ∧ RelV v u ∧ ∀ B ρ, Rp T B ρ d v
theorem de_glo {x : Str} {d : D} (hg : Gl X x) (ok : GloOk X T x d) (hd : (x == ("__debug__" : Str)) = false) : DE X T W (.Name x pos) (mCon d) := fun σ B H ρ S env Q R E h pins s I => by
  obtain ⟨u, v, hm, r, rp⟩ := ok
  exact (pe_glob hg hm r hd).run pins s σ H Q I (h.ok R (rp B ρ))
theorem de_ty {x : Str} {t : Ty} (hg : Gl X x) (hm : X.mg x = none) (hv : bootBuiltins x = some (.type (tyS t))) (hn : x ≠ "__name__") (hd : (x == ("__debug__" : Str)) = false) : DE X T W (.Name x pos) (mCon (.ty t)) :=
  fun σ B H ρ S env Q R E h pins s I => (pe_bltn (v := .ty (tyS t)) hg hm hv rfl hn hd).run pins s σ H Q I (h.ok R (.ty t))

/-! ### and, or, not, if -/
def mAnd (ma mb : En → Sto → Res D) : En → Sto → Res D := fun env S => (ma env S).bind fun d S1 => match d with
  | .bl true => mb env S1
  | .bl false => .ok (.bl false) S1
  | _ => .bad
def mOr (ma mb : En → Sto → Res D) : En → Sto → Res D := fun env S => (ma env S).bind fun d S1 => match d with
  | .bl true => .ok (.bl true) S1
  | .bl false => mb env S1
  | _ => .bad
def mNot (ma : En → Sto → Res D) : En → Sto → Res D := fun env S => (ma env S).bind fun d S1 => match d with
  | .bl k => .ok (.bl (!k)) S1
  | _ => .bad
def mIf (mt : En → Sto → Res Bool) (ma mb : En → Sto → Res D) : En → Sto → Res D := fun env S => (mt env S).bind fun k S1 => if k then ma env S1 else mb env S1
theorem de_one {op} {m} (ha : DE X T W a m) : DE X T W (.BoolOp op [a] pos) m := fun σ B H ρ S env Q R E h pins s I => (pe_one sPE).run pins s σ H Q I (ha σ B H ρ S env Q R E h)
theorem de_and {rest : List Expr} (ha : DE X T W a ma) (hb : DE X T W (.BoolOp .And (b :: rest) pos) mb) : DE X T W (.BoolOp .And (a :: b :: rest) pos) (mAnd ma mb) := by
  intro σ B H ρ S env Q R E h pins s I
  refine (pe_and sPE sPE).run pins s σ H Q I (ha σ B H ρ S env _ R E (OkG.bind (P := Rp T) h fun d S1 B1 H1 ρ1 x _ g1 R1 p1 h1 => ?_))
  cases p1 with
  | bl k =>
    refine ⟨k, rfl, ?_⟩
    cases k with
    | true => exact hb σ B1 H1 ρ1 S1 env Q R1 (E.gr g1) h1
    | false => exact h1.ok R1 (.bl _)
  | _ => exact h1.elim
theorem de_or {rest : List Expr} (ha : DE X T W a ma) (hb : DE X T W (.BoolOp .Or (b :: rest) pos) mb) : DE X T W (.BoolOp .Or (a :: b :: rest) pos) (mOr ma mb) := by
  intro σ B H ρ S env Q R E h pins s I
  refine (pe_or sPE sPE).run pins s σ H Q I (ha σ B H ρ S env _ R E (OkG.bind (P := Rp T) h fun d S1 B1 H1 ρ1 x _ g1 R1 p1 h1 => ?_))
  cases p1 with
  | bl k =>
    refine ⟨k, rfl, ?_⟩
    cases k with
    | false => exact hb σ B1 H1 ρ1 S1 env Q R1 (E.gr g1) h1
    | true => exact h1.ok R1 (.bl _)
  | _ => exact h1.elim
theorem de_not (ha : DE X T W a ma) : DE X T W (.UnaryOp .Not a pos) (mNot ma) := by
  intro σ B H ρ S env Q R E h pins s I
  refine (pe_not sPE).run pins s σ H Q I (ha σ B H ρ S env _ R E (OkG.bind (P := Rp T) h fun d S1 B1 H1 ρ1 x _ g1 R1 p1 h1 => ?_))
  cases p1 with
  | bl k => exact ⟨k, rfl, h1.ok R1 (.bl _)⟩
  | _ => exact h1.elim
theorem de_if {mt : En → Sto → Res Bool} (hc : DT X T W c mt) (ha : DE X T W a ma) (hb : DE X T W b mb) : DE X T W (.IfExp c a b pos) (mIf mt ma mb) := by
  intro σ B H ρ S env Q R E h pins s I
  refine (pe_ifExp sPT sPE sPE).run pins s σ H Q I (hc σ B H ρ S env _ R E (OkG.bind (P := fun _ _ b c => b = c) h fun k S1 B1 H1 ρ1 x _ g1 R1 p1 h1 => ?_))
  subst p1
  cases k with
  | true => exact ha σ B1 H1 ρ1 S1 env Q R1 (E.gr g1) h1
  | false => exact hb σ B1 H1 ρ1 S1 env Q R1 (E.gr g1) h1
def mUn (f : D → Sto → Res D) (ma : En → Sto → Res D) : En → Sto → Res D := fun env S => (ma env S).bind fun d S1 => (f d S1).calm
theorem de_un {op : UnaryOp} {f : D → Sto → Res D} (hf : DU X T (unaryOp op) f) (ha : DE X T W a ma) : DE X T W (.UnaryOp op a pos) (mUn f ma) := by
  intro σ B H ρ S env Q R E h pins s I
  refine (pe_un sUn sPE).run pins s σ H Q I (ha σ B H ρ S env _ R E (OkG.bind (P := Rp T) h fun d S1 B1 H1 ρ1 x _ g1 R1 p1 h1 => ?_))
  exact hf σ B1 H1 ρ1 S1 d x Q R1 p1 h1.calm

/-! ### tests -/
def tAnd2 (ma mb : En → Sto → Res Bool) : En → Sto → Res Bool := fun env S => (ma env S).bind fun k S1 => if k then mb env S1 else .ok false S1
def tOr2 (ma mb : En → Sto → Res Bool) : En → Sto → Res Bool := fun env S => (ma env S).bind fun k S1 => if k then .ok true S1 else mb env S1
def tNot2 (ma : En → Sto → Res Bool) : En → Sto → Res Bool := fun env S => (ma env S).bind fun k S1 => .ok (!k) S1
/-- a test whatever its whole is -/
def DW (X : Cx) (T : Wp) (W : WX) (e : Expr) (m : En → Sto → Res Bool) : Prop :=
  ∀ σ B H ρ S env (Q : Bool → Hp → Prop), RelS T B H ρ S → EnvR T B ρ σ env → OkT T W σ B H ρ (m env S) Q → ∀ whole pins s, Inv X pins σ H s → wpAny (model X.prog X.w) X.A (isTrue e X.env whole) (TP X pins σ Q) X.xe s
def tSW (X : Cx) (e : Expr) : TT := fun σ H Q => ∀ whole pins s, Inv X pins σ H s → wpAny (model X.prog X.w) X.A (isTrue e X.env whole) (TP X pins σ Q) X.xe s
theorem sPW {e : Expr} : PW X e (tSW X e) := ⟨fun wh pins s _ _ _ I h => h wh pins s I⟩
variable {na nb : En → Sto → Res Bool}
theorem DW.dt (h : DW X T W a na) : DT X T W a na := fun σ B H ρ S env Q R E ok pins s I => h σ B H ρ S env Q R E ok _ pins s I
theorem dw_and1 (ha : DT X T W a na) : DW X T W (.BoolOp .And [a] pos) na := fun σ B H ρ S env Q R E ok wh pins s I => (pw_and1 sPT).run wh pins s σ H Q I (ha σ B H ρ S env Q R E ok)
theorem dw_or1 (ha : DT X T W a na) : DW X T W (.BoolOp .Or [a] pos) na := fun σ B H ρ S env Q R E ok wh pins s I => (pw_or1 sPT).run wh pins s σ H Q I (ha σ B H ρ S env Q R E ok)
theorem dw_and {rest : List Expr} (ha : DT X T W a na) (hb : DW X T W (.BoolOp .And (b :: rest) pos) nb) : DW X T W (.BoolOp .And (a :: b :: rest) pos) (tAnd2 na nb) := by
  intro σ B H ρ S env Q R E h wh pins s I
  refine (pw_and sPT sPW).run wh pins s σ H Q I (ha σ B H ρ S env _ R E (OkG.bind (P := fun _ _ b c => b = c) h fun k S1 B1 H1 ρ1 x _ g1 R1 p1 h1 => ?_))
  subst p1
  cases k with
  | true => exact hb σ B1 H1 ρ1 S1 env Q R1 (E.gr g1) h1
  | false => exact h1.ok R1 rfl
theorem dw_or {rest : List Expr} (ha : DT X T W a na) (hb : DW X T W (.BoolOp .Or (b :: rest) pos) nb) : DW X T W (.BoolOp .Or (a :: b :: rest) pos) (tOr2 na nb) := by
  intro σ B H ρ S env Q R E h wh pins s I
  refine (pw_or sPT sPW).run wh pins s σ H Q I (ha σ B H ρ S env _ R E (OkG.bind (P := fun _ _ b c => b = c) h fun k S1 B1 H1 ρ1 x _ g1 R1 p1 h1 => ?_))
  subst p1
  cases k with
  | false => exact hb σ B1 H1 ρ1 S1 env Q R1 (E.gr g1) h1
  | true => exact h1.ok R1 rfl
theorem dt_not (ha : DT X T W a na) : DT X T W (.UnaryOp .Not a pos) (tNot2 na) := by
  intro σ B H ρ S env Q R E h pins s I
  refine (pt_not sPT).run pins s σ H Q I (ha σ B H ρ S env _ R E (OkG.bind (P := fun _ _ b c => b = c) h fun k S1 B1 H1 ρ1 x _ g1 R1 p1 h1 => ?_))
  subst p1
  exact h1.ok R1 rfl
theorem dt_cmp {op : CmpOp} {f : D → D → Sto → Res D} (hm : behindInMarks op b = false) (hf : DO X T (compareOp op) f) (ha : DE X T W a ma) (hb : DE X T W b mb) : DT X T W (.Compare a [op] [b] pos) (asB (mBin f ma mb)) := by
  intro σ B H ρ S env Q R E h pins s I
  refine (pt_cmpR sOp sPE sPE hm).run pins s σ H Q I ?_
  have e : DE X T W (.Compare a [op] [b] pos) (mBin f ma mb) := de_cmp hm hf ha hb
  show tTest (tOp (rS2 X (compareOp op)) (tS X a) (tS X b)) σ H Q
  refine two ha hb hf R E (OkG.bind (P := Rp T) h fun d S1 B1 H1 ρ1 x _ g1 R1 p1 h1 => ?_)
  cases p1 with
  | bl k => exact ⟨k, rfl, h1.ok R1 rfl⟩
  | _ => exact h1.elim
/-- an expression whose value is a bool, as a test -/
theorem dt_val (he : ∀ whole, isTrue a X.env whole = (do let v ← whole; standAt a.pos; holding [v] (truthy v))) (ha : DE X T W a ma) : DT X T W a (asB ma) := by
  intro σ B H ρ S env Q R E h pins s I
  refine (pt_val sPE he).run pins s σ H Q I (ha σ B H ρ S env _ R E (OkG.bind (P := Rp T) h fun d S1 B1 H1 ρ1 x _ g1 R1 p1 h1 => ?_))
  cases p1 with
  | bl k => exact ⟨k, rfl, h1.ok R1 rfl⟩
  | _ => exact h1.elim

/-! ### two comparisons in a row -/
def mChain (f f' : D → D → Sto → Res D) (ma mb mc : En → Sto → Res D) : En → Sto → Res D := fun env S => (ma env S).bind fun d S1 => (mb env S1).bind fun e S2 => (f d e S2).calm.bind fun z S3 => match z with
  | .bl true => (mc env S3).bind fun c S4 => (f' e c S4).calm
  | .bl false => .ok (.bl false) S3
  | _ => .bad
theorem chain_rd {op op' : CmpOp} {f f' : D → D → Sto → Res D} (hf : DO X T (compareOp op) f) (hf' : DO X T (compareOp op') f') (ha : DE X T W a ma) (hb : DE X T W b mb) (hc : DE X T W c mc) {σ B H ρ S env Q} (R : RelS T B H ρ S) (E : EnvR T B ρ σ env)
    (h : OkE T W σ B H ρ (mChain f f' ma mb mc env S) Q) : tChain (rS2 X (compareOp op)) (rS2 X (compareOp op')) (tS X a) (tS X b) (tS X c) σ H Q := by
  refine ha σ B H ρ S env _ R E (OkG.bind (P := Rp T) h fun d S1 B1 H1 ρ1 x _ g1 R1 p1 h1 => ?_)
  refine hb σ B1 H1 ρ1 S1 env _ R1 (E.gr g1) (OkG.bind (P := Rp T) h1 fun e S2 B2 H2 ρ2 y _ g2 R2 p2 h2 => ?_)
  refine hf σ B2 H2 ρ2 S2 d e x y _ R2 (g2.rp p1) p2 (OkG.calm (OkG.bind (P := Rp T) h2 fun z S3 B3 H3 ρ3 w ez g3 R3 p3 h3 => ?_) )
  cases p3 with
  | bl k =>
    refine ⟨k, rfl, ?_⟩
    cases k with
    | true =>
      refine hc σ B3 H3 ρ3 S3 env _ R3 ((E.gr g1).gr (g2.trans g3)) (OkG.bind (P := Rp T) h3 fun e' S4 B4 H4 ρ4 y' _ g4 R4 p4 h4 => ?_)
      exact hf' σ B4 H4 ρ4 S4 e e' y y' Q R4 ((g3.trans g4).rp p2) p4 h4.calm
    | false => exact h3.ok R3 (.bl _)
  | _ => exact h3.elim
theorem de_chain {op op' : CmpOp} {f f' : D → D → Sto → Res D} (hf : DO X T (compareOp op) f) (hf' : DO X T (compareOp op') f') (ha : DE X T W a ma) (hb : DE X T W b mb) (hc : DE X T W c mc) (hm : lastMarks [op, op'] [b, c] = false) :
    DE X T W (.Compare a [op, op'] [b, c] pos) (mChain f f' ma mb mc) := fun σ B H ρ S env Q R E h pins s I => (pe_chain sOp sOp sPE sPE sPE hm).run pins s σ H Q I (chain_rd hf hf' ha hb hc R E h)
theorem dt_chain {op op' : CmpOp} {f f' : D → D → Sto → Res D} (hf : DO X T (compareOp op) f) (hf' : DO X T (compareOp op') f') (ha : DE X T W a ma) (hb : DE X T W b mb) (hc : DE X T W c mc) (hm : lastMarks [op, op'] [b, c] = false) :
    DT X T W (.Compare a [op, op'] [b, c] pos) (asB (mChain f f' ma mb mc)) := fun σ B H ρ S env Q R E h pins s I => (pt_chain sOp sOp sPE sPE sPE hm).run pins s σ H Q I (by
  refine chain_rd hf hf' ha hb hc R E (OkG.bind (P := Rp T) h fun d S1 B1 H1 ρ1 x _ g1 R1 p1 h1 => ?_)
  cases p1 with
  | bl k => exact ⟨k, rfl, h1.ok R1 rfl⟩
  | _ => exact h1.elim)

/-! ### arguments, tuples -/
def mNil : En → Sto → Res (List D) := fun _ S => .ok [] S
def mCons (m : En → Sto → Res D) (ms : En → Sto → Res (List D)) : En → Sto → Res (List D) := fun env S => (m env S).bind fun d S1 => (ms env S1).bind fun ds S2 => .ok (d :: ds) S2
variable {es : List Expr} {ms : En → Sto → Res (List D)}
theorem da_nil : DA X T W [] mNil := fun σ B H ρ S env Q R E h pos pins s I => pa_nil.run pos pins s σ H Q I (h.ok R .nil)
theorem da_cons (ha : DE X T W a ma) (hr : DA X T W es ms) (hs : starEach (a :: es) X.env = (false, eval a X.env) :: starEach es X.env) : DA X T W (a :: es) (mCons ma ms) := by
  intro σ B H ρ S env Q R E h pos pins s I
  refine (pa_cons sPE sPA hs).run pos pins s σ H Q I (ha σ B H ρ S env _ R E (OkG.bind (P := Rp T) h fun d S1 B1 H1 ρ1 x _ g1 R1 p1 h1 => ?_))
  refine hr σ B1 H1 ρ1 S1 env _ R1 (E.gr g1) (OkG.bind (P := Rps T) h1 fun ds S2 B2 H2 ρ2 xs _ g2 R2 p2 h2 => ?_)
  exact h2.ok R2 (.cons (g2.rp p1) p2)
def mTup (ms : En → Sto → Res (List D)) : En → Sto → Res D := fun env S => (ms env S).bind fun ds S1 => if ds.length ≤ sizeLine then .ok (.tup ds) S1 else .bad
theorem de_tup {k : Nat} (h : DA X T W es ms) : DE X T W (.Tuple es k pos) (mTup ms) := by
  intro σ B H ρ S env Q R E ok pins s I
  refine (pe_tup sPA).run pins s σ H Q I (h σ B H ρ S env _ R E (OkG.bind (P := Rps T) ok fun ds S1 B1 H1 ρ1 xs _ g1 R1 p1 h1 => ?_))
  split at h1
  · rename_i hl
    exact ⟨by rw [← p1.length]; exact hl, ok_tup h1 R1 p1⟩
  · exact h1.elim

/-! ### a place, a slice -/
def ixD (d e : D) (S : Sto) : Res D := match e with
  | .int i => (match d with
    | .tup ds => (match atI ds i with
      | some x => .ok x S
      | none => .bad)
    | .str z => (match atI z.cps.toList i with
      | some c => if z.length ≤ sizeLine then .ok (.str ⟨#[c]⟩) S else .bad
      | none => .bad)
    | d => (match asL S d with
      | some ds => (match atI ds i with
        | some x => .ok x S
        | none => .bad)
      | none => .bad))
  | _ => .bad
theorem rps_at {B : Hp} {ρ : List Addr} {ds : List D} {vs : List V} {i : Int} {d : D} (r : Rps T B ρ ds vs) (h : atI ds i = some d) : ∃ v, atI vs i = some v ∧ Rp T B ρ d v := by
  unfold atI at h ⊢
  rw [← r.length]
  cases e : ixN ds.length i with
  | none => rw [e] at h; cases h
  | some j =>
    rw [e] at h
    obtain ⟨v, h1, h2⟩ := r.get (show ds[j]? = some d from h)
    exact ⟨v, h1, h2⟩
theorem ix_rd (hK : X.K = T.K) {σ B H ρ S d e x y Q} (R : RelS T B H ρ S) (rd : Rp T B ρ d x) (re : Rp T B ρ e y) (h : OkE T (fun _ _ _ _ => False) σ B H ρ (ixD d e S) Q) : rSI X x y H Q := by
  intro value slice pins s σ' v u I rx ry hs
  cases re with
  | int i =>
    have other : (∃ ds, asL S d = some ds ∧ ∃ z, atI ds i = some z ∧ OkE T (fun _ _ _ _ => False) σ B H ρ (.ok z S) Q) → wpAny (model X.prog X.w) X.A (subscriptTail value slice v u) (EP X pins σ' Q) X.xe s := fun ⟨ds, e1, z, e2, ok⟩ => by
      obtain ⟨a, vs, rfl, hH, r⟩ := asL_rp R rd e1
      obtain ⟨w, h1, h2⟩ := rps_at r e2
      exact ix_list value slice pins s σ' H _ _ v u Q I rx ry ⟨a, vs, i, w, rfl, rfl, SqL.of hH, h1, ok.ok R h2⟩ hs
    have other' : OkE T (fun _ _ _ _ => False) σ B H ρ (match asL S d with | some ds => (match atI ds i with | some x => .ok x S | none => .bad) | none => .bad) Q → wpAny (model X.prog X.w) X.A (subscriptTail value slice v u) (EP X pins σ' Q) X.xe s := fun ok => by
      refine other ?_
      cases e1 : asL S d with
      | none => rw [e1] at ok; exact ok.elim
      | some ds =>
        rw [e1] at ok
        dsimp only at ok
        cases e2 : atI ds i with
        | none => rw [e2] at ok; exact ok.elim
        | some z => rw [e2] at ok; exact ⟨ds, rfl, z, e2, ok⟩
    cases rd with
    | tup hb r =>
      rename_i a ds vs
      unfold ixD at h
      dsimp only at h
      cases e2 : atI ds i with
      | none => rw [e2] at h; exact h.elim
      | some z =>
        rw [e2] at h
        obtain ⟨w, h1, h2⟩ := rps_at r e2
        exact ix_tup value slice pins s σ' H _ _ v u Q I rx ry ⟨a, vs, i, w, rfl, rfl, by rw [hK]; exact R.sqT hb, h1, h.ok R h2⟩ hs
    | str z =>
      unfold ixD at h
      dsimp only at h
      cases e2 : atI z.cps.toList i with
      | none => rw [e2] at h; exact h.elim
      | some c =>
        rw [e2] at h
        dsimp only at h
        split at h
        · rename_i hl
          exact ix_str value slice pins s σ' H _ _ v u Q I rx ry ⟨z, i, c, rfl, rfl, hl, e2, h.ok R (.str _)⟩ hs
        · exact h.elim
    | _ => exact other' h
  | _ => exact h.elim
def mIx (ma mb : En → Sto → Res D) : En → Sto → Res D := fun env S => (ma env S).bind fun d S1 => (mb env S1).bind fun e S2 => (ixD d e S2).calm
theorem de_ix (hK : X.K = T.K) (ha : DE X T W a ma) (hb : DE X T W b mb) (hs : PlainIx b) : DE X T W (.Subscript a b pos) (mIx ma mb) := by
  intro σ B H ρ S env Q R E h pins s I
  refine (pe_ix sIx sPE sPE hs).run pins s σ H Q I (ha σ B H ρ S env _ R E (OkG.bind (P := Rp T) h fun d S1 B1 H1 ρ1 x _ g1 R1 p1 h1 => ?_))
  refine hb σ B1 H1 ρ1 S1 env _ R1 (E.gr g1) (OkG.bind (P := Rp T) h1 fun e S2 B2 H2 ρ2 y _ g2 R2 p2 h2 => ?_)
  exact ix_rd (σ := σ) hK R2 (g2.rp p1) p2 h2.calm

/-! ### built-ins called -/
def mCall (f : List D → Sto → Res D) (ms : En → Sto → Res (List D)) : En → Sto → Res D := fun env S => (ms env S).bind fun ds S1 => (f ds S1).calm
theorem call_rd {F : Value} {f : List D → Sto → Res D} (hc : DC X T F f) (ha : DA X T W es ms) {σ B H ρ S env Q} (R : RelS T B H ρ S) (E : EnvR T B ρ σ env) (h : OkE T W σ B H ρ (mCall f ms env S) Q) : tCB (rSC X F) (tSA X es) σ H Q := by
  refine ha σ B H ρ S env _ R E (OkG.bind (P := Rps T) h fun ds S1 B1 H1 ρ1 xs _ g1 R1 p1 h1 => ?_)
  exact hc σ B1 H1 ρ1 S1 ds xs Q R1 p1 h1.calm
theorem de_callB {id : String} {f : List D → Sto → Res D} {x : Str} {p : Pos} (hc : DC X T (.builtin id) f) (hg : Gl X x) (hm : X.mg x = none) (hv : bootBuiltins x = some (.builtin id)) (ha : DA X T W (a :: es) ms) (hn : x ≠ "__name__") (hdb : (x == ("__debug__" : Str)) = false)
    (he : starEach (a :: es) X.env = (false, eval a X.env) :: starEach es X.env) (hpl : (backTo pos (starEach es X.env)).any (·.1) = false) : DE X T W (.Call (.Name x p) (a :: es) [] pos) (mCall f ms) :=
  fun σ B H ρ S env Q R E h pins s I => (pe_callB sCall hg hm hv sPA hn hdb he hpl).run pins s σ H Q I (call_rd hc ha R E h)
theorem de_callTy {t : String} {f : List D → Sto → Res D} {x : Str} {p : Pos} (hc : DC X T (.type t) f) (hg : Gl X x) (hm : X.mg x = none) (hv : bootBuiltins x = some (.type t)) (ha : DA X T W (a :: es) ms) (hn : x ≠ "__name__") (hdb : (x == ("__debug__" : Str)) = false)
    (he : starEach (a :: es) X.env = (false, eval a X.env) :: starEach es X.env) (hpl : (backTo pos (starEach es X.env)).any (·.1) = false) : DE X T W (.Call (.Name x p) (a :: es) [] pos) (mCall f ms) :=
  fun σ B H ρ S env Q R E h pins s I => (pe_callTy sCall hg hm hv sPA hn hdb he hpl).run pins s σ H Q I (call_rd hc ha R E h)
end
end Z

set_option Elab.async false
set_option linter.all false
set_option maxRecDepth 100000
set_option maxHeartbeats 4000000
/-! The Z layer, part E: new lists; built-in functions on data. -/
namespace Z
open PySem PySem.Spec PyProof.Rows L2
section
variable {T : Wp} {W : WX} {σ : L2.St} {B B' H H' : Hp} {ρ ρ' : List Addr} {S S' : Sto}
/-- an object that neither B nor the store knows -/
theorem RelS.add (R : RelS T B H ρ S) {p : Addr} {o : HO} (hp : H p = none) : RelS T B (upd H p o) ρ S := by
  have hr := R.notin hp
  refine ⟨fun a u e => ?_, R.len, R.nd, fun n u e => ?_⟩
  · rw [upd_ne (ne_of_none (R.sub _ _ e) hp)]; exact R.sub _ _ e
  · obtain ⟨a, h1, h2⟩ := R.obj n u e
    have hne : a ≠ p := fun z => hr (z ▸ look_mem h1)
    exact ⟨a, h1, h2.mono (Le.refl _) (fun _ _ h => h) id fun w h => by rw [upd_ne hne]; exact h⟩
theorem Gr.add {p : Addr} {o : HO} (hp : H p = none) : Gr B H ρ B (upd H p o) ρ :=
  ⟨Le.refl _, ⟨[], rfl⟩, fun a u h _ => by rw [upd_ne (ne_of_none h hp)]; exact h, fun _ h => .inl h, fun _ _ _ _ h => h⟩
theorem Gr.none (g : Gr B H ρ B' H' ρ') (R' : RelS T B' H' ρ' S') {p : Addr} (hp : H' p = none) : H p = none := by
  cases q : H p with
  | none => rfl
  | some o =>
    have hm : p ∉ ρ := fun h => R'.notin hp (by
      obtain ⟨l, e⟩ := g.suf
      rw [e]; exact List.mem_append_right _ h)
    rw [g.frm p o q hm] at hp; cases hp
/-- it will not change -/
theorem RelS.pin (R : RelS T B H ρ S) {p : Addr} {o : HO} (hH : H p = some o) (hr : p ∉ ρ) (hb : B p = none) : RelS T (upd B p o) H ρ S := by
  refine ⟨fun a u e => ?_, R.len, R.nd, fun n u e => ?_⟩
  · by_cases h : a = p
    · subst h; rw [upd_same] at e; cases e; exact hH
    · rw [upd_ne h] at e; exact R.sub _ _ e
  · obtain ⟨a, h1, h2⟩ := R.obj n u e
    have hne : a ≠ p := fun z => hr (z ▸ look_mem h1)
    exact ⟨a, h1, h2.mono (Le.upd hb) (fun _ _ h => h) (fun h => by rw [upd_ne hne]; exact h) fun w h => h⟩
/-- it is the store's -/
theorem RelS.own (R : RelS T B H ρ S) {p : Addr} {x : O} (hr : p ∉ ρ) (hx : ObjR T B H (p :: ρ) p x) : RelS T B H (p :: ρ) (x :: S) := by
  refine ⟨R.sub, by simp only [List.length_cons, R.len], List.nodup_cons.mpr ⟨hr, R.nd⟩, fun n u e => ?_⟩
  unfold look at e
  split at e
  · rename_i h
    cases e
    exact ⟨p, by rw [h, ← R.len]; exact look_top, hx⟩
  · obtain ⟨a, h1, h2⟩ := R.obj n u e
    exact ⟨a, look_cons h1, h2.mono (Le.refl _) (fun _ _ h => look_cons h) id fun w h => h⟩
theorem Gr.own (g : Gr B H ρ B' H' ρ') {p : Addr} (hp : H p = Option.none) : Gr B H ρ B' H' (p :: ρ') := by
  obtain ⟨l, e⟩ := g.suf
  refine ⟨g.le, ⟨p :: l, by rw [e]; rfl⟩, g.frm, fun a h => ?_, g.pri⟩
  rcases List.mem_cons.mp h with e | h
  · exact .inr (e ▸ hp)
  · exact g.new a h

/-- what is wanted holds of a new list -/
def OkL (T : Wp) (W : WX) (σ : L2.St) (B H : Hp) (ρ : List Addr) (r : Res (List D)) (Q : VK) : Prop := match r with
  | .ok ds S' => ∀ B' H' ρ' p vs, Gr B H ρ B' H' ρ' → RelS T B' H' ρ' S' → H p = none → p ∉ ρ' → B' p = none → H' p = some (.lst vs) → Rps T B' ρ' ds vs → Q (.ref p) H'
  | .exc c x S' => ∀ B' H' ρ' v dd, Gr B H ρ B' H' ρ' → RelS T B' H' ρ' S' → Rp T B' ρ' x v → H' dd = some (.xd [(T.exf c, v)]) → W (.ref (T.cad c)) (some dd) σ H'
  | .bad => False
/-- an answer, then a new list -/
theorem OkL.bind {α γ : Type} {P : Hp → List Addr → α → γ → Prop} {r : Res α} {f : α → Sto → Res (List D)} {Q : VK} (h : OkL T W σ B H ρ (r.bind f) Q) {R : γ → Hp → Prop}
    (k : ∀ a S1 B1 H1 ρ1 v, r = .ok a S1 → Gr B H ρ B1 H1 ρ1 → RelS T B1 H1 ρ1 S1 → P B1 ρ1 a v → (∀ p, H1 p = none → H p = none) → OkL T W σ B1 H1 ρ1 (f a S1) Q → R v H1) : OkG T W σ B H ρ P r R := by
  cases r with
  | ok a S1 =>
    intro B1 H1 ρ1 v g R1 p
    refine k a S1 B1 H1 ρ1 v rfl g R1 p (fun p hp => g.none R1 hp) ?_
    have h' : OkL T W σ B H ρ (f a S1) Q := h
    cases e : f a S1 with
    | ok b S2 =>
      rw [e] at h'
      exact fun B2 H2 ρ2 q vs g2 R2 hq hr hb hH rp => h' B2 H2 ρ2 q vs (g.trans g2) R2 (g.none R1 hq) hr hb hH rp
    | exc c x S2 =>
      rw [e] at h'
      exact fun B2 H2 ρ2 w dd g2 R2 p2 hd => h' B2 H2 ρ2 w dd (g.trans g2) R2 p2 hd
    | bad => rw [e] at h'; exact h'
  | exc c x S1 => exact h
  | bad => exact h
theorem OkL.new {ds : List D} {vs : List V} {Q : VK} (h : OkL T W σ B H ρ (.ok ds S) Q) (R : RelS T B H ρ S) (r : Rps T B ρ ds vs) : ∀ p, H p = none → Q (.ref p) (upd H p (.lst vs)) := fun p hp =>
  h B (upd H p (.lst vs)) ρ p vs (Gr.add hp) (R.add hp) hp (R.notin hp) (R.ne hp) upd_same r
end
/-- an expression that makes a new list -/
def DL (X : Cx) (T : Wp) (W : WX) (e : Expr) (m : En → Sto → Res (List D)) : Prop :=
  ∀ σ B H ρ S env Q, RelS T B H ρ S → EnvR T B ρ σ env → OkL T W σ B H ρ (m env S) Q → tS X e σ H Q
def mVal (m : En → Sto → Res (List D)) : En → Sto → Res D := fun env S => (m env S).bind fun ds S1 => .ok (.lst ds) S1
def mMut (m : En → Sto → Res (List D)) : En → Sto → Res D := fun env S => (m env S).bind fun ds S1 => .ok (.ref S1.length) (.lst ds :: S1)
section
variable {X : Cx} {T : Wp} {W : WX} {a b c : Expr} {pos : Pos} {ma mb mc : En → Sto → Res D} {ml : En → Sto → Res (List D)} {es : List Expr} {ms : En → Sto → Res (List D)}
theorem DL.val (h : DL X T W a ml) : DE X T W a (mVal ml) := by
  intro σ B H ρ S env Q R E ok
  refine h σ B H ρ S env Q R E ?_
  unfold mVal at ok
  cases e : ml env S with
  | ok ds S1 =>
    rw [e] at ok
    exact fun B' H' ρ' p vs g R' hp hr hb hH rp => ok (upd B' p (.lst vs)) H' ρ' _ (g.pinT hp hb) (R'.pin hH hr hb) (.lst upd_same (rp.mono (Le.upd hb) fun _ _ h => h))
  | exc c x S1 => rw [e] at ok; exact ok
  | bad => rw [e] at ok; exact ok
theorem DL.mut (h : DL X T W a ml) : DE X T W a (mMut ml) := by
  intro σ B H ρ S env Q R E ok
  refine h σ B H ρ S env Q R E ?_
  unfold mMut at ok
  cases e : ml env S with
  | ok ds S1 =>
    rw [e] at ok
    exact fun B' H' ρ' p vs g R' hp hr hb hH rp => ok B' H' (p :: ρ') _ (g.own hp) (R'.own hr ⟨hb, vs, hH, rp.mono (Le.refl _) fun _ _ h => look_cons h⟩) (.ref (by rw [← R'.len]; exact look_top))
  | exc c x S1 => rw [e] at ok; exact ok
  | bad => rw [e] at ok; exact ok
/-- [a, b, ..] -/
def lDisp (ms : En → Sto → Res (List D)) : En → Sto → Res (List D) := fun env S => (ms env S).bind fun ds S1 => if ds.length ≤ sizeLine then .ok ds S1 else .bad
theorem dl_disp (h : DA X T W es ms) : DL X T W (.List es pos) (lDisp ms) := by
  intro σ B H ρ S env Q R E ok pins s I
  refine (pe_lst sPA).run pins s σ H Q I (h σ B H ρ S env _ R E (OkL.bind (P := Rps T) ok fun ds S1 B1 H1 ρ1 xs _ g1 R1 p1 _ h1 => ?_))
  split at h1
  · rename_i hl
    exact ⟨by rw [← p1.length]; exact hl, h1.new R1 p1⟩
  · exact h1.elim
/-- a + b of lists -/
def lCat (ma mb : En → Sto → Res D) : En → Sto → Res (List D) := fun env S => (ma env S).bind fun d S1 => (mb env S1).bind fun e S2 => match asL S2 d, asL S2 e with
  | some ds, some es => if ds.length + es.length ≤ sizeLine then .ok (ds ++ es) S2 else .bad
  | _, _ => .bad
theorem dl_cat (ha : DE X T W a ma) (hb : DE X T W b mb) : DL X T W (.BinOp a .Add b pos) (lCat ma mb) := by
  intro σ B H ρ S env Q R E ok pins s I
  refine (pe_op op_cat sPE sPE).run pins s σ H Q I (ha σ B H ρ S env _ R E (OkL.bind (P := Rp T) ok fun d S1 B1 H1 ρ1 x _ g1 R1 p1 _ h1 => ?_))
  refine hb σ B1 H1 ρ1 S1 env _ R1 (E.gr g1) (OkL.bind (P := Rp T) h1 fun e S2 B2 H2 ρ2 y _ g2 R2 p2 _ h2 => ?_)
  cases e1 : asL S2 d with
  | none => rw [e1] at h2; exact h2.elim
  | some ds =>
    cases e2 : asL S2 e with
    | none => rw [e1, e2] at h2; exact h2.elim
    | some es =>
      rw [e1, e2] at h2
      dsimp only at h2
      split at h2
      · rename_i hl
        obtain ⟨a, xs, rfl, q1, r1⟩ := asL_rp R2 (g2.rp p1) e1
        obtain ⟨b, ys, rfl, q2, r2⟩ := asL_rp R2 p2 e2
        exact ⟨a, b, xs, ys, rfl, rfl, q1, q2, by rw [← r1.length, ← r2.length]; exact hl, h2.new R2 (r1.append r2)⟩
      · exact h2.elim
/-- what list(..), tuple(..), for read: a list, a tuple -/
def asQ (S : Sto) : D → Option (List D)
  | .tup ds => some ds
  | .scr ds => some ds
  | d => asL S d
theorem asQ_rp {B H : Hp} {ρ : List Addr} {S : Sto} {d : D} {v : V} {ds : List D} (R : RelS T B H ρ S) (r : Rp T B ρ d v) (h : asQ S d = some ds) : ∃ a vs, v = .ref a ∧ (SqL T.K H a vs ∨ SqT T.K H a vs) ∧ Rps T B ρ ds vs := by
  have other : asL S d = some ds → ∃ a vs, v = .ref a ∧ (SqL T.K H a vs ∨ SqT T.K H a vs) ∧ Rps T B ρ ds vs := fun e => by
    obtain ⟨a, vs, e1, e2, e3⟩ := asL_rp R r e
    exact ⟨a, vs, e1, .inl (SqL.of e2), e3⟩
  cases r with
  | tup hb hr =>
    have : _ = ds := Option.some.inj h
    subst this
    exact ⟨_, _, rfl, .inr (R.sqT hb), hr⟩
  | scr hb hr =>
    have : _ = ds := Option.some.inj h
    subst this
    exact ⟨_, _, rfl, .inl (R.sqL hb), hr⟩
  | _ => exact other h
/-- list(a) -/
def lCopy (ma : En → Sto → Res D) : En → Sto → Res (List D) := fun env S => (ma env S).bind fun d S1 => match asQ S1 d with
  | some ds => .ok ds S1
  | none => .bad
theorem dl_copy (hK : X.K = T.K) {p : Pos} (hg : Gl X "list") (hm : X.mg "list" = none) (ha : DE X T W a ma) (he : starEach [a] X.env = (false, eval a X.env) :: starEach [] X.env) : DL X T W (.Call (.Name "list" p) [a] [] pos) (lCopy ma) := by
  intro σ B H ρ S env Q R E ok pins s I
  refine (pe_callTy call_list_of hg hm (by decide +kernel) (pa_cons sPE pa_nil he) (by decide) (by decide) he rfl).run pins s σ H Q I (ha σ B H ρ S env _ R E (OkL.bind (P := Rp T) ok fun d S1 B1 H1 ρ1 x _ g1 R1 p1 _ h1 => ?_))
  cases e : asQ S1 d with
  | none => rw [e] at h1; exact h1.elim
  | some ds =>
    rw [e] at h1
    obtain ⟨q, vs, rfl, h2, r⟩ := asQ_rp R1 p1 e
    exact ⟨q, vs, rfl, by rw [hK]; exact h2, h1.new R1 r⟩
/-- a[lo:hi] of a list -/
def mPart (o : Option (En → Sto → Res D)) : En → Sto → Res (Option Int) := match o with
  | none => fun _ S => .ok none S
  | some m => fun env S => (m env S).bind fun d S1 => match d with
    | .int i => .ok (some i) S1
    | _ => .bad
def cutD (ds : List D) (lo hi : Option Int) : List D := (ds.drop (HT.sIx ds.length 0 lo)).take (HT.sIx ds.length ds.length hi - HT.sIx ds.length 0 lo)
theorem Rps.cut {B : Hp} {ρ : List Addr} {ds : List D} {vs : List V} (r : Rps T B ρ ds vs) (lo hi : Option Int) : Rps T B ρ (cutD ds lo hi) (cutV vs lo hi) := by
  unfold cutD cutV
  rw [r.length]
  exact (r.drop _).take _
def tSP (X : Cx) (e : Option Expr) : TO := fun σ H Q => ∀ (pins : List (Addr × Obj)) (s : Shared), Inv X pins σ H s → wpAny (model X.prog X.w) X.A (evalPart e X.env) (fun u s' => ∃ o H', Inv X pins σ H' s' ∧ IsPart u o ∧ Q o H') X.xe s
theorem sPO {e : Option Expr} : PO X e (tSP X e) := ⟨fun pins s _ _ _ I h => h pins s I⟩
def DP (X : Cx) (T : Wp) (W : WX) (e : Option Expr) (m : En → Sto → Res (Option Int)) : Prop :=
  ∀ σ B H ρ S env (Q : Option Int → Hp → Prop), RelS T B H ρ S → EnvR T B ρ σ env → OkG T W σ B H ρ (fun _ _ b c => b = c) (m env S) Q → tSP X e σ H Q
theorem dp_none : DP X T W none (mPart none) := fun σ B H ρ S env Q R E h pins s I => po_none.run pins s σ H Q I (h.ok R rfl)
theorem dp_some (ha : DE X T W a ma) : DP X T W (some a) (mPart (some ma)) := by
  intro σ B H ρ S env Q R E h pins s I
  refine (po_some sPE).run pins s σ H Q I (ha σ B H ρ S env _ R E (OkG.bind (P := Rp T) h fun d S1 B1 H1 ρ1 x _ g1 R1 p1 h1 => ?_))
  cases p1 with
  | int i => exact ⟨i, rfl, h1.ok R1 rfl⟩
  | _ => exact h1.elim
def rSS (X : Cx) : V → Option Int → Option Int → Hp → VK → Prop := fun x lo hi H Q => ∀ (pins : List (Addr × Obj)) (s : Shared) (σ : L2.St) (v vl vu : Value) (sl : Addr), Inv X pins σ H s → RelV x v → s.heap.IsSliceOf sl vl vu .none → IsPart vl lo → IsPart vu hi →
    ∃ T id, typeLookup (.type T) "__getitem__" = pure (some (.builtin id)) ∧ s.TypeIs v T ∧ wpAny (model X.prog X.w) X.A (getItem v (.ref sl)) (EP X pins σ Q) X.xe s
theorem sSl : SlR X (rSS X) := fun pins s σ H x v vl vu lo hi sl Q I rx hs pl pu h => h pins s σ v vl vu sl I rx hs pl pu
variable {lo hi : Option Expr} {mlo mhi : En → Sto → Res (Option Int)} {p2 : Pos}
/-- a[lo:hi], a list, into a new list -/
def lSl (ma : En → Sto → Res D) (mlo mhi : En → Sto → Res (Option Int)) : En → Sto → Res (List D) := fun env S => (ma env S).bind fun d S1 => (mlo env S1).bind fun l S2 => (mhi env S2).bind fun u S3 => match asL S3 d with
  | some ds => .ok (cutD ds l u) S3
  | none => .bad
theorem dl_sl (hK : X.K = T.K) (ha : DE X T W a ma) (hl : DP X T W lo mlo) (hh : DP X T W hi mhi) : DL X T W (.Subscript a (.Slice lo hi none p2) pos) (lSl ma mlo mhi) := by
  intro σ B H ρ S env Q R E ok pins s I
  refine (pe_slice sl_list sPE sPO sPO).run pins s σ H Q I (ha σ B H ρ S env _ R E (OkL.bind (P := Rp T) ok fun d S1 B1 H1 ρ1 x _ g1 R1 p1 _ h1 => ?_))
  refine hl σ B1 H1 ρ1 S1 env _ R1 (E.gr g1) (OkL.bind (P := fun _ _ b c => b = c) h1 fun l S2 B2 H2 ρ2 l' _ g2 R2 p2 _ h2 => ?_)
  subst p2
  refine hh σ B2 H2 ρ2 S2 env _ R2 ((E.gr g1).gr g2) (OkL.bind (P := fun _ _ b c => b = c) h2 fun u S3 B3 H3 ρ3 u' _ g3 R3 p3 _ h3 => ?_)
  subst p3
  cases e : asL S3 d with
  | none => rw [e] at h3; exact h3.elim
  | some ds =>
    rw [e] at h3
    obtain ⟨q, vs, rfl, h4, r⟩ := asL_rp R3 ((g2.trans g3).rp p1) e
    exact ⟨q, vs, rfl, by rw [hK]; exact SqL.of h4, h3.new R3 (r.cut _ _)⟩
/-- a[lo:hi] as a value -/
def slD (d : D) (l u : Option Int) (S : Sto) : Res D := match d with
  | .tup ds => .ok (.tup (cutD ds l u)) S
  | .str z => if z.length ≤ sizeLine then .ok (.str (cutS z l u)) S else .bad
  | d => match asL S d with
    | some ds => .ok (.lst (cutD ds l u)) S
    | none => .bad
def mSl (ma : En → Sto → Res D) (mlo mhi : En → Sto → Res (Option Int)) : En → Sto → Res D := fun env S => (ma env S).bind fun d S1 => (mlo env S1).bind fun l S2 => (mhi env S2).bind fun u S3 => slD d l u S3
theorem cut_whole {α : Type} {ds : List α} {l u : Option Int} (h : HT.sIx ds.length 0 l = 0 ∧ HT.sIx ds.length ds.length u = ds.length) : (ds.drop (HT.sIx ds.length 0 l)).take (HT.sIx ds.length ds.length u - HT.sIx ds.length 0 l) = ds := by
  rw [h.1, h.2]; simp
theorem sl_rd (hK : X.K = T.K) {σ B H ρ S d x l u Q} (R : RelS T B H ρ S) (rd : Rp T B ρ d x) (h : OkE T W σ B H ρ (slD d l u S) Q) : rSS X x l u H Q := by
  intro pins s σ' v vl vu sl I rx hs pl pu
  have other : OkE T W σ B H ρ (match asL S d with | some ds => .ok (.lst (cutD ds l u)) S | none => .bad) Q → ∃ T id, typeLookup (.type T) "__getitem__" = pure (some (.builtin id)) ∧ s.TypeIs v T ∧ wpAny (model X.prog X.w) X.A (getItem v (.ref sl)) (EP X pins σ' Q) X.xe s := fun ok => by
    cases e : asL S d with
    | none => rw [e] at ok; exact ok.elim
    | some ds =>
      rw [e] at ok
      obtain ⟨q, vs, rfl, h4, r⟩ := asL_rp R rd e
      exact sl_list pins s σ' H _ v vl vu l u sl Q I rx hs pl pu ⟨q, vs, rfl, SqL.of h4, ok_lst ok R (r.cut _ _)⟩
  cases rd with
  | tup hb r =>
    rename_i a ds vs
    have ok : OkE T W σ B H ρ (.ok (.tup (cutD ds l u)) S) Q := h
    refine sl_tupA pins s σ' H _ v vl vu l u sl Q I rx hs pl pu ⟨_, _, rfl, by rw [hK]; exact R.sqT hb, fun e => ?_, fun _ => ok_tup ok R (r.cut _ _)⟩
    have e' : cutD ds l u = ds := cut_whole (by rw [r.length]; exact e)
    rw [e'] at ok
    exact ok.ok R (.tup hb r)
  | str z =>
    simp only [slD] at h
    split at h
    · rename_i hl
      exact sl_str pins s σ' H _ v vl vu l u sl Q I rx hs pl pu ⟨z, rfl, hl, h.ok R (.str _)⟩
    · exact h.elim
  | _ => exact other h
theorem de_sl (hK : X.K = T.K) (ha : DE X T W a ma) (hl : DP X T W lo mlo) (hh : DP X T W hi mhi) : DE X T W (.Subscript a (.Slice lo hi none p2) pos) (mSl ma mlo mhi) := by
  intro σ B H ρ S env Q R E ok pins s I
  refine (pe_slice sSl sPE sPO sPO).run pins s σ H Q I (ha σ B H ρ S env _ R E (OkG.bind (P := Rp T) ok fun d S1 B1 H1 ρ1 x _ g1 R1 p1 h1 => ?_))
  refine hl σ B1 H1 ρ1 S1 env _ R1 (E.gr g1) (OkG.bind (P := fun _ _ b c => b = c) h1 fun l S2 B2 H2 ρ2 l' _ g2 R2 p2 h2 => ?_)
  subst p2
  refine hh σ B2 H2 ρ2 S2 env _ R2 ((E.gr g1).gr g2) (OkG.bind (P := fun _ _ b c => b = c) h2 fun u S3 B3 H3 ρ3 u' _ g3 R3 p3 h3 => ?_)
  subst p3
  exact sl_rd hK R3 ((g2.trans g3).rp p1) h3

/-! ### in -/
def asTL (S : Sto) : D → Option PyData
  | d => pyS S d
def inD (d e : D) (S : Sto) : Res D := match e with
  | .str y => (match d with
    | .str x => (match x.cps.toList with
      | [c] => .ok (.bl (decide (c ∈ y.cps.toList))) S
      | _ => .ok (.bl (!(Builtin.Str.occurrences y x 0 y.length 1).isEmpty)) S)
    | _ => .bad)
  | e => match pyS S e, pyS S d with
    | some (.list ps), some p => if SeqAt.shaped p = true ∧ SeqAt.shaped (.list ps) = true then .ok (.bl (ps.any fun z => PyData.eqv z p)) S else .bad
    | some (.tuple ps), some p => if SeqAt.shaped p = true ∧ SeqAt.shaped (.list ps) = true then .ok (.bl (ps.any fun z => PyData.eqv z p)) S else .bad
    | _, _ => .bad
def ninD (d e : D) (S : Sto) : Res D := notD (inD d e S)
theorem one_sign {x : Str} {c : Nat} (h : x.cps.toList = [c]) : x = ⟨#[c]⟩ := Str.ext' (Array.toList_inj.mp h)
theorem op_inT (hu : X.A.units + 65 < cLine) : OpR X (compareOp .In) (fun x y H Q => ∃ d ds, Dp X.K H x d ∧ Dp X.K H y (.tuple ds) ∧ SeqAt.shaped d = true ∧ SeqAt.shaped (.list ds) = true ∧ Q (.bl (ds.any fun z => PyData.eqv z d)) H) := by
  intro pins s σ H x y v u Q I rx ry h
  obtain ⟨d, ds, hd, he, sd, se, q⟩ := h
  obtain ⟨as, r1⟩ := Dp.reads I d x v hd rx
  obtain ⟨bs, r2⟩ := Dp.reads I (.tuple ds) y u he ry
  exact SeqAt.in_tuple_reads r2 r1 (SeqAt.canLay_of_shaped se) (SeqAt.canLay_of_shaped sd) (room_in_shaped sd hu) ⟨.bl _, H, I, rfl, q⟩
theorem op_notInT (hu : X.A.units + 65 < cLine) : OpR X (compareOp .NotIn) (fun x y H Q => ∃ d ds, Dp X.K H x d ∧ Dp X.K H y (.tuple ds) ∧ SeqAt.shaped d = true ∧ SeqAt.shaped (.list ds) = true ∧ Q (.bl (!ds.any fun z => PyData.eqv z d)) H) := by
  intro pins s σ H x y v u Q I rx ry h
  obtain ⟨d, ds, hd, he, sd, se, q⟩ := h
  obtain ⟨as, r1⟩ := Dp.reads I d x v hd rx
  obtain ⟨bs, r2⟩ := Dp.reads I (.tuple ds) y u he ry
  exact SeqAt.notIn_tuple_reads r2 r1 (SeqAt.canLay_of_shaped se) (SeqAt.canLay_of_shaped sd) (room_in_shaped sd hu) ⟨.bl _, H, I, rfl, q⟩
theorem in_other {neg : Bool} {op : CmpOp} (hK : X.K = T.K) (hl : OpR X (compareOp op) (fun x y H Q => ∃ d ds, Dp X.K H x d ∧ Dp X.K H y (.list ds) ∧ SeqAt.shaped d = true ∧ SeqAt.shaped (.list ds) = true ∧ Q (.bl (xor neg (ds.any fun z => PyData.eqv z d))) H))
    (ht : OpR X (compareOp op) (fun x y H Q => ∃ d ds, Dp X.K H x d ∧ Dp X.K H y (.tuple ds) ∧ SeqAt.shaped d = true ∧ SeqAt.shaped (.list ds) = true ∧ Q (.bl (xor neg (ds.any fun z => PyData.eqv z d))) H))
    {σ B H ρ S d e x y Q} (R : RelS T B H ρ S) (rd : Rp T B ρ d x) (re : Rp T B ρ e y)
    (h : OkE T (fun _ _ _ _ => False) σ B H ρ (match pyS S e, pyS S d with
      | some (.list ps), some p => if SeqAt.shaped p = true ∧ SeqAt.shaped (.list ps) = true then .ok (.bl (xor neg (ps.any fun z => PyData.eqv z p))) S else .bad
      | some (.tuple ps), some p => if SeqAt.shaped p = true ∧ SeqAt.shaped (.list ps) = true then .ok (.bl (xor neg (ps.any fun z => PyData.eqv z p))) S else .bad
      | _, _ => .bad) Q) : rS2 X (compareOp op) x y H Q := by
  intro pins s σ' v u I rx ry
  split at h
  · rename_i ps p e1 e2
    split at h
    · rename_i c
      exact hl pins s σ' H x y v u Q I rx ry ⟨p, ps, by rw [hK]; exact pyS_dp R rd e2, by rw [hK]; exact pyS_dp R re e1, c.1, c.2, h.ok R (.bl _)⟩
    · exact h.elim
  · rename_i ps p e1 e2
    split at h
    · rename_i c
      exact ht pins s σ' H x y v u Q I rx ry ⟨p, ps, by rw [hK]; exact pyS_dp R rd e2, by rw [hK]; exact pyS_dp R re e1, c.1, c.2, h.ok R (.bl _)⟩
    · exact h.elim
  · exact h.elim
theorem do_in (hK : X.K = T.K) (hu : X.A.units + 65 < cLine) : DO X T (compareOp .In) inD := by
  intro σ B H ρ S d e x y Q R rd re h
  have other : OkE T (fun _ _ _ _ => False) σ B H ρ (match pyS S e, pyS S d with
      | some (.list ps), some p => if SeqAt.shaped p = true ∧ SeqAt.shaped (.list ps) = true then .ok (.bl (xor false (ps.any fun z => PyData.eqv z p))) S else .bad
      | some (.tuple ps), some p => if SeqAt.shaped p = true ∧ SeqAt.shaped (.list ps) = true then .ok (.bl (xor false (ps.any fun z => PyData.eqv z p))) S else .bad
      | _, _ => .bad) Q → rS2 X (compareOp .In) x y H Q :=
    in_other (neg := false) hK (by simp only [Bool.false_xor]; exact op_inD hu) (by simp only [Bool.false_xor]; exact op_inT hu) R rd re
  simp only [Bool.false_xor] at other
  cases re with
  | str y =>
    cases rd with
    | str x =>
      intro pins s σ' v u I rx ry
      unfold inD at h
      dsimp only at h
      split at h
      · rename_i c e
        have e' := one_sign e
        subst e'
        exact op_in_sign pins s σ' H _ _ v u Q I rx ry ⟨c, y, rfl, rfl, h.ok R (.bl _)⟩
      · exact op_in_str pins s σ' H _ _ v u Q I rx ry ⟨x, y, rfl, rfl, h.ok R (.bl _)⟩
    | _ => exact h.elim
  | _ => exact other h
theorem do_nin (hK : X.K = T.K) (hu : X.A.units + 65 < cLine) : DO X T (compareOp .NotIn) ninD := by
  intro σ B H ρ S d e x y Q R rd re h
  have other : OkE T (fun _ _ _ _ => False) σ B H ρ (match pyS S e, pyS S d with
      | some (.list ps), some p => if SeqAt.shaped p = true ∧ SeqAt.shaped (.list ps) = true then .ok (.bl (xor true (ps.any fun z => PyData.eqv z p))) S else .bad
      | some (.tuple ps), some p => if SeqAt.shaped p = true ∧ SeqAt.shaped (.list ps) = true then .ok (.bl (xor true (ps.any fun z => PyData.eqv z p))) S else .bad
      | _, _ => .bad) Q → rS2 X (compareOp .NotIn) x y H Q :=
    in_other (neg := true) hK (by simp only [Bool.true_xor]; exact op_notInD hu) (by simp only [Bool.true_xor]; exact op_notInT hu) R rd re
  simp only [Bool.true_xor] at other
  have fin : OkE T (fun _ _ _ _ => False) σ B H ρ (notD (match pyS S e, pyS S d with
      | some (.list ps), some p => if SeqAt.shaped p = true ∧ SeqAt.shaped (.list ps) = true then .ok (.bl (ps.any fun z => PyData.eqv z p)) S else .bad
      | some (.tuple ps), some p => if SeqAt.shaped p = true ∧ SeqAt.shaped (.list ps) = true then .ok (.bl (ps.any fun z => PyData.eqv z p)) S else .bad
      | _, _ => .bad)) Q → rS2 X (compareOp .NotIn) x y H Q := fun h => other (by
    split at h
    · split at h
      · rename_i c; rw [if_pos c]; exact h
      · exact h.elim
    · split at h
      · rename_i c; rw [if_pos c]; exact h
      · exact h.elim
    · exact h.elim)
  cases re with
  | str y =>
    cases rd with
    | str x =>
      intro pins s σ' v u I rx ry
      unfold ninD inD at h
      dsimp only at h
      split at h
      · rename_i c e
        have e' := one_sign e
        subst e'
        exact op_notIn_sign pins s σ' H _ _ v u Q I rx ry ⟨c, y, rfl, rfl, h.ok R (.bl _)⟩
      · exact op_notin_str pins s σ' H _ _ v u Q I rx ry ⟨x, y, rfl, rfl, h.ok R (.bl _)⟩
    | _ => exact h.elim
  | _ => exact fin h
end
end Z

set_option Elab.async false
set_option linter.all false
set_option maxRecDepth 100000
set_option maxHeartbeats 4000000
/-! The Z layer, part F: built-in functions on data. -/
namespace Z
section
open PySem PySem.Calls PySem.NumText PyProof.Rows PySem.W
theorem wp_textL {M : Model} {A : Around} {E : Value → Shared → Prop} {s : Shared} {Q : Value → Shared → Prop} {v : Value} {text : List Nat} {n : Int} (hn : s.heap.NoDigits)
    (hs : ¬ (text.takeWhile (· != 0)).length ≤ 640) (hr : (int_private% "readNumeral") 4300 10 (text.takeWhile (· != 0)) = (int_private% "Numeral.value") n)
    (ha : ((text.takeWhile (· != 0)).length == text.length) = true) (h : Q (.int n s.toks) { s with toks := s.toks + 1 }) :
    wpAny M A ((int_private% "intFromText") v text 10) Q E s := by
  have lim : ∀ {Q' : Nat → Shared → Prop}, Q' 4300 s → wpAny M A Builtin.intMaxStrDigits Q' E s := fun {Q'} q => by
    obtain ⟨mc, hns, hnone⟩ := hn
    unfold Builtin.intMaxStrDigits
    refine wpAny_bind (wpAny_nsGet hns ?_)
    rw [hnone]
    exact wpAny_pure q
  clear hn
  obtain ⟨hp, g, d, tk, os⟩ := s
  repeat (any_goals (first
    | assumption
    | (with_reducible refine wpAny_ite_false (decide_eq_false hs) ?_)
    | (with_reducible refine lim ?_)
    | (with_reducible refine wpAny_ite_true (decide_eq_true ha) ?_)
    | wp_step))
  all_goals (try rw [hr])
  all_goals (try dsimp only)
  repeat (any_goals (first
    | assumption
    | (with_reducible refine wpAny_ite_true (decide_eq_true ha) ?_)
    | wp_step))
structure Hid (p : Prop) : Prop where
  out : p
theorem wp_newL {x : PySem.Str} {u : Tok} {n : Int} (hl : ¬ (numSeenOf x).length ≤ 640) (hz : x.length ≤ sizeLine) (hn : PySem.intText? x = some n) {M : Model} {A : Around} {E : Value → Shared → Prop} {s : Shared} {Q : Value → Shared → Prop} (hd : s.heap.NoDigits) (h : Q (.int n s.toks) { s with toks := s.toks + 1 }) :
    wpAny M A (Builtin.«int.__new__» ⟨[.type "int", .str x u], []⟩) (fun fin s' => ∃ v, fin = .done (.ret v) ∧ Q v s') E s := by
  obtain ⟨hp, g, d, tk, os⟩ := s
  have f1 := F.conv_sub_int
  have f2 := F.madeHere_int
  have f3 := KIN.str_int
  have f4 := KIN.str_idx
  have f5 := KIN.str_trunc
  have f6 : typeOf (.str x u) = pure (.type "str") := rfl
  have hr : (int_private% "readNumeral") 4300 10 (numSeenOf x) = (int_private% "Numeral.value") n ∧ ((numSeenOf x).length == (numTextOf x).length) = true := by
    rcases read4300 x hz with ⟨m, h1, h2, h3⟩ | ⟨h1, _⟩
    · rw [hn] at h1
      injection h1 with h1
      subst h1
      exact ⟨h3, h2⟩
    · rw [hn] at h1
      cases h1
  have hk := Hid.mk (And.intro hd (And.intro hl hr))
  clear hl hr hz hn hd
  repeat (any_goals (first
    | assumption
    | ((with_reducible show wpAny _ _ ((int_private% "intFromText") _ _ _) _ _ _); refine wp_textL hk.out.1 hk.out.2.1 hk.out.2.2.1 hk.out.2.2.2 ?_)
    | wp_step))
  all_goals first | exact ⟨_, rfl, h⟩ | skip
theorem call_textL {prog : Program} {w : World} {A : Around} {E : Value → Shared → Prop} {s : Shared} {Q : Value → Shared → Prop} {x : PySem.Str} {t : Tok} {n : Int} (hn : PySem.intText? x = some n) (hz : x.length ≤ sizeLine) (hc : x.length ≤ 640 ∨ 640 < (numSeenOf x).length) (hd : s.heap.NoDigits)
    (h : Q (.int n s.toks) { s with toks := s.toks + 1 }) : wpAny (model prog w) A (call (.type "int") [.str x t]) Q E s := by
  rcases hc with hc | hc
  · exact KIN.call_text hn hc h
  · exact call_int_1 (S := fun A R s => s.heap.NoDigits ∧ R (.ok (.ret (.int n s.toks))) { s with toks := s.toks + 1 }) (fun prog w A R s hS =>
      wpAny_mono (wp_newL (A := A.in1) (E := fun e s' => R (.error e) s') (Q := fun v s' => R (.ok (.ret v)) s') (Nat.not_le.mpr hc) hz hn hS.1 hS.2) (fun fin s' h' => by obtain ⟨v, rfl, hv⟩ := h'; exact hv) fun _ _ x => x) ⟨hd, rfl, h⟩
theorem ns_none {K : Frag} {h : Heap} {m : Str → Option Value} {a : Addr} {n : Str} (X : K.In h) (G : h.Ns a m) (e : nsIn K a n = some none) : m n = none := by
  obtain ⟨o, es, ep, ho, hd, _, hf⟩ := G
  unfold nsIn at e
  split at e
  · rename_i c d es' n' sl q
    have := X _ _ q
    rw [ho] at this
    cases this
    cases hd
    split at e
    · cases e
    · rename_i he
      rw [← hf]
      unfold nsFind findBy
      rw [← Array.find?_toList, he]
      rfl
  · cases e
end
open PySem PySem.Spec PyProof.Rows L2
/-- the digits' limit was not set -/
abbrev DgOk (K : PySem.W.Frag) : Prop := PySem.W.nsIn K cStatics "sys.int_max_str_digits" = some none
theorem noDig {X : L2.Cx} {pins : List (Addr × Obj)} {σ : List (Option L2.V)} {H : L2.Hp} {s : Shared} (I : L2.Inv X pins σ H s) (e : DgOk X.K) : s.heap.NoDigits := by
  obtain ⟨mc, h1, _⟩ := I.nolimit
  exact ⟨mc, h1, ns_none I.kIn h1 e⟩
open PySem PySem.Spec PyProof.Rows L2
section
variable {X : Cx} {T : Wp} {W : WX}
theorem Rps.one {B : Hp} {ρ : List Addr} {d : D} {xs : List V} (r : Rps T B ρ [d] xs) : ∃ x, xs = [x] ∧ Rp T B ρ d x := by
  cases r with
  | cons r t => cases t; exact ⟨_, rfl, r⟩
theorem Rps.two {B : Hp} {ρ : List Addr} {d e : D} {xs : List V} (r : Rps T B ρ [d, e] xs) : ∃ x y, xs = [x, y] ∧ Rp T B ρ d x ∧ Rp T B ρ e y := by
  cases r with
  | cons r t =>
    cases t with
    | cons r' t' => cases t'; exact ⟨_, _, rfl, r, r'⟩
def lenD (ds : List D) (S : Sto) : Res D := match ds with
  | [.str z] => if z.length ≤ sizeLine then .ok (.int z.length) S else .bad
  | [d] => (match asQ S d with
    | some xs => .ok (.int xs.length) S
    | none => .bad)
  | _ => .bad
theorem dc_len (hK : X.K = T.K) : DC X T (.builtin "len") lenD := by
  intro σ B H ρ S ds xs Q R r h pins s σ' us I rx
  unfold lenD at h
  split at h
  · rename_i z
    obtain ⟨x, rfl, r1⟩ := r.one
    cases r1
    split at h
    · rename_i hl
      exact call_len_str pins s σ' H _ us Q I rx ⟨z, rfl, hl, h.ok R (.int _)⟩
    · exact h.elim
  · rename_i d _
    obtain ⟨x, rfl, r1⟩ := r.one
    cases e : asQ S d with
    | none => rw [e] at h; exact h.elim
    | some ds =>
      rw [e] at h
      obtain ⟨p, vs, rfl, h2, r2⟩ := asQ_rp R r1 e
      refine call_len_seq pins s σ' H _ us Q I rx ⟨p, vs, rfl, by rw [hK]; exact h2, ?_⟩
      rw [← r2.length]
      exact h.ok R (.int _)
  · exact h.elim
def absD (ds : List D) (S : Sto) : Res D := match ds with
  | [.int i] => .ok (.int (if i < 0 then -i else i)) S
  | _ => .bad
theorem dc_abs : DC X T (.builtin "abs") absD := by
  intro σ B H ρ S ds xs Q R r h pins s σ' us I rx
  unfold absD at h
  split at h
  · rename_i i
    obtain ⟨x, rfl, r1⟩ := r.one
    cases r1
    exact call_abs pins s σ' H _ us Q I rx ⟨i, rfl, h.ok R (.int _)⟩
  · exact h.elim
def intD (ds : List D) (S : Sto) : Res D := match ds with
  | [.int i] => .ok (.int i) S
  | [.bl k] => .ok (.int (if k then 1 else 0)) S
  | [.str z] => (match PySem.intText? z with
    | some n => if z.length ≤ sizeLine ∧ (z.length ≤ 640 ∨ 640 < (numSeenOf z).length) then .ok (.int n) S else .bad
    | none => .bad)
  | _ => .bad
theorem dc_int (hg : DgOk X.K) : DC X T (.type "int") intD := by
  intro σ B H ρ S ds xs Q R r h pins s σ' us I rx
  unfold intD at h
  split at h
  · rename_i i
    obtain ⟨x, rfl, r1⟩ := r.one
    cases r1
    exact call_int1 pins s σ' H _ us Q I rx (.inl ⟨i, rfl, h.ok R (.int _)⟩)
  · rename_i k
    obtain ⟨x, rfl, r1⟩ := r.one
    cases r1
    exact call_int1 pins s σ' H _ us Q I rx (.inr ⟨k, rfl, h.ok R (.int _)⟩)
  · rename_i z
    obtain ⟨x, rfl, r1⟩ := r.one
    cases r1
    cases e : PySem.intText? z with
    | none => rw [e] at h; exact h.elim
    | some n =>
      rw [e] at h
      dsimp only at h
      split at h
      · rename_i hl
        have hq : Q (.int n) H := h.ok R (.int _)
        cases rx with
        | cons r1 rs =>
          cases rs
          obtain ⟨t, rfl⟩ := r1
          exact call_textL e hl.1 hl.2 (noDig I hg) ⟨.int n, H, I.tok _, ⟨_, rfl⟩, hq⟩
      · exact h.elim
  · exact h.elim
def asInts : List D → Option (List Int)
  | [] => some []
  | .int i :: ds => (asInts ds).map (i :: ·)
  | _ => none
theorem asInts_eq : ∀ {ds : List D} {ns : List Int}, asInts ds = some ns → ds = ns.map D.int
  | [], ns, h => by
    have : [] = ns := Option.some.inj h
    subst this; rfl
  | .int i :: ds, ns, h => by
    unfold asInts at h
    cases e : asInts ds with
    | none => rw [e] at h; cases h
    | some ms =>
      rw [e] at h
      have : i :: ms = ns := Option.some.inj h
      subst this
      rw [List.map_cons, ← asInts_eq e]
  | .non :: _, _, h => by cases h
  | .bl _ :: _, _, h => by cases h
  | .str _ :: _, _, h => by cases h
  | .tup _ :: _, _, h => by cases h
  | .lst _ :: _, _, h => by cases h
  | .ins _ _ _ :: _, _, h => by cases h
  | .ref _ :: _, _, h => by cases h
  | .cls _ :: _, _, h => by cases h
  | .ty _ :: _, _, h => by cases h
  | .exn _ _ :: _, _, h => by cases h
  | .scr _ :: _, _, h => by cases h
  | .nim :: _, _, h => by cases h
theorem asInts_ints (ns : List Int) : asInts (ns.map D.int) = some ns := by
  induction ns with
  | nil => rfl
  | cons n ns ih => simp only [List.map_cons, asInts, ih, Option.map_some]
/-- a list, not a tuple -/
def asR (S : Sto) : D → Option (List D)
  | .scr ds => some ds
  | d => asL S d
theorem asR_rp {B H : Hp} {ρ : List Addr} {S : Sto} {d : D} {v : V} {ds : List D} (R : RelS T B H ρ S) (r : Rp T B ρ d v) (h : asR S d = some ds) : ∃ a vs, v = .ref a ∧ SqL T.K H a vs ∧ Rps T B ρ ds vs := by
  have other : asL S d = some ds → ∃ a vs, v = .ref a ∧ SqL T.K H a vs ∧ Rps T B ρ ds vs := fun e => by
    obtain ⟨a, vs, e1, e2, e3⟩ := asL_rp R r e
    exact ⟨a, vs, e1, SqL.of e2, e3⟩
  cases r with
  | scr hb hr =>
    have : _ = ds := Option.some.inj h
    subst this
    exact ⟨_, _, rfl, R.sqL hb, hr⟩
  | _ => exact other h
def sumD (ds : List D) (S : Sto) : Res D := match ds with
  | [d] => (match asR S d with
    | some xs => (match asInts xs with
      | some ns => .ok (.int ns.sum) S
      | none => .bad)
    | none => .bad)
  | _ => .bad
theorem dc_sum (hK : X.K = T.K) (hc : X.calm = true) : DC X T (.builtin "sum") sumD := by
  intro σ B H ρ S ds xs Q R r h pins s σ' us I rx
  unfold sumD at h
  split at h
  · rename_i d
    obtain ⟨x, rfl, r1⟩ := r.one
    cases e : asR S d with
    | none => rw [e] at h; exact h.elim
    | some ds =>
      cases e2 : asInts ds with
      | none => simp only [e, e2] at h; exact h.elim
      | some ns =>
        simp only [e, e2] at h
        obtain ⟨p, vs, rfl, h2, r2⟩ := asR_rp R r1 e
        rw [asInts_eq e2] at r2
        rw [r2.ints] at h2
        exact cr_sum hc pins s σ' H _ us Q I rx ⟨p, ns, rfl, by rw [hK]; exact h2, h.ok R (.int _)⟩
  · exact h.elim
def strD (ds : List D) (S : Sto) : Res D := match ds with
  | [.int i] => if i.natAbs < 10 ^ 4300 then .ok (.str (Str.ofString (toString i))) S else .bad
  | _ => .bad
theorem dc_str (hh : X.A.handled = none) (hg : DgOk X.K) : DC X T (.type "str") strD := by
  intro σ B H ρ S ds xs Q R r h pins s σ' us I rx
  unfold strD at h
  split at h
  · rename_i i
    obtain ⟨x, rfl, r1⟩ := r.one
    cases r1
    split at h
    · rename_i hl
      have hq : Q (.str (Str.ofString (toString i))) H := h.ok R (.str _)
      cases rx with
      | cons r1 rs =>
        cases rs
        obtain ⟨t, rfl⟩ := r1
        exact str_of_int_or hh (noDig I hg) (fun _ => ⟨.str _, H, I.tok _, ⟨_, rfl⟩, hq⟩) fun h => absurd hl (Nat.not_lt.mpr h)
    · exact h.elim
  · exact h.elim
def tupD (ds : List D) (S : Sto) : Res D := match ds with
  | [.tup xs] => .ok (.tup xs) S
  | [d] => (match asR S d with
    | some xs => .ok (.tup xs) S
    | none => .bad)
  | _ => .bad
theorem dc_tuple (hK : X.K = T.K) : DC X T (.type "tuple") tupD := by
  intro σ B H ρ S ds xs Q R r h pins s σ' us I rx
  unfold tupD at h
  split at h
  · rename_i zs
    obtain ⟨x, rfl, r1⟩ := r.one
    cases r1 with
    | tup hb r2 => exact call_tuple_of pins s σ' H _ us Q I rx ⟨_, _, rfl, .inr ⟨by rw [hK]; exact R.sqT hb, h.ok R (.tup hb r2)⟩⟩
  · rename_i d _
    obtain ⟨x, rfl, r1⟩ := r.one
    cases e : asR S d with
    | none => rw [e] at h; exact h.elim
    | some ds =>
      rw [e] at h
      obtain ⟨p, vs, rfl, h2, r2⟩ := asR_rp R r1 e
      exact call_tuple_of pins s σ' H _ us Q I rx ⟨p, vs, rfl, .inl ⟨by rw [hK]; exact h2, ok_tup h R r2⟩⟩
  · exact h.elim
def maxD (ds : List D) (S : Sto) : Res D := match ds with
  | [.int i, .int j] => .ok (.int (if j > i then j else i)) S
  | _ => .bad
theorem dc_max (hc : X.calm = true) : DC X T (.builtin "max") maxD := by
  intro σ B H ρ S ds xs Q R r h pins s σ' us I rx
  unfold maxD at h
  split at h
  · rename_i i j
    obtain ⟨x, y, rfl, r1, r2⟩ := r.two
    cases r1
    cases r2
    exact call_max2 hc pins s σ' H _ us Q I rx ⟨i, j, rfl, h.ok R (.int _)⟩
  · exact h.elim
def minD (ds : List D) (S : Sto) : Res D := match ds with
  | [.int i, .int j] => .ok (.int (if j < i then j else i)) S
  | _ => .bad
theorem dc_min (hc : X.calm = true) : DC X T (.builtin "min") minD := by
  intro σ B H ρ S ds xs Q R r h pins s σ' us I rx
  unfold minD at h
  split at h
  · rename_i i j
    obtain ⟨x, y, rfl, r1, r2⟩ := r.two
    cases r1
    cases r2
    exact call_min2 hc pins s σ' H _ us Q I rx ⟨i, j, rfl, h.ok R (.int _)⟩
  · exact h.elim
def gcdD (ds : List D) (S : Sto) : Res D := match ds with
  | [.int i, .int j] => .ok (.int ((Nat.gcd i.natAbs j.natAbs : Nat) : Int)) S
  | _ => .bad
theorem dc_gcd : DC X T (.builtin "math.gcd") gcdD := by
  intro σ B H ρ S ds xs Q R r h pins s σ' us I rx
  unfold gcdD at h
  split at h
  · rename_i i j
    obtain ⟨x, y, rfl, r1, r2⟩ := r.two
    cases r1
    cases r2
    exact cr_gcd pins s σ' H _ us Q I rx ⟨i, j, rfl, h.ok R (.int _)⟩
  · exact h.elim
/-! ### isinstance -/
def isSub (a b : Ty) : Bool := decide (a = b) || (decide (a = .bool) && decide (b = .int))
theorem kitB_is : ∀ a b : Ty, kitB (tyS a) (tyS b) = some (isSub a b) := by
  intro a b
  cases a <;> cases b <;> decide +kernel
def tyOf (S : Sto) : D → Option Ty
  | .non => some .none
  | .bl _ => some .bool
  | .int _ => some .int
  | .str _ => some .str
  | .tup _ => some .tuple
  | .lst _ => some .list
  | .ref n => match look S n with
    | some (.lst _) => some .list
    | some (.frz _) => some .list
    | some (.dK _) => some .dict
    | some (.dT _) => some .dict
    | _ => none
  | _ => none
theorem tyOf_is {B H : Hp} {ρ : List Addr} {S : Sto} {d : D} {v : V} {t : Ty} (R : RelS T B H ρ S) (r : Rp T B ρ d v) (h : tyOf S d = some t) : TyX T.K H v (.type (tyS t)) := by
  cases r with
  | non => cases h; exact .base .non
  | bl b => cases h; exact .base (.bl b)
  | int b => cases h; exact .base (.int b)
  | str b => cases h; exact .base (.str b)
  | tup hb _ =>
    cases h
    rcases hb with hb | ⟨o, its, n, hk, hc, _⟩
    · exact .base (.tup (R.sub _ _ hb))
    · exact .kTuple hk hc
  | lst hb _ => cases h; exact .base (.lst (R.sub _ _ hb))
  | ref hl =>
    obtain ⟨o, ho, hx⟩ := R.there hl
    unfold tyOf at h
    dsimp only at h
    rw [ho] at h
    cases o with
    | lst es => cases h; obtain ⟨_, vs, h2, _⟩ := hx; exact .base (.lst h2)
    | frz es => cases h; obtain ⟨vs, h2, _⟩ := hx; exact .base (.lst (R.sub _ _ h2))
    | dK es => cases h; obtain ⟨_, vs, h2, _⟩ := hx; exact .base (.dK h2)
    | dT es => cases h; obtain ⟨_, vs, h2, _⟩ := hx; exact .base (.dT h2)
    | ins c fs ds => cases h
  | _ => cases h
def isiD (ds : List D) (S : Sto) : Res D := match ds with
  | [d, .ty t] => (match tyOf S d with
    | some a => .ok (.bl (isSub a t)) S
    | none => .bad)
  | [d, .tup [.ty t, .ty u]] => (match tyOf S d with
    | some a => .ok (.bl (isSub a t || isSub a u)) S
    | none => .bad)
  | _ => .bad
theorem dc_isi (hK : X.K = T.K) : DC X T (.builtin "isinstance") isiD := by
  intro σ B H ρ S ds xs Q R r h pins s σ' us I rx
  unfold isiD at h
  split at h
  · rename_i d t
    obtain ⟨x, y, rfl, r1, r2⟩ := r.two
    cases r2
    cases e : tyOf S d with
    | none => rw [e] at h; exact h.elim
    | some a =>
      rw [e] at h
      exact call_isi pins s σ' H _ us Q I rx ⟨x, .ty (tyS t), _, _, _, rfl, .ty _, by rw [hK]; exact tyOf_is R r1 e, kit_ty (kitB_is a t), h.ok R (.bl _)⟩
  · rename_i d t u
    obtain ⟨x, y, rfl, r1, r2⟩ := r.two
    cases e : tyOf S d with
    | none => rw [e] at h; exact h.elim
    | some a =>
      rw [e] at h
      cases r2 with
      | tup hb rr =>
        rename_i p vs
        cases rr with
        | cons q1 rr =>
          cases rr with
          | cons q2 rr =>
            cases rr
            cases q1
            cases q2
            have hk : PySem.W.kitAny T.K (.type (tyS a)) [.type (tyS t), .type (tyS u)] = some (isSub a t || isSub a u) := by
              refine kitAny_cons (kit_ty (kitB_is a t)) (fun hf => kitAny_cons (kit_ty (kitB_is a u)) (fun hg => ?_) (fun hg => ?_)) (fun hf => ?_)
              · rw [hf, hg]; exact kitAny_nil
              · rw [hf, hg]; rfl
              · rw [hf]; rfl
            rcases hb with hb | ⟨o, its, n, hk', hc, hd, hz, rv⟩
            · exact call_isiT pins s σ' H _ us Q I rx ⟨x, p, _, _, [.type (tyS t), .type (tyS u)], _, rfl, R.sub _ _ hb, .cons (.ty _) (.cons (.ty _) .nil), by rw [hK]; exact tyOf_is R r1 e, by rw [hK]; exact hk, h.ok R (.bl _)⟩
            · obtain ⟨oc, od, dt, sl⟩ := o
              dsimp only at hc hd
              subst hc hd
              have e2 : its = [Value.type (tyS t), Value.type (tyS u)].toArray := by
                have := ClsV.all (.cons (.ty (tyS t)) (.cons (.ty (tyS u)) .nil)) rv
                exact Array.toList_inj.mp this
              subst e2
              exact call_isiK pins s σ' H _ us Q I rx ⟨x, p, od, _, n, sl, _, _, rfl, by rw [hK]; exact hk', by rw [hK]; exact tyOf_is R r1 e, by rw [hK]; exact hk, h.ok R (.bl _)⟩
  · exact h.elim
end
end Z

set_option Elab.async false
set_option linter.all false
set_option maxRecDepth 100000
set_option maxHeartbeats 4000000
/-! The Z layer, part G: statements, targets, what is walked, loops. -/
namespace Z
open PySem PySem.Spec PyProof.Rows L2
open Classical in
/-- how a statement ends -/
inductive Out where
  | nx (env : En) (S : Sto) | rt (d : D) (S : Sto) | bk (env : En) (S : Sto) | ct (env : En) (S : Sto) | exc (c : Nat) (x : D) (env : En) (S : Sto) | bad
def OkS (T : Wp) (W : WX) (B H : Hp) (ρ : List Addr) (r : Out) (E : Ends) : Prop := match r with
  | .nx env' S' => ∀ σ' B' H' ρ', Gr B H ρ B' H' ρ' → RelS T B' H' ρ' S' → EnvR T B' ρ' σ' env' → E.nx σ' H'
  | .bk env' S' => ∀ σ' B' H' ρ', Gr B H ρ B' H' ρ' → RelS T B' H' ρ' S' → EnvR T B' ρ' σ' env' → E.bk σ' H'
  | .ct env' S' => ∀ σ' B' H' ρ', Gr B H ρ B' H' ρ' → RelS T B' H' ρ' S' → EnvR T B' ρ' σ' env' → E.ct σ' H'
  | .rt d S' => ∀ B' H' ρ' v, Gr B H ρ B' H' ρ' → RelS T B' H' ρ' S' → Rp T B' ρ' d v → E.rt v H'
  | .exc c x env' S' => ∀ σ' B' H' ρ' v dd, Gr B H ρ B' H' ρ' → RelS T B' H' ρ' S' → EnvR T B' ρ' σ' env' → Rp T B' ρ' x v → H' dd = some (.xd [(T.exf c, v)]) → W (.ref (T.cad c)) (some dd) σ' H'
  | .bad => False
def toOut {α : Type} (r : Res α) (env : En) (k : α → Sto → Out) : Out := match r with
  | .ok a S => k a S
  | .exc c x S => .exc c x env S
  | .bad => .bad
@[simp] theorem toOut_ok {α : Type} (a : α) (S : Sto) (env : En) (k : α → Sto → Out) : toOut (.ok a S) env k = k a S := rfl
section
variable {T : Wp} {W : WX} {σ : L2.St} {B B' H H' : Hp} {ρ ρ' : List Addr} {S S' : Sto} {env : En}
theorem OkS.gr {r : Out} {E : Ends} (h : OkS T W B H ρ r E) (g : Gr B H ρ B' H' ρ') : OkS T W B' H' ρ' r E := by
  cases r with
  | nx e S => exact fun σ' B2 H2 ρ2 g2 => h σ' B2 H2 ρ2 (g.trans g2)
  | bk e S => exact fun σ' B2 H2 ρ2 g2 => h σ' B2 H2 ρ2 (g.trans g2)
  | ct e S => exact fun σ' B2 H2 ρ2 g2 => h σ' B2 H2 ρ2 (g.trans g2)
  | rt d S => exact fun B2 H2 ρ2 v g2 => h B2 H2 ρ2 v (g.trans g2)
  | exc c x e S => exact fun σ' B2 H2 ρ2 v dd g2 => h σ' B2 H2 ρ2 v dd (g.trans g2)
  | bad => exact h
/-- an expression's answer, then the statement's end -/
theorem OkS.expr {α γ : Type} {P : Hp → List Addr → α → γ → Prop} {r : Res α} {k : α → Sto → Out} {E : Ends} (h : OkS T W B H ρ (toOut r env k) E) (er : EnvR T B ρ σ env) {R : γ → Hp → Prop}
    (f : ∀ a S1 B1 H1 ρ1 v, r = .ok a S1 → Gr B H ρ B1 H1 ρ1 → RelS T B1 H1 ρ1 S1 → P B1 ρ1 a v → OkS T W B1 H1 ρ1 (k a S1) E → R v H1) : OkG T W σ B H ρ P r R := by
  cases r with
  | ok a S1 =>
    intro B1 H1 ρ1 v g R1 p
    exact f a S1 B1 H1 ρ1 v rfl g R1 p (OkS.gr (show OkS T W B H ρ (k a S1) E from h) g)
  | exc c x S1 => exact fun B1 H1 ρ1 v dd g R1 p hd => h σ B1 H1 ρ1 v dd g R1 (er.gr g) p hd
  | bad => exact h
theorem OkS.nx {E : Ends} (h : OkS T W B H ρ (.nx env S) E) (R : RelS T B H ρ S) (er : EnvR T B ρ σ env) : E.nx σ H := h σ B H ρ Gr.refl R er
end
def tSS (X : Cx) (st : Stmt) : TS := fun E σ H => ∀ pins s, Inv X pins σ H s → wpAny (model X.prog X.w) X.A (exec st X.env) (SP X pins E) X.xe s
theorem sPS {X : Cx} {st : Stmt} : PS X st (tSS X st) := ⟨fun pins s _ _ _ I h => h pins s I⟩
def tSB (X : Cx) (sts : List Stmt) : TS := fun E σ H => ∀ pins s, Inv X pins σ H s → wpAny (model X.prog X.w) X.A (execs sts X.env) (SP X pins E) X.xe s
theorem sPB {X : Cx} {sts : List Stmt} : PSs X sts (tSB X sts) := ⟨fun pins s _ _ _ I h => h pins s I⟩
def DS (X : Cx) (T : Wp) (W : WX) (st : Stmt) (m : En → Sto → Out) : Prop :=
  ∀ σ B H ρ S env E, RelS T B H ρ S → EnvR T B ρ σ env → OkS T W B H ρ (m env S) E → tSS X st E σ H
def DB (X : Cx) (T : Wp) (W : WX) (sts : List Stmt) (m : En → Sto → Out) : Prop :=
  ∀ σ B H ρ S env E, RelS T B H ρ S → EnvR T B ρ σ env → OkS T W B H ρ (m env S) E → tSB X sts E σ H

section
variable {X : Cx} {T : Wp} {W : WX} {e : Expr} {st : Stmt} {sts : List Stmt} {pos : Pos} {m : En → Sto → Res D} {ms mr mb mc : En → Sto → Out}
/-! ### blocks, small statements -/
def sNil : En → Sto → Out := fun env S => .nx env S
def sCons (m1 m2 : En → Sto → Out) : En → Sto → Out := fun env S => match m1 env S with
  | .nx env' S' => m2 env' S'
  | r => r
theorem db_nil : DB X T W [] sNil := fun σ B H ρ S env E R er h pins s I => pss_nil.run pins s σ H E I (h.nx R er)
/-- the end of a first statement -/
theorem seq_ok {B H : Hp} {ρ : List Addr} {r : Out} {E : Ends} {k : En → Sto → Out} (h : OkS T W B H ρ (match r with | .nx env' S' => k env' S' | r => r) E)
    (f : ∀ σ1 B1 H1 ρ1 env1 S1, RelS T B1 H1 ρ1 S1 → EnvR T B1 ρ1 σ1 env1 → OkS T W B1 H1 ρ1 (k env1 S1) E → tSB X sts E σ1 H1) : OkS T W B H ρ r { E with nx := tSB X sts E } := by
  cases r with
  | nx e S => exact fun σ' B2 H2 ρ2 g2 R2 er2 => f σ' B2 H2 ρ2 e S R2 er2 (OkS.gr (show OkS T W B H ρ (k e S) E from h) g2)
  | bk e S => exact h
  | ct e S => exact h
  | rt d S => exact h
  | exc c x e S => exact h
  | bad => exact h
theorem db_cons (h1 : DS X T W st ms) (h2 : DB X T W sts mr) : DB X T W (st :: sts) (sCons ms mr) := by
  intro σ B H ρ S env E R er h pins s I
  exact (pss_cons sPS sPB).run pins s σ H E I (h1 σ B H ρ S env _ R er (seq_ok h fun σ1 B1 H1 ρ1 env1 S1 R1 er1 ok => h2 σ1 B1 H1 ρ1 S1 env1 E R1 er1 ok))
theorem db_one (h1 : DS X T W st ms) : DB X T W [st] ms := fun σ B H ρ S env E R er h pins s I => (pss_one sPS).run pins s σ H E I (h1 σ B H ρ S env E R er h)
def sBrk : En → Sto → Out := fun env S => .bk env S
def sCnt : En → Sto → Out := fun env S => .ct env S
theorem ds_pass : DS X T W (.Pass pos) sNil := fun σ B H ρ S env E R er h pins s I => ps_pass.run pins s σ H E I (h.nx R er)
theorem ds_break : DS X T W (.Break pos) sBrk := fun σ B H ρ S env E R er h pins s I => ps_break.run pins s σ H E I (h σ B H ρ Gr.refl R er)
theorem ds_continue : DS X T W (.Continue pos) sCnt := fun σ B H ρ S env E R er h pins s I => ps_continue.run pins s σ H E I (h σ B H ρ Gr.refl R er)
def sRet (m : En → Sto → Res D) : En → Sto → Out := fun env S => toOut (m env S) env fun d S1 => .rt d S1
theorem ds_ret (he : DE X T W e m) : DS X T W (.Return (some e) pos) (sRet m) := fun σ B H ρ S env E R er h pins s I => (ps_ret sPE).run pins s σ H E I
  (he σ B H ρ S env _ R er (OkS.expr (P := Rp T) h er fun d S1 B1 H1 ρ1 v _ g1 R1 p1 ok => ok B1 H1 ρ1 v Gr.refl R1 p1))
def sRetN : En → Sto → Out := fun _ S => .rt .non S
theorem ds_retN : DS X T W (.Return none pos) sRetN := fun σ B H ρ S env E R er h pins s I => ps_retN.run pins s σ H E I (h B H ρ .non Gr.refl R .non)
def sExpr (m : En → Sto → Res D) : En → Sto → Out := fun env S => toOut (m env S) env fun _ S1 => .nx env S1
theorem ds_expr (he : DE X T W e m) (hs : swapsWith e none pos.line X.env = pure false) : DS X T W (.Expr e pos) (sExpr m) := fun σ B H ρ S env E R er h pins s I => (ps_expr sPE hs).run pins s σ H E I
  (he σ B H ρ S env _ R er (OkS.expr (P := Rp T) h er fun d S1 B1 H1 ρ1 v _ g1 R1 p1 ok => ok.nx R1 (er.gr g1)))
def sIf (mt : En → Sto → Res Bool) (ma mb : En → Sto → Out) : En → Sto → Out := fun env S => toOut (mt env S) env fun k S1 => if k then ma env S1 else mb env S1
theorem ds_if {c : Expr} {a b : List Stmt} {mt : En → Sto → Res Bool} (hc : DT X T W c mt) (ha : DB X T W a mb) (hb : DB X T W b mc) : DS X T W (.If c a b pos) (sIf mt mb mc) := by
  intro σ B H ρ S env E R er h pins s I
  refine (ps_if sPT sPB sPB).run pins s σ H E I (hc σ B H ρ S env _ R er (OkS.expr (P := fun _ _ b c => b = c) h er fun k S1 B1 H1 ρ1 v _ g1 R1 p1 ok => ?_))
  subst p1
  cases k with
  | true => exact ha σ B1 H1 ρ1 S1 env E R1 (er.gr g1) ok
  | false => exact hb σ B1 H1 ρ1 S1 env E R1 (er.gr g1) ok
/-- code never reached -/
def sBad : En → Sto → Out := fun _ _ => .bad
theorem ds_bad : DS X T W st sBad := fun σ B H ρ S env E R er h => h.elim
theorem db_bad : DB X T W sts sBad := fun σ B H ρ S env E R er h => h.elim

/-! ### targets -/
inductive Tg where
  | nm (i : Nat) | tp (ts : List Nat)
def setAll : List Nat → List D → En → Option En
  | [], [], env => some env
  | i :: is, d :: ds, env => setAll is ds (env.set i (some d))
  | _, _, _ => none
def Tg.put : Tg → D → En → Option En
  | .nm i, d, env => some (env.set i (some d))
  | .tp is, .tup ds, env => setAll is ds env
  | .tp _, _, _ => none
def Tg.slots : Tg → List Nat
  | .nm i => [i]
  | .tp is => is
/-- all slots but these are as they were -/
def But (l : List Nat) (σ σ' : L2.St) : Prop := σ'.length = σ.length ∧ ∀ j, j ∉ l → σ'[j]? = σ[j]?
theorem But.set {σ σ' : L2.St} {l : List Nat} {i : Nat} {x : Option V} (h : But l (σ.set i x) σ') : But (i :: l) σ σ' := by
  refine ⟨by rw [h.1, List.length_set], fun j hj => ?_⟩
  simp only [List.mem_cons, not_or] at hj
  rw [h.2 j hj.2, List.getElem?_set_ne (Ne.symm hj.1)]
def tSG (X : Cx) (target : Expr) : TG := fun v σ H Q => ∀ pins s u, Inv X pins σ H s → RelV v u → wpAny (model X.prog X.w) X.A (assign target X.env u) (fun _ s' => ∃ σ' H', Inv X pins σ' H' s' ∧ Q σ' H') X.xe s
theorem sPG {target : Expr} : PG X target (tSG X target) := ⟨fun pins s _ _ _ u _ I r h => h pins s u I r⟩
def DG (X : Cx) (T : Wp) (target : Expr) (t : Tg) : Prop :=
  ∀ σ B H ρ S env d v env' (Q : L2.St → Hp → Prop), RelS T B H ρ S → EnvR T B ρ σ env → Rp T B ρ d v → t.put d env = some env' → (∀ σ', EnvR T B ρ σ' env' → But t.slots σ σ' → Q σ' H) → tSG X target v σ H Q
theorem dg_name {i : Nat} {x : Str} (hN : X.N.Nodup) (hi : X.N[i]? = some x) (hx : Loc X.env.scope x) (hf : X.fn x = true ∨ X.env.scope.names.lookup x = some .local) : DG X T (.Name x pos) (.nm i) := by
  intro σ B H ρ S env d v env' Q R er rp e h pins s u I r
  have e' : env.set i (some d) = env' := Option.some.inj e
  subst e'
  exact (pg_name hN hi hx hf).run pins s σ H v u Q I r (h _ (er.set rp) ⟨by simp, fun j hj => by
    have : i ≠ j := fun z => hj (z ▸ List.mem_singleton.mpr rfl)
    rw [List.getElem?_set_ne this]⟩)
/-- names one behind another -/
inductive NamesAt (X : Cx) : List Expr → List Nat → Prop
  | nil : NamesAt X [] []
  | cons {i : Nat} {x : Str} {p : Pos} {es : List Expr} {is : List Nat} : X.N[i]? = some x → Loc X.env.scope x → (X.fn x = true ∨ X.env.scope.names.lookup x = some .local) → NamesAt X es is → NamesAt X (.Name x p :: es) (i :: is)
def tSGs (X : Cx) (ts : List Expr) : TGs := fun vs σ H Q => ∀ pins s us, Inv X pins σ H s → Vals vs us → wpAny (model X.prog X.w) X.A (assignInOrder ((assignEach ts X.env).map (·.2)) us) (fun _ s' => ∃ σ' H', Inv X pins σ' H' s' ∧ Q σ' H') X.xe s
theorem sPGs {ts : List Expr} : PGs X ts (tSGs X ts) := ⟨fun pins s _ _ _ us _ I r h => h pins s us I r⟩
theorem dgs_names (hN : X.N.Nodup) : ∀ {es : List Expr} {is : List Nat}, NamesAt X es is → ∀ {σ : L2.St} {B H : Hp} {ρ : List Addr} {env env' : En} {ds : List D} {vs : List V} {Q : L2.St → Hp → Prop}, EnvR T B ρ σ env → Rps T B ρ ds vs → setAll is ds env = some env' →
    (∀ σ', EnvR T B ρ σ' env' → But is σ σ' → Q σ' H) → tSGs X es vs σ H Q
  | _, _, .nil, σ, B, H, ρ, env, env', ds, vs, Q, er, rs, e, h => by
    cases rs with
    | nil =>
      have e' : env = env' := Option.some.inj e
      subst e'
      exact fun pins s us I r => pgs_nil.run pins s σ H [] us Q I r ⟨rfl, h σ er ⟨rfl, fun _ _ => rfl⟩⟩
    | cons _ _ => cases e
  | _, _, .cons (i := i) hi hx hf hs, σ, B, H, ρ, env, env', ds, vs, Q, er, rs, e, h => by
    cases rs with
    | nil => cases e
    | cons rp rr =>
      intro pins s us I r
      refine (pgs_cons (pg_name hN hi hx hf) sPGs rfl).run pins s σ H _ us Q I r ⟨_, _, rfl, ?_⟩
      exact dgs_names hN hs (er.set rp) rr e fun σ' er' b => h σ' er' b.set
theorem dg_tup {es : List Expr} {is : List Nat} {k : Nat} (hK : X.K = T.K) (hc : X.calm = true) (hN : X.N.Nodup) (hs : NamesAt X es is) (hst : (assignEach es X.env).findIdx? (·.1) = none) (hlen : (assignEach es X.env).length = is.length) : DG X T (.Tuple es k pos) (.tp is) := by
  intro σ B H ρ S env d v env' Q R er rp e h pins s u I r
  cases rp with
  | tup hb rr =>
    rename_i a ds vs
    have hl : ∀ {is : List Nat} {ds : List D} {env : En}, setAll is ds env = some env' → is.length = ds.length := by
      intro is
      induction is with
      | nil => intro ds env e; cases ds with | nil => rfl | cons _ _ => cases e
      | cons i is ih => intro ds env e; cases ds with | nil => cases e | cons d ds => simp only [List.length_cons, ih (show setAll is ds _ = some env' from e)]
    have e' : setAll is ds env = some env' := e
    refine (pg_tup hc sPGs hlen hst).run pins s σ H _ u Q I r ⟨a, vs, rfl, by rw [hK]; exact R.sqT hb, by rw [← rr.length, hl e'], ?_⟩
    exact dgs_names hN hs er rr e' h
  | _ => cases e
/-- target = value -/
def sAsg (t : Tg) (m : En → Sto → Res D) : En → Sto → Out := fun env S => toOut (m env S) env fun d S1 => match t.put d env with
  | some env' => .nx env' S1
  | none => .bad
theorem ds_asg {tg : Expr} {t : Tg} (he : DE X T W e m) (hg : DG X T tg t) (hs : swapsWithSole [tg] e pos.line X.env = pure false) (hw : swappedStores [tg] e X.env = pure none) (h1 : (assignEach [tg] X.env).map (·.2) = [assign tg X.env]) : DS X T W (.Assign [tg] e pos) (sAsg t m) := by
  intro σ B H ρ S env E R er h pins s I
  refine (ps_asg sPE sPG hs hw h1).run pins s σ H E I (he σ B H ρ S env _ R er (OkS.expr (P := Rp T) h er fun d S1 B1 H1 ρ1 v _ g1 R1 p1 ok => ?_))
  cases q : t.put d env with
  | none => rw [q] at ok; exact ok.elim
  | some env' =>
    rw [q] at ok
    exact hg σ B1 H1 ρ1 S1 env d v env' _ R1 (er.gr g1) p1 q fun σ' er' _ => ok.nx R1 er'
/-- name = value -/
theorem ds_set {i : Nat} {x : Str} {p' : Pos} (hN : X.N.Nodup) (hi : X.N[i]? = some x) (hx : Loc X.env.scope x) (he : DE X T W e m) (hs : swapsWith e (some (.Name x p')) pos.line X.env = pure false) (hf : X.fn x = true ∨ X.env.scope.names.lookup x = some .local) :
    DS X T W (.Assign [.Name x p'] e pos) (sAsg (.nm i) m) := by
  intro σ B H ρ S env E R er h pins s I
  exact (ps_set hN hi hx sPE hs hf).run pins s σ H E I (he σ B H ρ S env _ R er (OkS.expr (P := Rp T) h er fun d S1 B1 H1 ρ1 v _ g1 R1 p1 ok => ok.nx R1 ((er.gr g1).set p1)))
/-- a[i] = value, a list of the store -/
def setAt (d i x : D) (S : Sto) : Option Sto := match d, i with
  | .ref n, .int k => (match look S n with
    | some (.lst ds) => (match ixN ds.length k with
      | some j => some (put S n (.lst (ds.set j x)))
      | none => none)
    | _ => none)
  | _, _ => none
def sSetL (m : En → Sto → Res D) (ma mi : En → Sto → Res D) : En → Sto → Out := fun env S => toOut (m env S) env fun x S1 => toOut (ma env S1) env fun d S2 => toOut (mi env S2) env fun i S3 => match setAt d i x S3 with
  | some S4 => .nx env S4
  | none => .bad
theorem setAt_rd {σ : L2.St} {B H : Hp} {ρ : List Addr} {S S4 : Sto} {d i x : D} {vd vi vx : V} {Q : Hp → Prop} (R : RelS T B H ρ S) (rd : Rp T B ρ d vd) (ri : Rp T B ρ i vi) (rx : Rp T B ρ x vx) (e : setAt d i x S = some S4)
    (h : ∀ H', Gr B H ρ B H' ρ → RelS T B H' ρ S4 → Q H') : rSetL vd vi vx H Q := by
  cases ri with
  | int k =>
    cases rd with
    | ref hl =>
      rename_i n a
      obtain ⟨o, ho, hx⟩ := R.there hl
      unfold setAt at e
      dsimp only at e
      rw [ho] at e
      cases o with
      | lst ds =>
        dsimp only at e
        cases q : ixN ds.length k with
        | none => rw [q] at e; cases e
        | some j =>
          rw [q] at e
          have e4 : put S n (.lst (ds.set j x)) = S4 := Option.some.inj e
          subst e4
          obtain ⟨hb, vs, hH, rr⟩ := hx
          refine ⟨a, vs, k, j, rfl, rfl, hH, by rw [← rr.length]; exact q, h _ (Gr.chg hl) (R.chg hl hb ⟨hb, _, upd_same, rr.set rx j⟩)⟩
      | _ => cases e
    | non => cases e
    | bl _ => cases e
    | int _ => cases e
    | str _ => cases e
    | tup _ _ => cases e
    | lst _ _ => cases e
    | scr _ _ => cases e
    | ins _ _ _ => cases e
    | cls _ => cases e
    | ty _ => cases e
  | _ =>
    unfold setAt at e
    split at e
    · rename_i h1; cases h1
    · cases e
theorem ds_setL {a i : Expr} {ma mi : En → Sto → Res D} {p' : Pos} (he : DE X T W e m) (ha : DE X T W a ma) (hi : DE X T W i mi) (hs : swapsWithSole [.Subscript a i p'] e pos.line X.env = pure false) (hw : swappedStores [.Subscript a i p'] e X.env = pure none)
    (h1 : (assignEach [.Subscript a i p'] X.env).map (·.2) = [assign (.Subscript a i p') X.env])
    (h2 : ∀ v, assign (.Subscript a i p') X.env v = (do
      let ov ← holding [v] (eval a X.env)
      let iv ← holding [v, ov] (eval i X.env)
      standAt p'
      holding [v, ov, iv] (setItem ov iv v)
      release [v, ov, iv] [])) : DS X T W (.Assign [.Subscript a i p'] e pos) (sSetL m ma mi) := by
  intro σ B H ρ S env E R er h pins s I
  refine (ps_asg sPE (pg_sub sPE sPE set_list h2) hs hw h1).run pins s σ H E I (he σ B H ρ S env _ R er (OkS.expr (P := Rp T) h er fun x S1 B1 H1 ρ1 vx _ g1 R1 p1 ok => ?_))
  refine ha σ B1 H1 ρ1 S1 env _ R1 (er.gr g1) (OkS.expr (P := Rp T) ok (er.gr g1) fun d S2 B2 H2 ρ2 vd _ g2 R2 p2 ok2 => ?_)
  refine hi σ B2 H2 ρ2 S2 env _ R2 ((er.gr g1).gr g2) (OkS.expr (P := Rp T) ok2 ((er.gr g1).gr g2) fun k S3 B3 H3 ρ3 vi _ g3 R3 p3 ok3 => ?_)
  cases q : setAt d k x S3 with
  | none => rw [q] at ok3; exact ok3.elim
  | some S4 =>
    rw [q] at ok3
    exact setAt_rd (σ := σ) R3 (g3.rp p2) p3 ((g2.trans g3).rp p1) q fun H' g R' => ok3 σ B3 H' ρ3 g R' (((er.gr g1).gr (g2.trans g3)).gr g)
end
end Z

set_option Elab.async false
set_option linter.all false
set_option maxRecDepth 100000
set_option maxHeartbeats 4000000
/-! The Z layer, part H: loops, what is walked, comprehensions. -/
namespace Z
open PySem PySem.Spec PyProof.Rows L2

/-! ### while -/
def whileF (t : En → Sto → Res Bool) (b : En → Sto → Out) : Nat → En → Sto → Out
  | 0, _, _ => .bad
  | n + 1, env, S => toOut (t env S) env fun k S1 => if k then (match b env S1 with
    | .nx env' S' => whileF t b n env' S'
    | .ct env' S' => whileF t b n env' S'
    | .bk env' S' => .nx env' S'
    | r => r) else .nx env S1
def wfuel : Nat := 1000000000
def sWhile (t : En → Sto → Res Bool) (b : En → Sto → Out) : En → Sto → Out := fun env S => whileF t b wfuel env S
section
variable {X : Cx} {T : Wp} {W : WX} {c : Expr} {body : List Stmt} {pos : Pos} {mt : En → Sto → Res Bool} {mb : En → Sto → Out}
/-- a loop's turn has ended -/
theorem turn_ok {B H : Hp} {ρ : List Addr} {r : Out} {E : Ends} {k : En → Sto → Out} {N : L2.St → Hp → Prop} (h : OkS T W B H ρ (match r with
      | .nx env' S' => k env' S'
      | .ct env' S' => k env' S'
      | .bk env' S' => .nx env' S'
      | r => r) E) (f : ∀ σ1 B1 H1 ρ1 env1 S1, Gr B H ρ B1 H1 ρ1 → RelS T B1 H1 ρ1 S1 → EnvR T B1 ρ1 σ1 env1 → OkS T W B1 H1 ρ1 (k env1 S1) E → N σ1 H1) : OkS T W B H ρ r { E with nx := N, ct := N, bk := E.nx } := by
  cases r with
  | nx e S => exact fun σ' B2 H2 ρ2 g2 R2 er2 => f σ' B2 H2 ρ2 e S g2 R2 er2 (OkS.gr (show OkS T W B H ρ (k e S) E from h) g2)
  | ct e S => exact fun σ' B2 H2 ρ2 g2 R2 er2 => f σ' B2 H2 ρ2 e S g2 R2 er2 (OkS.gr (show OkS T W B H ρ (k e S) E from h) g2)
  | bk e S => exact h
  | rt d S => exact h
  | exc c x e S => exact h
  | bad => exact h
theorem ds_while (hp : PassesOwn (model X.prog X.w) X.A X.env X.xe) (hc : DT X T W c mt) (hb : DB X T W body mb) : DS X T W (.While c body [] pos) (sWhile mt mb) := by
  intro σ B H ρ S env E R er h pins s I
  refine (ps_while hp sPT sPB).run pins s σ H E I ⟨fun n σ H => ∃ B ρ S env, RelS T B H ρ S ∧ EnvR T B ρ σ env ∧ OkS T W B H ρ (whileF mt mb n env S) E, ⟨_, B, ρ, S, env, R, er, h⟩, ?_⟩
  rintro n σ1 H1 ⟨B1, ρ1, S1, env1, R1, er1, h1⟩
  cases n with
  | zero => exact h1.elim
  | succ n =>
    refine hc σ1 B1 H1 ρ1 S1 env1 _ R1 er1 (OkS.expr (P := fun _ _ b c => b = c) h1 er1 fun k S2 B2 H2 ρ2 v _ g2 R2 p2 ok => ?_)
    subst p2
    cases k with
    | false => exact ok.nx R2 (er1.gr g2)
    | true =>
      refine ⟨fun σ' H' => ∃ B ρ S env, RelS T B H' ρ S ∧ EnvR T B ρ σ' env ∧ OkS T W B H' ρ (whileF mt mb n env S) E, fun σ' H' q => ⟨n, Nat.lt_succ_self n, q⟩, ?_⟩
      exact hb σ1 B2 H2 ρ2 S2 env1 _ R2 (er1.gr g2) (turn_ok ok fun σ3 B3 H3 ρ3 env3 S3 _ R3 er3 ok3 => ⟨B3, ρ3, S3, env3, R3, er3, ok3⟩)
end

/-! ### what is walked -/
/-- the weaker growth -/
structure Gw (B : Hp) (ρ : List Addr) (B' : Hp) (ρ' : List Addr) : Prop where
  le : Le B B'
  lk : ∀ n a, look ρ n = some a → look ρ' n = some a
theorem Gr.w {B H B' H' : Hp} {ρ ρ' : List Addr} (g : Gr B H ρ B' H' ρ') : Gw B ρ B' ρ' := ⟨g.le, g.lk⟩
theorem Gw.rp {T : Wp} {B B' : Hp} {ρ ρ' : List Addr} (g : Gw B ρ B' ρ') {d : D} {v : V} (r : Rp T B ρ d v) : Rp T B' ρ' d v := r.mono g.le g.lk
/-- J walks the data ds, while G holds -/
structure Src (T : Wp) (J : It) (ds : List D) (chk : Sto → Prop) (G : Hp → Hp → List Addr → Sto → Prop) : Prop where
  go : ∀ B H ρ S i d, RelS T B H ρ S → G B H ρ S → ds[i]? = some d → J.go i H ∧ ∀ x H', J.yld i H x H' → ∃ B', Gr B H ρ B' H' ρ ∧ RelS T B' H' ρ S ∧ Rp T B' ρ d x ∧ G B' H' ρ S
  stop : ∀ B H ρ S, RelS T B H ρ S → G B H ρ S → J.stop ds.length H
  same : ∀ B H ρ S B' H' ρ', G B H ρ S → Gw B ρ B' ρ' → RelS T B' H' ρ' S → G B' H' ρ' S
  stay : ∀ B H ρ S B' H' ρ' S', G B H ρ S → Gw B ρ B' ρ' → RelS T B' H' ρ' S' → chk S' → G B' H' ρ' S'
/-- what is wanted holds of an iterator -/
def OkI (T : Wp) (W : WX) (σ : L2.St) (B H : Hp) (ρ : List Addr) (r : Res (List D × (Sto → Prop))) (R : It → Hp → Prop) : Prop := match r with
  | .ok (ds, chk) S' => ∀ J G B' H' ρ', Gr B H ρ B' H' ρ' → RelS T B' H' ρ' S' → Src T J ds chk G → G B' H' ρ' S' → R J H'
  | .exc c x S' => ∀ B' H' ρ' v dd, Gr B H ρ B' H' ρ' → RelS T B' H' ρ' S' → Rp T B' ρ' x v → H' dd = some (.xd [(T.exf c, v)]) → W (.ref (T.cad c)) (some dd) σ H'
  | .bad => False
def tSI (X : Cx) (tg iter : Expr) : TI := fun σ H R => ∀ pins s, Inv X pins σ H s → wpAny (model X.prog X.w) X.A (eval iter X.env) (fun v s1 => wpAny (model X.prog X.w) X.A (pyIter v) (PIE X pins σ tg R) X.xe s1) X.xe s
theorem sPI {X : Cx} {tg iter : Expr} : PI X tg iter (tSI X tg iter) := ⟨fun pins s _ _ _ I h => h pins s I⟩
def DI (X : Cx) (T : Wp) (W : WX) (tg iter : Expr) (m : En → Sto → Res (List D × (Sto → Prop))) : Prop :=
  ∀ σ B H ρ S env R, RelS T B H ρ S → EnvR T B ρ σ env → OkI T W σ B H ρ (m env S) R → tSI X tg iter σ H R
section
variable {T : Wp} {W : WX} {σ : L2.St} {B B' H H' : Hp} {ρ ρ' : List Addr} {S S' : Sto}
theorem OkI.bind {α γ : Type} {P : Hp → List Addr → α → γ → Prop} {r : Res α} {f : α → Sto → Res (List D × (Sto → Prop))} {Q : It → Hp → Prop} (h : OkI T W σ B H ρ (r.bind f) Q) {R : γ → Hp → Prop}
    (k : ∀ a S1 B1 H1 ρ1 v, r = .ok a S1 → Gr B H ρ B1 H1 ρ1 → RelS T B1 H1 ρ1 S1 → P B1 ρ1 a v → OkI T W σ B1 H1 ρ1 (f a S1) Q → R v H1) : OkG T W σ B H ρ P r R := by
  cases r with
  | ok a S1 =>
    intro B1 H1 ρ1 v g R1 p
    refine k a S1 B1 H1 ρ1 v rfl g R1 p ?_
    have h' : OkI T W σ B H ρ (f a S1) Q := h
    cases e : f a S1 with
    | ok b S2 =>
      rw [e] at h'
      exact fun J G B2 H2 ρ2 g2 R2 sr q => h' J G B2 H2 ρ2 (g.trans g2) R2 sr q
    | exc c x S2 =>
      rw [e] at h'
      exact fun B2 H2 ρ2 w dd g2 R2 p2 hd => h' B2 H2 ρ2 w dd (g.trans g2) R2 p2 hd
    | bad => rw [e] at h'; exact h'
  | exc c x S1 => exact h
  | bad => exact h
theorem OkI.ok {ds : List D} {chk : Sto → Prop} {R : It → Hp → Prop} (h : OkI T W σ B H ρ (.ok (ds, chk) S) R) (Rl : RelS T B H ρ S) {J : It} {G : Hp → Hp → List Addr → Sto → Prop} (sr : Src T J ds chk G) (g : G B H ρ S) : R J H :=
  h J G B H ρ Gr.refl Rl sr g
theorem asQ_get {d : D} {v : V} {ds : List D} (R : RelS T B H ρ S) (r : Rp T B ρ d v) (h : asQ S d = some ds) {a : Addr} (ea : v = .ref a) : (∃ vs, SqL T.K H a vs ∧ Rps T B ρ ds vs) ∨ ∃ vs, SqT T.K H a vs ∧ Rps T B ρ ds vs := by
  obtain ⟨b, vs, e, h1, h2⟩ := asQ_rp R r h
  subst ea
  have : a = b := V.ref.inj e
  subst this
  rcases h1 with h1 | h1
  · exact .inl ⟨vs, h1, h2⟩
  · exact .inr ⟨vs, h1, h2⟩
/-- is it a tuple -/
def isT : D → Bool
  | .tup _ => true
  | _ => false
theorem asQ_list {d : D} {v : V} {ds : List D} (R : RelS T B H ρ S) (r : Rp T B ρ d v) (h : asQ S d = some ds) (ht : isT d = false) : ∃ a vs, v = .ref a ∧ SqL T.K H a vs ∧ Rps T B ρ ds vs := by
  cases r with
  | tup _ _ => cases ht
  | scr hb hr =>
    have : _ = ds := Option.some.inj h
    subst this
    exact ⟨_, _, rfl, R.sqL hb, hr⟩
  | lst hb hr => obtain ⟨a, vs, e, h1, h2⟩ := asL_rp R (.lst hb hr) (show asL S (.lst _) = some ds from h); exact ⟨a, vs, e, SqL.of h1, h2⟩
  | ref hl => obtain ⟨a, vs, e, h1, h2⟩ := asL_rp R (.ref hl) (show asL S (.ref _) = some ds from h); exact ⟨a, vs, e, SqL.of h1, h2⟩
  | _ => cases h
theorem src_lst {a : Addr} {d : D} {ds : List D} (ht : isT d = false) : Src T (Itl T.K a) ds (fun S => asQ S d = some ds) (fun B H ρ S => Rp T B ρ d (.ref a) ∧ asQ S d = some ds) where
  go := fun B H ρ S i x R ⟨rd, e⟩ hx => by
    obtain ⟨b, vs, e1, h1, r⟩ := asQ_list R rd e ht
    cases e1
    obtain ⟨v, hv, rv⟩ := r.get hx
    exact ⟨⟨vs, v, h1, hv⟩, fun x' H' ⟨e2, q⟩ => by
      subst e2
      have e3 := q vs h1
      rw [hv] at e3; cases e3
      exact ⟨B, Gr.refl, R, rv, rd, e⟩⟩
  stop := fun B H ρ S R ⟨rd, e⟩ => by
    obtain ⟨b, vs, e1, h1, r⟩ := asQ_list R rd e ht
    cases e1
    exact ⟨vs, h1, by rw [r.length]; exact Nat.le_refl _⟩
  same := fun B H ρ S B' H' ρ' ⟨rd, e⟩ g R' => ⟨g.rp rd, e⟩
  stay := fun B H ρ S B' H' ρ' S' ⟨rd, e⟩ g R' c => ⟨g.rp rd, c⟩
theorem src_tup {a : Addr} {ds : List D} : Src T (Itt T.K a) ds (fun _ => True) (fun B H ρ S => Rp T B ρ (.tup ds) (.ref a)) where
  go := fun B H ρ S i x R rd hx => by
    cases rd with
    | tup hb r =>
      obtain ⟨v, hv, rv⟩ := r.get hx
      exact ⟨⟨_, v, R.sqT hb, hv⟩, fun x' H' ⟨e2, q⟩ => by
        subst e2
        have e3 := q _ (R.sqT hb)
        rw [hv] at e3; cases e3
        exact ⟨B, Gr.refl, R, rv, .tup hb r⟩⟩
  stop := fun B H ρ S R rd => by
    cases rd with
    | tup hb r => exact ⟨_, R.sqT hb, by rw [r.length]; exact Nat.le_refl _⟩
  same := fun B H ρ S B' H' ρ' rd g R' => g.rp rd
  stay := fun B H ρ S B' H' ρ' S' rd g R' c => g.rp rd
end
section
variable {X : Cx} {T : Wp} {W : WX} {tg a b : Expr} {pos : Pos} {ma mb : En → Sto → Res D}
/-- for x in a: a list or a tuple -/
def iSeq (m : En → Sto → Res D) : En → Sto → Res (List D × (Sto → Prop)) := fun env S => (m env S).bind fun d S1 => match d with
  | .tup ds => .ok (ds, fun _ => True) S1
  | .str z => .ok (z.cps.toList.map (fun c => D.str ⟨#[c]⟩), fun _ => True) S1
  | d => match asQ S1 d with
    | some ds => .ok (ds, fun S => asQ S d = some ds) S1
    | none => .bad
theorem src_str {z : Str} : Src T (Its z) (z.cps.toList.map (fun c => D.str ⟨#[c]⟩)) (fun _ => True) (fun _ _ _ _ => True) where
  go := fun B H ρ S i x R _ hx => by
    rw [List.getElem?_map] at hx
    cases e : z.cps.toList[i]? with
    | none => rw [e] at hx; cases hx
    | some c =>
      rw [e] at hx
      have e2 : D.str ⟨#[c]⟩ = x := Option.some.inj hx
      subst e2
      have hi : i < z.cps.size := by
        have := (List.getElem?_eq_some_iff.mp e).1
        simpa using this
      refine ⟨hi, fun x' H' ⟨e2, c', hc, ev⟩ => ?_⟩
      subst e2 ev
      have : z.cps[i]? = some c := by rw [← Array.getElem?_toList]; exact e
      rw [this] at hc; cases hc
      exact ⟨B, Gr.refl, R, .str _, trivial⟩
  stop := fun B H ρ S R _ => by
    show z.cps.size ≤ _
    simp
  same := fun _ _ _ _ _ _ _ _ _ _ => trivial
  stay := fun _ _ _ _ _ _ _ _ _ _ _ _ => trivial
theorem di_seq (hK : X.K = T.K) (ha : DE X T W a ma) : DI X T W tg a (iSeq ma) := by
  intro σ B H ρ S env R Rl er h pins s I
  have key : tS X a σ H fun x H1 => (∃ q, x = .ref q ∧ (∃ xs, SqL X.K H1 q xs) ∧ R (Itl X.K q) H1) ∨ (∃ q, x = .ref q ∧ (∃ xs, SqT X.K H1 q xs) ∧ R (Itt X.K q) H1) ∨ (∃ z, x = .str z ∧ R (Its z) H1) := by
    refine ha σ B H ρ S env _ Rl er (OkI.bind (P := Rp T) h fun d S1 B1 H1 ρ1 x _ g1 R1 p1 ok => ?_)
    have other : isT d = false → OkI T W σ B1 H1 ρ1 (match asQ S1 d with | some ds => .ok (ds, fun S => asQ S d = some ds) S1 | none => .bad) R → ∃ q, x = .ref q ∧ (∃ xs, SqL X.K H1 q xs) ∧ R (Itl X.K q) H1 := fun ht ok => by
      cases e : asQ S1 d with
      | none => rw [e] at ok; exact ok.elim
      | some ds =>
        rw [e] at ok
        obtain ⟨q, vs, rfl, h1, _⟩ := asQ_list R1 p1 e ht
        refine ⟨q, rfl, ⟨vs, by rw [hK]; exact h1⟩, ?_⟩
        rw [hK]
        exact ok.ok R1 (src_lst ht) ⟨p1, e⟩
    cases p1 with
    | tup hb r =>
      refine .inr (.inl ⟨_, rfl, ⟨_, by rw [hK]; exact R1.sqT hb⟩, ?_⟩)
      rw [hK]
      exact OkI.ok ok R1 src_tup (.tup hb r)
    | str z => exact .inr (.inr ⟨z, rfl, OkI.ok ok R1 src_str trivial⟩)
    | _ => exact .inl (other rfl ok)
  refine thn (key pins s I) fun v s1 ⟨x, H1, I1, r1, q1⟩ => ?_
  rcases q1 with ⟨q, e, ⟨xs, hq⟩, hR⟩ | ⟨q, e, ⟨xs, hq⟩, hR⟩ | ⟨z, e, hR⟩
  · subst e
    cases r1
    obtain ⟨its, rv, p, hz⟩ := I1.list hq
    refine wpAny_pyIter_list p.isList ?_
    refine ⟨s1.heap.objs.size, [s1.heap.objs.size], _, _, H1, rfl, I1.kept (t' := s1.toks) fun b o e => Heap.get?_push_of_some _ e, turn_list q _, ⟨_, Heap.get?_push_size _ rfl, rfl, rfl⟩, fun b hb => ?_, hR⟩
    have e : b = s1.heap.objs.size := by simpa using hb
    subst e
    exact I1.fpOk (Nat.le_refl _) (I1.hok.fresh (Nat.le_refl _))
  · subst e
    cases r1
    obtain ⟨its, rv, p, hz⟩ := I1.tuple hq
    refine wpAny_pyIter_tuple (show s1.heap.IsTuple q its.toArray from p) ?_
    refine ⟨s1.heap.objs.size, [s1.heap.objs.size], _, _, H1, rfl, I1.kept (t' := s1.toks) fun b o e => Heap.get?_push_of_some _ e, turn_tuple q _, ⟨_, Heap.get?_push_size _ rfl, rfl, rfl⟩, fun b hb => ?_, hR⟩
    have e : b = s1.heap.objs.size := by simpa using hb
    subst e
    exact I1.fpOk (Nat.le_refl _) (I1.hok.fresh (Nat.le_refl _))
  · subst e
    obtain ⟨t, rfl⟩ := r1
    cases hz : z.cps.all (· < 128)
    · exact wpAny_pyIter_wide hz (pi_one (tk := s1.toks) I1 _ (turn_str _ z t "str_iterator" (.inr rfl)) ⟨_, Heap.get?_push_size _ rfl, rfl, rfl⟩ hR)
    · exact wpAny_pyIter_ascii hz (pi_one (tk := s1.toks) I1 _ (turn_str _ z t "str_ascii_iterator" (.inl rfl)) ⟨_, Heap.get?_push_size _ rfl, rfl, rfl⟩ hR)
/-- lo, lo + 1, .. -/
def rangeD (lo : Int) (n : Nat) : List D := (List.range n).map fun (k : Nat) => D.int (lo + (k : Int))
theorem src_rng {lo : Int} {n : Nat} : Src T (Itr lo n) (rangeD lo n) (fun _ => True) (fun _ _ _ _ => True) where
  go := fun B H ρ S i x R _ hx => by
    unfold rangeD at hx
    rw [List.getElem?_map] at hx
    have hi : i < n := by
      cases e : (List.range n)[i]? with
      | none => rw [e] at hx; cases hx
      | some c => have := (List.getElem?_eq_some_iff.mp e).1; simpa using this
    rw [List.getElem?_range hi] at hx
    have e2 : D.int (lo + (i : Int)) = x := Option.some.inj hx
    subst e2
    exact ⟨hi, fun x' H' ⟨e2, ev⟩ => by
      subst e2 ev
      exact ⟨B, Gr.refl, R, .int _, trivial⟩⟩
  stop := fun B H ρ S R _ => by
    show n ≤ _
    simp [rangeD]
  same := fun _ _ _ _ _ _ _ _ _ _ => trivial
  stay := fun _ _ _ _ _ _ _ _ _ _ _ _ => trivial
def iRng1m (m : En → Sto → Res D) : En → Sto → Res (List D × (Sto → Prop)) := fun env S => (m env S).bind fun d S1 => match d with
  | .int j => if -(2 ^ 62) ≤ j ∧ j < 2 ^ 62 then .ok (rangeD 0 j.toNat, fun _ => True) S1 else .bad
  | _ => .bad
theorem di_range1 {p : Pos} (hg : Gl X "range") (hm : X.mg "range" = none) (ha : DE X T W a ma) (hs : starEach [a] X.env = [(false, eval a X.env)]) : DI X T W tg (.Call (.Name "range" p) [a] [] pos) (iRng1m ma) := by
  intro σ B H ρ S env R Rl er h pins s I
  refine (pi_range1 hg hm (pa_cons sPE pa_nil (by rw [hs]; rfl)) hs).run pins s σ H R I (ha σ B H ρ S env _ Rl er (OkI.bind (P := Rp T) h fun d S1 B1 H1 ρ1 x _ g1 R1 p1 ok => ?_))
  cases p1 with
  | int j =>
    dsimp only at ok
    split at ok
    · rename_i hj
      exact ⟨j, rfl, hj.1, hj.2, OkI.ok ok R1 src_rng trivial⟩
    · exact ok.elim
  | _ => exact ok.elim
def iRng2m (m1 m2 : En → Sto → Res D) : En → Sto → Res (List D × (Sto → Prop)) := fun env S => (m1 env S).bind fun d S1 => (m2 env S1).bind fun e S2 => match d, e with
  | .int i, .int j => if (-(2 ^ 62) ≤ i ∧ i < 2 ^ 62 ∧ -(2 ^ 62) ≤ j ∧ j < 2 ^ 62) then .ok (rangeD i (j - i).toNat, fun _ => True) S2 else .bad
  | _, _ => .bad
theorem di_range2 {p : Pos} (hg : Gl X "range") (hm : X.mg "range" = none) (ha : DE X T W a ma) (hb : DE X T W b mb) (hs : starEach [a, b] X.env = [(false, eval a X.env), (false, eval b X.env)]) (hs2 : starEach [b] X.env = [(false, eval b X.env)]) : DI X T W tg (.Call (.Name "range" p) [a, b] [] pos) (iRng2m ma mb) := by
  intro σ B H ρ S env R Rl er h pins s I
  refine (pi_range2 hg hm (pa_cons sPE (pa_cons sPE pa_nil (by rw [hs2]; rfl)) (by rw [hs, hs2])) hs hs2).run pins s σ H R I (ha σ B H ρ S env _ Rl er (OkI.bind (P := Rp T) h fun d S1 B1 H1 ρ1 x _ g1 R1 p1 ok => ?_))
  refine hb σ B1 H1 ρ1 S1 env _ R1 (er.gr g1) (OkI.bind (P := Rp T) ok fun e S2 B2 H2 ρ2 y _ g2 R2 p2 ok2 => ?_)
  cases p1 with
  | int i =>
    cases p2 with
    | int j =>
      dsimp only at ok2
      split at ok2
      · rename_i hj
        exact ⟨i, j, rfl, hj, OkI.ok ok2 R2 src_rng trivial⟩
      · exact ok2.elim
    | _ => exact ok2.elim
  | _ => exact ok2.elim

/-! ### for -/
open Classical in
noncomputable def forL (chk : Sto → Prop) (t : Tg) (b : En → Sto → Out) : List D → En → Sto → Out
  | [], env, S => .nx env S
  | d :: ds, env, S => match t.put d env with
    | some env1 => (match b env1 S with
      | .nx env2 S2 => if chk S2 then forL chk t b ds env2 S2 else .bad
      | .ct env2 S2 => if chk S2 then forL chk t b ds env2 S2 else .bad
      | .bk env2 S2 => .nx env2 S2
      | r => r)
    | none => .bad
noncomputable def sFor (t : Tg) (mi : En → Sto → Res (List D × (Sto → Prop))) (b : En → Sto → Out) : En → Sto → Out := fun env S => toOut (mi env S) env fun p S1 => forL p.2 t b p.1 env S1
theorem ds_for {iter : Expr} {body : List Stmt} {t : Tg} {mi : En → Sto → Res (List D × (Sto → Prop))} {mb : En → Sto → Out} (hp : PassesOwn (model X.prog X.w) X.A X.env X.xe) (hc : X.calm = true) (hi : DI X T W tg iter mi) (hg : DG X T tg t) (hb : DB X T W body mb)
    (hs : ∀ x, foldedSetIterable iter X.env x = pure x) : DS X T W (.For tg iter body [] pos) (sFor t mi mb) := by
  intro σ B H ρ S env E R er h pins s I
  refine (ps_for hp hc sPI sPG sPB hs).run pins s σ H E I (hi σ B H ρ S env _ R er ?_)
  unfold sFor at h
  cases e : mi env S with
  | bad => rw [e] at h; exact h
  | exc c x S1 => rw [e] at h; exact fun B1 H1 ρ1 v dd g R1 p hd => h σ B1 H1 ρ1 v dd g R1 (er.gr g) p hd
  | ok p S1 =>
    obtain ⟨ds, chk⟩ := p
    rw [e] at h
    have h0 : OkS T W B H ρ (forL chk t mb ds env S1) E := h
    intro J G B1 H1 ρ1 g1 R1 sr hG
    refine ⟨fun i m σ H => ∃ B ρ S env, m = ds.length - i ∧ i ≤ ds.length ∧ RelS T B H ρ S ∧ EnvR T B ρ σ env ∧ G B H ρ S ∧ OkS T W B H ρ (forL chk t mb (ds.drop i) env S) E,
      ⟨ds.length, B1, ρ1, S1, env, by simp, Nat.zero_le _, R1, er.gr g1, hG, h0.gr g1⟩, ?_⟩
    rintro i m σ2 H2 ⟨B2, ρ2, S2, env2, rfl, hi, R2, er2, G2, ok2⟩
    by_cases hlt : i < ds.length
    · have hd : ds[i]? = some ds[i] := List.getElem?_eq_getElem hlt
      obtain ⟨go, yld⟩ := sr.go B2 H2 ρ2 S2 i _ R2 G2 hd
      rw [List.drop_eq_getElem_cons hlt] at ok2
      unfold forL at ok2
      cases q : t.put ds[i] env2 with
      | none => rw [q] at ok2; exact ok2.elim
      | some env3 =>
        rw [q] at ok2
        refine .inr ⟨go, fun σ' H' => ∃ B ρ S env, i + 1 ≤ ds.length ∧ RelS T B H' ρ S ∧ EnvR T B ρ σ' env ∧ G B H' ρ S ∧ OkS T W B H' ρ (forL chk t mb (ds.drop (i + 1)) env S) E,
          fun σ' H' ⟨B', ρ', S', env', h1, h2, h3, h4, h5⟩ => ⟨ds.length - (i + 1), by omega, B', ρ', S', env', rfl, h1, h2, h3, h4, h5⟩, fun x H' y => ?_⟩
        obtain ⟨B3, g3, R3, rp, G3⟩ := yld x H' y
        refine hg σ2 B3 H' ρ2 S2 env2 _ x env3 _ R3 (er2.gr g3) rp q fun σ3 er3 _ => ?_
        refine hb σ3 B3 H' ρ2 S2 env3 _ R3 er3 ?_
        have ok3 := OkS.gr ok2 g3
        dsimp only at ok3
        have st : ∀ {e' : En} {S' : Sto} {B' H2' : Hp} {ρ' : List Addr}, Gr B3 H' ρ2 B' H2' ρ' → RelS T B' H2' ρ' S' → chk S' → G B' H2' ρ' S' := fun g R c => sr.stay _ _ _ _ _ _ _ _ G3 g.w R c
        cases z : mb env3 S2 with
        | nx e' S' =>
          rw [z] at ok3
          dsimp only at ok3
          split at ok3
          · rename_i c
            exact fun σ' B' H2' ρ' g R' er' => ⟨B', ρ', S', e', hlt, R', er', st (e' := e') g R' c, ok3.gr g⟩
          · exact ok3.elim
        | ct e' S' =>
          rw [z] at ok3
          dsimp only at ok3
          split at ok3
          · rename_i c
            exact fun σ' B' H2' ρ' g R' er' => ⟨B', ρ', S', e', hlt, R', er', st (e' := e') g R' c, ok3.gr g⟩
          · exact ok3.elim
        | bk e' S' => rw [z] at ok3; exact ok3
        | rt d S' => rw [z] at ok3; exact ok3
        | exc c x e' S' => rw [z] at ok3; exact ok3
        | bad => rw [z] at ok3; exact ok3
    · have e2 : i = ds.length := by omega
      subst e2
      refine .inl ⟨sr.stop B2 H2 ρ2 S2 R2 G2, ?_⟩
      rw [List.drop_length] at ok2
      exact ok2.nx R2 er2
end
end Z

set_option Elab.async false
set_option linter.all false
set_option maxRecDepth 100000
set_option maxHeartbeats 4000000
/-! The Z layer, part I: list comprehensions. -/
namespace Z
open PySem PySem.Spec PyProof.Rows L2
def wipeE (env : En) : List Nat → En
  | [] => env
  | v :: vs => (wipeE env vs).set v none
theorem wipeE_length (env : En) : ∀ vs : List Nat, (wipeE env vs).length = env.length
  | [] => rfl
  | v :: vs => by unfold wipeE; rw [List.length_set, wipeE_length env vs]
theorem wipeE_some {env : En} {i : Nat} {x : D} : ∀ {vs : List Nat}, (wipeE env vs)[i]? = some (some x) → env[i]? = some (some x) ∧ i ∉ vs
  | [], h => ⟨h, by simp⟩
  | v :: vs, h => by
    unfold wipeE at h
    by_cases hi : v = i
    · subst hi
      by_cases hv : v < (wipeE env vs).length
      · rw [List.getElem?_set_self hv] at h; cases h
      · rw [List.getElem?_eq_none (by simpa using hv)] at h; cases h
    · rw [List.getElem?_set_ne hi] at h
      obtain ⟨h1, h2⟩ := wipeE_some h
      exact ⟨h1, by simp only [List.mem_cons, not_or]; exact ⟨fun e => hi e.symm, h2⟩⟩
theorem wipe_get {σ : L2.St} {i : Nat} : ∀ {vs : List Nat}, i ∉ vs → (wipe σ vs)[i]? = σ[i]?
  | [], _ => rfl
  | v :: vs, h => by
    simp only [List.mem_cons, not_or] at h
    unfold wipe
    rw [List.getElem?_set_ne (Ne.symm h.1), wipe_get h.2]
theorem wipe_in {σ : L2.St} {i : Nat} : ∀ {vs : List Nat}, i ∈ vs → i < σ.length → (wipe σ vs)[i]? = some none
  | v :: vs, h, hl => by
    unfold wipe
    by_cases hi : v = i
    · subst hi
      exact List.getElem?_set_self (by rw [wipe_length]; exact hl)
    · rw [List.getElem?_set_ne hi]
      rcases List.mem_cons.mp h with e | h
      · exact absurd e.symm hi
      · exact wipe_in h hl
theorem EnvR.wipe {T : Wp} {B : Hp} {ρ : List Addr} {σ : L2.St} {env : En} (e : EnvR T B ρ σ env) (vs : List Nat) : EnvR T B ρ (L2.wipe σ vs) (wipeE env vs) := by
  refine ⟨by rw [wipeE_length, L2.wipe_length]; exact e.1, fun i d h => ?_⟩
  obtain ⟨h1, h2⟩ := wipeE_some h
  obtain ⟨v, h3, h4⟩ := e.2 i d h1
  exact ⟨v, by rw [wipe_get h2]; exact h3, h4⟩
/-- but for its own slots it is as it was -/
theorem wipe_but {σ σ2 : L2.St} {l vs : List Nat} (b : But l (wipe σ vs) σ2) (hl : ∀ j ∈ l, j ∈ vs) : wipe σ2 vs = wipe σ vs := by
  have len : σ2.length = σ.length := by rw [b.1, wipe_length]
  apply List.ext_getElem?
  intro j
  by_cases hj : j ∈ vs
  · by_cases hs : j < σ.length
    · rw [wipe_in hj (by rw [len]; exact hs), wipe_in hj hs]
    · rw [List.getElem?_eq_none (by rw [wipe_length, len]; omega), List.getElem?_eq_none (by rw [wipe_length]; omega)]
  · rw [wipe_get hj, b.2 j (fun h => hj (hl j h))]
section
variable {T : Wp} {B H : Hp} {ρ : List Addr} {S : Sto}
theorem RelS.oth (R : RelS T B H ρ S) {p : Addr} {o : HO} (hr : p ∉ ρ) (hb : B p = none) : RelS T B (upd H p o) ρ S := by
  refine ⟨fun a u e => ?_, R.len, R.nd, fun n u e => ?_⟩
  · have hne : a ≠ p := fun z => by rw [z, hb] at e; cases e
    rw [upd_ne hne]; exact R.sub _ _ e
  · obtain ⟨a, h1, h2⟩ := R.obj n u e
    have hne : a ≠ p := fun z => hr (z ▸ look_mem h1)
    exact ⟨a, h1, h2.mono (Le.refl _) (fun _ _ h => h) id fun w h => by rw [upd_ne hne]; exact h⟩
end
open Classical in
noncomputable def compL (chk : Sto → Prop) (t : Tg) (mt : En → Sto → Res Bool) (me : En → Sto → Res D) (env : En) : List D → Sto → Res (List D)
  | [], S => .ok [] S
  | d :: ds, S => match t.put d env with
    | none => .bad
    | some env1 => (mt env1 S).calm.bind fun k S1 => if k then (me env1 S1).calm.bind fun x S2 => if chk S2 then (compL chk t mt me env ds S2).bind fun xs S3 => .ok (x :: xs) S3 else .bad
      else if chk S1 then compL chk t mt me env ds S1 else .bad
/-- [me for t in mi if mt]; vs: the comprehension's own slots -/
noncomputable def lComp (t : Tg) (mi : En → Sto → Res (List D × (Sto → Prop))) (mt : En → Sto → Res Bool) (me : En → Sto → Res D) (vs : List Nat) : En → Sto → Res (List D) := fun env S =>
  (mi env S).bind fun p S1 => if p.1.length ≤ sizeLine then compL p.2 t mt me (wipeE env vs) p.1 S1 else .bad
def tYesM : En → Sto → Res Bool := fun _ S => .ok true S
abbrev WF : WX := fun _ _ _ _ => False
section
variable {X : Cx} {T : Wp} {W : WX} {elt tg iter : Expr} {ifs : List Expr} {scope : Scope} {own : List (Str × Nat)} {pos : Pos}
/-- a block's context -/
abbrev blkX (X : Cx) (scope : Scope) (s : Shared) (H : Hp) (C : Addr) (cl : List (Str × Addr)) (fp : List Addr) : Cx := X.blk s H scope (compEnvC scope cl C X.env) fp
def gAll (X : Cx) (scope : Scope) (tg : Expr) : TG := fun v σ H Q => ∀ s H0 C cl fp, tSG (blkX X scope s H0 C cl fp) tg v σ H Q
def eAll (X : Cx) (scope : Scope) (e : Expr) : TE := fun σ H Q => ∀ s H0 C cl fp, tS (blkX X scope s H0 C cl fp) e σ H Q
def tSTs (X : Cx) (ifs : List Expr) : TT := fun σ H Q => ∀ pins s, Inv X pins σ H s →
    wpAny (model X.prog X.w) X.A (forIn ifs true fun c r => if r = true then do let ok ← isTrue c X.env (eval c X.env); pure (ForInStep.yield ok) else pure (ForInStep.yield r)) (TP X pins σ Q) X.xe s
def tAll (X : Cx) (scope : Scope) (ifs : List Expr) : TT := fun σ H Q => ∀ s H0 C cl fp, tSTs (blkX X scope s H0 C cl fp) ifs σ H Q
def DTs (X : Cx) (T : Wp) (W : WX) (ifs : List Expr) (m : En → Sto → Res Bool) : Prop :=
  ∀ σ B H ρ S env Q, RelS T B H ρ S → EnvR T B ρ σ env → OkT T W σ B H ρ (m env S) Q → tSTs X ifs σ H Q
theorem dts_nil : DTs X T W [] tYesM := fun σ B H ρ S env Q R er h pins s I => pts_nil.run pins s σ H Q I (h.ok R rfl)
theorem dts_one {c : Expr} {mt : En → Sto → Res Bool} (hc : DT X T W c mt) : DTs X T W [c] mt := fun σ B H ρ S env Q R er h pins s I => (pts_one sPT).run pins s σ H Q I (hc σ B H ρ S env Q R er h)
variable {t : Tg} {mi : En → Sto → Res (List D × (Sto → Prop))} {mt : En → Sto → Res Bool} {me : En → Sto → Res D}
open Classical in
theorem lc_rd (hi : DI X T W tg iter mi) (hg : ∀ s H C cl fp, DG (blkX X scope s H C cl fp) T tg t) (ht : ∀ s H C cl fp, DTs (blkX X scope s H C cl fp) T WF ifs mt) (he : ∀ s H C cl fp, DE (blkX X scope s H C cl fp) T WF elt me)
    (hsl : ∀ j ∈ t.slots, j ∈ own.map (·.2)) {σ B H ρ S env Q} (R : RelS T B H ρ S) (er : EnvR T B ρ σ env) (h : OkL T W σ B H ρ (lComp t mi mt me (own.map (·.2)) env S) Q) :
    tLc (tSI X tg iter) (gAll X scope tg) (tAll X scope ifs) (eAll X scope elt) (own.map (·.2)) σ H Q := by
  refine hi σ B H ρ S env _ R er ?_
  unfold lComp at h
  cases e : mi env S with
  | bad => rw [e] at h; exact h
  | exc c x S1 => rw [e] at h; exact h
  | ok p S1 =>
    obtain ⟨ds, chk⟩ := p
    rw [e, Res.bind_ok] at h
    dsimp only at h
    split at h
    · rename_i hlen
      intro J G B1 H1 ρ1 g1 R1 sr hG D hD
      have hD0 : H D = none := g1.none R1 hD
      refine ⟨fun i m H2 => ∃ B2 ρ2 S2 accD acc, m = ds.length - i ∧ i ≤ ds.length ∧ RelS T B2 H2 ρ2 S2 ∧ G B2 H2 ρ2 S2 ∧ Gr B H ρ B2 H2 ρ2 ∧ H2 D = some (.lst acc) ∧ D ∉ ρ2 ∧ B2 D = none ∧ Rps T B2 ρ2 accD acc ∧ acc.length ≤ i ∧
        OkL T W σ B H ρ ((compL chk t mt me (wipeE env (own.map (·.2))) (ds.drop i) S2).bind fun xs S3 => .ok (accD ++ xs) S3) Q,
        ⟨ds.length, B1, ρ1, S1, [], [], by simp, Nat.zero_le _, R1.add hD, sr.same _ _ _ _ _ _ _ hG (Gr.add (H := H1) (o := .lst []) hD).w (R1.add hD), g1.trans (Gr.add hD), upd_same, R1.notin hD, R1.ne hD, .nil, Nat.le_refl _, ?_⟩, ?_⟩
      · rw [List.drop_zero]
        have e0 : (compL chk t mt me (wipeE env (own.map (·.2))) ds S1).bind (fun xs S3 => Res.ok ([] ++ xs) S3) = compL chk t mt me (wipeE env (own.map (·.2))) ds S1 := by
          cases compL chk t mt me (wipeE env (own.map (·.2))) ds S1 <;> rfl
        rw [e0]
        exact h
      · rintro i m H2 ⟨B2, ρ2, S2, accD, acc, rfl, hi, R2, G2, g2, hHD, hr, hb, rp, hac, ok⟩
        by_cases hlt : i < ds.length
        · have hd : ds[i]? = some ds[i] := List.getElem?_eq_getElem hlt
          obtain ⟨go, yld⟩ := sr.go B2 H2 ρ2 S2 i _ R2 G2 hd
          rw [List.drop_eq_getElem_cons hlt] at ok
          unfold compL at ok
          cases q : t.put ds[i] (wipeE env (own.map (·.2))) with
          | none => rw [q] at ok; exact ok.elim
          | some env1 =>
            rw [q] at ok
            dsimp only at ok
            refine .inr ⟨go, fun H' => ∃ B' ρ' S' accD acc, i + 1 ≤ ds.length ∧ RelS T B' H' ρ' S' ∧ G B' H' ρ' S' ∧ Gr B H ρ B' H' ρ' ∧ H' D = some (.lst acc) ∧ D ∉ ρ' ∧ B' D = none ∧ Rps T B' ρ' accD acc ∧ acc.length ≤ i + 1 ∧
              OkL T W σ B H ρ ((compL chk t mt me (wipeE env (own.map (·.2))) (ds.drop (i + 1)) S').bind fun xs S3 => .ok (accD ++ xs) S3) Q,
              fun H' ⟨B', ρ', S', aD, ac, h1, h2⟩ => ⟨ds.length - (i + 1), by omega, B', ρ', S', aD, ac, rfl, h1, h2⟩, fun x H' y s H0 C cl fp => ?_⟩
            obtain ⟨B3, g3, R3, rx, G3⟩ := yld x H' y
            have D3 : ∀ {B' H'' : Hp} {ρ' : List Addr}, Gr B2 H2 ρ2 B' H'' ρ' → H'' D = some (.lst acc) ∧ D ∉ ρ' ∧ B' D = none := fun g =>
              ⟨g.frm D _ hHD hr, (fun hm => (g.new D hm).elim hr fun z => by rw [hHD] at z; cases z), g.pri D _ hHD hr hb⟩
            refine hg s H0 C cl fp (L2.wipe σ (own.map (·.2))) B3 H' ρ2 S2 _ _ x env1 (fun σ2 H2 => L2.wipe σ2 (own.map (·.2)) = L2.wipe σ (own.map (·.2)) ∧ _) R3 ((((er.gr g2).wipe (own.map (·.2)))).gr g3) rx q fun σ3 er3 b3 => ?_
            refine ⟨wipe_but b3 hsl, ?_⟩
            have base : ∀ {α : Type} {r : Res α} {f : α → Sto → Res (List Z.D)}, OkL T W σ B H ρ ((r.calm.bind f).bind fun xs S3 => .ok (accD ++ xs) S3) Q → r = .bad ∨ (∃ a S', r = .ok a S' ∧ OkL T W σ B H ρ ((f a S').bind fun xs S3 => .ok (accD ++ xs) S3) Q) := fun {α r f} h => by
              cases r with
              | ok a S' => exact .inr ⟨a, S', rfl, h⟩
              | exc c x S' => exact h.elim
              | bad => exact .inl rfl
            intro s' H0' C' cl' fp'
            rcases base ok with e1 | ⟨k, S3, e1, ok1⟩
            · rw [e1] at ok; exact ok.elim
            refine ht s' H0' C' cl' fp' σ3 B3 H' ρ2 S2 env1 _ R3 er3 ?_
            rw [e1]
            intro B4 H4 ρ4 k' g4 R4 ek
            subst ek
            cases k with
            | false =>
              have ok1' : OkL T W σ B H ρ ((if chk S3 then compL chk t mt me (wipeE env (own.map (·.2))) (ds.drop (i + 1)) S3 else .bad).bind fun xs S3 => .ok (accD ++ xs) S3) Q := ok1
              split at ok1'
              · rename_i c
                obtain ⟨d1, d2, d3⟩ := D3 (g3.trans g4)
                exact ⟨B4, ρ4, S3, accD, acc, hlt, R4, sr.stay _ _ _ _ _ _ _ _ G3 g4.w R4 c, (g2.trans g3).trans g4, d1, d2, d3, (g3.trans g4).rps rp, Nat.le_succ_of_le hac, ok1'⟩
              · exact ok1'.elim
            | true =>
              intro s5 H5' C5 cl5 fp5
              rcases base (r := me env1 S3) (f := fun x S2 => if chk S2 then (compL chk t mt me (wipeE env (own.map (·.2))) (ds.drop (i + 1)) S2).bind fun xs S3 => .ok (x :: xs) S3 else .bad) ok1 with e2 | ⟨xd, S4, e2, ok2⟩
              · have ok1' : OkL T W σ B H ρ (((me env1 S3).calm.bind fun x S2 => if chk S2 then (compL chk t mt me (wipeE env (own.map (·.2))) (ds.drop (i + 1)) S2).bind fun xs S3 => .ok (x :: xs) S3 else .bad).bind fun xs S3 => .ok (accD ++ xs) S3) Q := ok1
                rw [e2] at ok1'; exact ok1'.elim
              refine he s5 H5' C5 cl5 fp5 σ3 B4 H4 ρ4 S3 env1 _ R4 (er3.gr g4) ?_
              rw [e2]
              intro B5 H5 ρ5 y g5 R5 ry
              obtain ⟨d1, d2, d3⟩ := D3 ((g3.trans g4).trans g5)
              split at ok2
              · rename_i c
                have hz : acc.length < sizeLine := by omega
                have gD : Gr B H ρ B5 (upd H5 D (.lst (acc ++ [y]))) ρ5 := by
                  have g := ((g2.trans g3).trans g4).trans g5
                  exact ⟨g.le, g.suf, fun a u h hn => by rw [upd_ne (ne_of_none h hD0)]; exact g.frm a u h hn, g.new, g.pri⟩
                refine ⟨acc, d1, hz, B5, ρ5, S4, accD ++ [xd], acc ++ [y], hlt, R5.oth d2 d3, sr.stay _ _ _ _ _ _ _ _ G3 (g4.trans g5).w (R5.oth d2 d3) c, gD, upd_same, d2, d3, (((g3.trans g4).trans g5).rps rp).append (.cons ry .nil), by simp only [List.length_append, List.length_cons, List.length_nil]; omega, ?_⟩
                · have e3 : ((compL chk t mt me (wipeE env (own.map (·.2))) (ds.drop (i + 1)) S4).bind fun xs S3 => Res.ok (xd :: xs) S3).bind (fun xs S3 => Res.ok (accD ++ xs) S3) = (compL chk t mt me (wipeE env (own.map (·.2))) (ds.drop (i + 1)) S4).bind fun xs S3 => Res.ok ((accD ++ [xd]) ++ xs) S3 := by
                    cases compL chk t mt me (wipeE env (own.map (·.2))) (ds.drop (i + 1)) S4 with
                    | ok a S => simp only [Res.bind_ok, List.append_assoc, List.singleton_append]
                    | exc _ _ _ => rfl
                    | bad => rfl
                  rw [e3] at ok2
                  exact ok2
              · exact ok2.elim
        · have e2 : i = ds.length := by omega
          subst e2
          refine .inl ⟨sr.stop B2 H2 ρ2 S2 R2 G2, ?_⟩
          rw [List.drop_length] at ok
          have ok' : OkL T W σ B H ρ (.ok (accD ++ []) S2) Q := ok
          rw [List.append_nil] at ok'
          exact ok' B2 H2 ρ2 D acc g2 R2 hD0 hr hb hHD rp
    · exact h.elim
theorem pgAll {s : Shared} {H : Hp} {C : Addr} {cl : List (Str × Addr)} {fp : List Addr} : PG (blkX X scope s H C cl fp) tg (gAll X scope tg) := ⟨fun pins s' σ H' v u Q I r h => h s H C cl fp pins s' u I r⟩
theorem peAll {s : Shared} {H : Hp} {C : Addr} {cl : List (Str × Addr)} {fp : List Addr} : PE (blkX X scope s H C cl fp) elt (eAll X scope elt) := ⟨fun pins s' σ H' Q I h => h s H C cl fp pins s' I⟩
theorem ptAll {s : Shared} {H : Hp} {C : Addr} {cl : List (Str × Addr)} {fp : List Addr} : PTs (blkX X scope s H C cl fp) ifs (tAll X scope ifs) := ⟨fun pins s' σ H' Q I h => h s H C cl fp pins s' I⟩
theorem dl_comp (hc : X.calm = true) (hN : X.N.Nodup) (ok : BlkOk X.N X.env.scope scope own) (hi : DI X T W tg iter mi) (hg : ∀ s H C cl fp, DG (blkX X scope s H C cl fp) T tg t) (ht : ∀ s H C cl fp, DTs (blkX X scope s H C cl fp) T WF ifs mt)
    (he : ∀ s H C cl fp, DE (blkX X scope s H C cl fp) T WF elt me) (hsl : ∀ j ∈ t.slots, j ∈ own.map (·.2)) (hs : ∀ x, foldedSetIterable iter X.env x = pure x) : DL X T W (.ListComp elt [⟨tg, iter, ifs, 0⟩] scope pos) (lComp t mi mt me (own.map (·.2))) :=
  fun σ B H ρ S env Q R er h pins s I => (pe_lc hc hN sPI ok (fun _ _ _ _ _ => pgAll) (fun _ _ _ _ _ => ptAll) (fun _ _ _ _ _ => peAll) hs).run pins s σ H Q I (lc_rd hi hg ht he hsl R er h)
/-- name = [..] on one line, the name a plain local -/
theorem ds_setComp {i : Nat} {y : Str} {py spos : Pos} (hc : X.calm = true) (hN : X.N.Nodup) (hy : X.N[i]? = some y) (hyl : X.env.scope.names.lookup y = some .local) (hsw : swapsWith (.ListComp elt [⟨tg, iter, ifs, 0⟩] scope pos) (some (.Name y py)) spos.line X.env = pure true)
    (ok : BlkOk X.N X.env.scope scope own) (hi : DI X T W tg iter mi) (hg : ∀ s H C cl fp, DG (blkX X scope s H C cl fp) T tg t) (ht : ∀ s H C cl fp, DTs (blkX X scope s H C cl fp) T WF ifs mt)
    (he : ∀ s H C cl fp, DE (blkX X scope s H C cl fp) T WF elt me) (hsl : ∀ j ∈ t.slots, j ∈ own.map (·.2)) (hs : ∀ x, foldedSetIterable iter X.env x = pure x) {m : En → Sto → Res D}
    (hm : m = mVal (lComp t mi mt me (own.map (·.2))) ∨ m = mMut (lComp t mi mt me (own.map (·.2)))) : DS X T W (.Assign [.Name y py] (.ListComp elt [⟨tg, iter, ifs, 0⟩] scope pos) spos) (sAsg (.nm i) m) := by
  intro σ B H ρ S env E R er h pins s I
  have rd : ∀ Q, OkL T W σ B H ρ (lComp t mi mt me (own.map (·.2)) env S) Q → tLc (tSI X tg iter) (gAll X scope tg) (tAll X scope ifs) (eAll X scope elt) (own.map (·.2)) σ H Q := fun Q h => lc_rd hi hg ht he hsl R er h
  refine (ps_setLc hc hN hy hyl hsw sPI ok (fun _ _ _ _ _ => pgAll) (fun _ _ _ _ _ => ptAll) (fun _ _ _ _ _ => peAll) hs).run pins s σ H E I (rd _ ?_)
  have hx : OkE T W σ B H ρ (m env S) (fun x H1 => E.nx (σ.set i (some x)) H1) := OkS.expr (P := Rp T) h er fun d S1 B1 H1 ρ1 v _ g1 R1 p1 ok => ok.nx R1 ((er.gr g1).set p1)
  rcases hm with rfl | rfl
  · unfold mVal at hx
    cases e : lComp t mi mt me (own.map (·.2)) env S with
    | ok ds S1 =>
      rw [e] at hx
      exact fun B' H' ρ' p vs g R' hp hr hb hH rp => hx (upd B' p (.lst vs)) H' ρ' _ (g.pinT hp hb) (R'.pin hH hr hb) (.lst upd_same (rp.mono (Le.upd hb) fun _ _ h => h))
    | exc c x S1 => rw [e] at hx; exact hx
    | bad => rw [e] at hx; exact hx
  · unfold mMut at hx
    cases e : lComp t mi mt me (own.map (·.2)) env S with
    | ok ds S1 =>
      rw [e] at hx
      exact fun B' H' ρ' p vs g R' hp hr hb hH rp => hx B' H' (p :: ρ') _ (g.own hp) (R'.own hr ⟨hb, vs, hH, rp.mono (Le.refl _) fun _ _ h => look_cons h⟩) (.ref (by rw [← R'.len]; exact look_top))
    | exc c x S1 => rw [e] at hx; exact hx
    | bad => rw [e] at hx; exact hx
end
end Z

set_option Elab.async false
set_option linter.all false
set_option maxRecDepth 100000
set_option maxHeartbeats 4000000
/-! The Z layer, part J: calls of the program's defs; methods of built-in types; append. -/
namespace Z
open PySem PySem.Spec PyProof.Rows L2

/-! ### syntax -/
def nostar : Expr → Bool
  | .Starred _ _ => false
  | _ => true
theorem star_cons {e : Expr} {es : List Expr} {env : Env} (h : nostar e = true) : starEach (e :: es) env = (false, eval e env) :: starEach es env := by
  cases e <;> first | rfl | cases h
theorem star_map : ∀ {es : List Expr} {env : Env}, es.all nostar = true → ∀ p ∈ starEach es env, p.1 = false
  | [], _, _, _, h => by cases h
  | e :: es, env, ha, p, hp => by
    simp only [List.all_cons, Bool.and_eq_true] at ha
    rw [star_cons ha.1] at hp
    rcases List.mem_cons.mp hp with h | h
    · rw [h]
    · exact star_map ha.2 p h
theorem back_any {es : List Expr} {env : Env} {pos : Pos} (h : es.all nostar = true) : (backTo pos (starEach es env)).any (·.1) = false := by
  rw [List.any_eq_false]
  intro p hp
  unfold backTo at hp
  obtain ⟨q, hq, e⟩ := List.mem_map.mp hp
  have := star_map h q hq
  obtain ⟨s, t⟩ := q
  dsimp only at this e
  rw [← e, this]
  exact Bool.false_ne_true
theorem back_few {es : List Expr} {env : Env} {pos : Pos} (h : es.all nostar = true) (hl : es.length < 30) : ((backTo pos (starEach es env)).all (fun x => !x.1) && (backToKw pos (keywordEach [] env)).all (fun x => x.1.isSome)
      && decide (es.length + ([] : List Keyword).length + (if ([] : List Keyword).isEmpty then 0 else 1) < 30)) = true := by
  have h1 : (backTo pos (starEach es env)).all (fun x => !x.1) = true := by
    rw [List.all_eq_true]
    intro p hp
    have h2 := List.any_eq_false.mp (back_any (pos := pos) (env := env) h) p hp
    simpa using h2
  rw [h1]
  simp [keywordEach, backToKw, hl]
def notCall : Expr → Bool
  | .Call _ _ _ _ => false
  | _ => true
theorem base_ok {o : Expr} {f : Str} {env : Env} (h : notCall o = true) : attributeBase o f env (eval o env) = eval o env := by
  cases o <;> first | rfl | cases h

section
variable {X : Cx} {T : Wp} {W : WX} {a e : Expr} {es : List Expr} {pos : Pos} {ma : En → Sto → Res D} {ms : En → Sto → Res (List D)}
/-! ### defs -/
/-- what is wanted of a def's answer -/
def OkF (T : Wp) (B H : Hp) (ρ : List Addr) (r : Res D) (Q : VK) (E : XK) : Prop := match r with
  | .ok d S' => ∀ B' H' ρ' v, Gr B H ρ B' H' ρ' → RelS T B' H' ρ' S' → Rp T B' ρ' d v → Q v H'
  | .exc c x S' => ∀ B' H' ρ' v dd, Gr B H ρ B' H' ρ' → RelS T B' H' ρ' S' → Rp T B' ρ' x v → H' dd = some (.xd [(T.exf c, v)]) → E (.ref (T.cad c)) (some dd) H'
  | .bad => False
/-- the promise: what m says -/
def spM (T : Wp) (np : Nat) (m : List D → Sto → Res D) : Sp := fun vs H Q E => ∃ B ρ S ds, RelS T B H ρ S ∧ Rps T B ρ ds vs ∧ ds.length = np ∧ OkF T B H ρ (m ds S) Q E
/-- a def that can be called by its name -/
def FnAt (X : Cx) (T : Wp) (x : Str) (np : Nat) (m : List D → Sto → Res D) : Prop :=
  ∃ (k : Nat) (f : Addr) (fd : FuncData) (ps : List Str), FnOk X.prog X.w X.K X.mg X.base (L2.CX X.prog X.w) k f fd ps (spM T np m) ∧ Room k X.A ∧ X.mg x = some (.ref f) ∧ PySem.W.keepIn X.K (.ref f) = true ∧ Binds X.K fd ps []
def mApp (np : Nat) (m : List D → Sto → Res D) (ms : En → Sto → Res (List D)) : En → Sto → Res D := fun env S => (ms env S).bind fun ds S1 => if ds.length = np then m ds S1 else .bad
theorem de_app {x : Str} {p : Pos} {np : Nat} {m : List D → Sto → Res D} (tk : Takes X W) (F : FnAt X T x np m) (hg : Gl X x) (ha : DA X T W (a :: es) ms) (hdb : (x == ("__debug__" : Str)) = false) (hn : (a :: es).all nostar = true) : DE X T W (.Call (.Name x p) (a :: es) [] pos) (mApp np m ms) := by
  obtain ⟨k, f, fd, ps, F, hr, hm, hk, hb⟩ := F
  intro σ B H ρ S env Q R er h pins s I
  have hn' : nostar a = true ∧ es.all nostar = true := by simpa only [List.all_cons, Bool.and_eq_true] using hn
  refine (pe_callSD (E := fun σ => WE W σ) F hr hg hm hk hb .nil (fun σ => passAt tk σ) sPA hdb (star_cons hn'.1) (back_any hn'.2)).run pins s σ H Q I ?_
  refine ha σ B H ρ S env _ R er (OkG.bind (P := Rps T) h fun ds S1 B1 H1 ρ1 xs _ g1 R1 p1 ok => ?_)
  split at ok
  · rename_i hl
    refine ⟨B1, ρ1, S1, ds, R1, by rw [List.append_nil]; exact p1, hl, ?_⟩
    cases e : m ds S1 with
    | ok d S2 => rw [e] at ok; exact ok
    | exc c x S2 => rw [e] at ok; exact ok
    | bad => rw [e] at ok; exact ok
  · exact ok.elim

/-! ### append -/
/-- x.append(e), x a list of the store -/
def appAt (d x : D) (S : Sto) : Res D := match d with
  | .ref n => (match look S n with
    | some (.lst ds) => if ds.length < sizeLine then .ok .non (put S n (.lst (ds ++ [x]))) else .bad
    | _ => .bad)
  | _ => .bad
def isLst (S : Sto) (d : D) : Bool := (asL S d).isSome
def mAppend (ma me : En → Sto → Res D) : En → Sto → Res D := fun env S => (ma env S).bind fun d S1 => if isLst S1 d then (me env S1).bind fun x S2 => appAt d x S2 else .bad
theorem de_append {o : Expr} {apos cpos : Pos} {mo me : En → Sto → Res D} (hK : X.K = T.K) (ho : DE X T W o mo) (he : DE X T W e me) (hb : notCall o = true) (hne : nostar e = true) (hline : (apos.endLine == cpos.line) = true) :
    DE X T W (.Call (.Attribute o "append" apos) [e] [] cpos) (mAppend mo me) := by
  intro σ B H ρ S env Q R er h pins s I
  refine (pe_bm PySem.F.plainAttrs_list PySem.F.slot_list_append PySem.F.type_list_append mt_append sPE (pa_cons sPE pa_nil (star_cons hne)) (base_ok hb) (back_few (by simp [hne]) (by simp)) hline (star_cons hne) rfl).run pins s σ H Q I ?_
  refine ho σ B H ρ S env _ R er (OkG.bind (P := Rp T) h fun d S1 B1 H1 ρ1 x _ g1 R1 p1 ok => ?_)
  split at ok
  · rename_i hl
    unfold isLst at hl
    obtain ⟨ds, e1⟩ := Option.isSome_iff_exists.mp hl
    obtain ⟨q, vs, rfl, hH, _⟩ := asL_rp R1 p1 e1
    refine ⟨.inl ⟨rfl, vs, SqL.of hH⟩, he σ B1 H1 ρ1 S1 env _ R1 (er.gr g1) (OkG.bind (P := Rp T) ok fun y S2 B2 H2 ρ2 v _ g2 R2 p2 ok2 => ?_)⟩
    have p1' := g2.rp p1
    unfold appAt at ok2
    split at ok2
    · rename_i n
      cases p1' with
      | ref hl2 =>
        obtain ⟨o, ho2, hx⟩ := R2.there hl2
        rw [ho2] at ok2
        cases o with
        | lst es =>
          dsimp only at ok2
          split at ok2
          · rename_i hz
            obtain ⟨hb2, ws, hH2, rr⟩ := hx
            refine ⟨q, ws, v, rfl, rfl, hH2, by rw [← rr.length]; exact hz, ?_⟩
            exact ok2 B2 _ ρ2 .non (Gr.chg hl2) (R2.chg hl2 hb2 ⟨hb2, _, upd_same, rr.append (.cons p2 .nil)⟩) .non
          · exact ok2.elim
        | _ => exact ok2.elim
    · exact ok2.elim
  · exact ok.elim
/-- x.pop(), x a list of the store -/
def popAt (d : D) (S : Sto) : Res D := match d with
  | .ref n => (match look S n with
    | some (.lst ds) => (match ds[ds.length - 1]? with
      | some y => .ok y (put S n (.lst ds.dropLast))
      | none => .bad)
    | _ => .bad)
  | _ => .bad
def mPop (ma : En → Sto → Res D) : En → Sto → Res D := fun env S => (ma env S).bind fun d S1 => popAt d S1
theorem Rps.dropLast {B : Hp} {ρ : List Addr} {ds : List D} {vs : List V} (r : Rps T B ρ ds vs) : Rps T B ρ ds.dropLast vs.dropLast := by
  rw [List.dropLast_eq_take, List.dropLast_eq_take, r.length]
  exact r.take _
theorem de_pop {o : Expr} {apos cpos : Pos} {mo : En → Sto → Res D} (ho : DE X T W o mo) (hb : notCall o = true) (hline : (apos.endLine == cpos.line) = true) :
    DE X T W (.Call (.Attribute o "pop" apos) [] [] cpos) (mPop mo) := by
  intro σ B H ρ S env Q R er h pins s I
  refine (pe_bm0 PySem.F.plainAttrs_list PySem.F.slot_list_pop PySem.F.type_list_pop mt_pop sPE (base_ok hb) hline).run pins s σ H Q I ?_
  refine ho σ B H ρ S env _ R er (OkG.bind (P := Rp T) h fun d S1 B1 H1 ρ1 x _ g1 R1 p1 ok => ?_)
  unfold popAt at ok
  split at ok
  · rename_i n
    cases p1 with
    | ref hl2 =>
      obtain ⟨o, ho2, hx⟩ := R1.there hl2
      rw [ho2] at ok
      cases o with
      | lst es =>
        dsimp only at ok
        obtain ⟨hb2, ws, hH2, rr⟩ := hx
        cases e : es[es.length - 1]? with
        | none => rw [e] at ok; exact ok.elim
        | some y =>
          rw [e] at ok
          obtain ⟨v, hv, rv⟩ := rr.get e
          refine ⟨.inl ⟨rfl, ws, SqL.of hH2⟩, _, ws, v, rfl, rfl, hH2, by rw [← rr.length]; exact hv, ?_⟩
          exact ok B1 _ ρ1 v (Gr.chg hl2) (R1.chg hl2 hb2 ⟨hb2, _, upd_same, rr.dropLast⟩) rv
      | _ => exact ok.elim
  · exact ok.elim
/-- sep.join(xs) -/
def asStrs : List D → Option (List Str)
  | [] => some []
  | .str x :: ds => (asStrs ds).map (x :: ·)
  | _ => none
theorem asStrs_rps {B : Hp} {ρ : List Addr} : ∀ {ds : List D} {vs : List V} {xs : List Str}, Rps T B ρ ds vs → asStrs ds = some xs → vs = xs.map V.str
  | [], _, xs, .nil, h => by
    have : [] = xs := Option.some.inj h
    subst this; rfl
  | _ :: ds, _, xs, .cons r t, h => by
    cases r with
    | str x =>
      unfold asStrs at h
      cases e : asStrs ds with
      | none => rw [e] at h; cases h
      | some ys =>
        rw [e] at h
        have : x :: ys = xs := Option.some.inj h
        subst this
        rw [asStrs_rps t e]; rfl
    | _ => cases h
end
end Z

set_option Elab.async false
set_option linter.all false
set_option maxRecDepth 100000
set_option maxHeartbeats 4000000
/-! The Z layer, part K: a def's context; the rules with their side conditions as Bools. -/
namespace Z
open PySem PySem.Spec PyProof.Rows L2

/-! ### names -/
def nAt (N : List Str) (i : Nat) (x : Str) : Bool := match N[i]? with
  | some y => decide (y = x)
  | none => false
theorem nAt_ok {N : List Str} {i : Nat} {x : Str} (h : nAt N i x = true) : N[i]? = some x := by
  unfold nAt at h
  cases e : N[i]? with
  | none => rw [e] at h; cases h
  | some y => rw [e] at h; rw [of_decide_eq_true h]
def kL (sc : Scope) (x : Str) : Bool := match sc.names.lookup x with
  | some .local => true
  | _ => false
def kC (sc : Scope) (x : Str) : Bool := match sc.names.lookup x with
  | some .local => true
  | some .cell => true
  | _ => false
def kV (sc : Scope) (x : Str) : Bool := match sc.names.lookup x with
  | some .local => true
  | some .cell => true
  | some .free => true
  | _ => false
def kO (sc os : Scope) (x : Str) : Bool := kC sc x && kC os x
def kG (sc : Scope) (x : Str) : Bool := match sc.names.lookup x with
  | some .globalImplicit => true
  | _ => false
theorem kL_ok {sc : Scope} {x : Str} (h : kL sc x = true) : sc.names.lookup x = some .local := by
  unfold kL at h
  split at h
  · assumption
  · cases h
theorem kC_ok {sc : Scope} {x : Str} (h : kC sc x = true) : Loc sc x := by
  unfold kC at h
  split at h
  · exact .inl (by assumption)
  · exact .inr (by assumption)
  · cases h
theorem kO1 {sc os : Scope} {x : Str} (h : kO sc os x = true) : kC sc x = true := by
  simp only [kO, Bool.and_eq_true] at h; exact h.1
theorem kO2 {sc os : Scope} {x : Str} (h : kO sc os x = true) : kC os x = true := by
  simp only [kO, Bool.and_eq_true] at h; exact h.2
theorem kV_ok {sc : Scope} {x : Str} (h : kV sc x = true) : Vis sc x := by
  unfold kV at h
  split at h
  · exact .inl (by assumption)
  · exact .inr (.inl (by assumption))
  · exact .inr (.inr (by assumption))
  · cases h
theorem kG_ok {sc : Scope} {x : Str} (h : kG sc x = true) : sc.names.lookup x = some .globalImplicit := by
  unfold kG at h
  split at h
  · assumption
  · cases h
def odd1 (x : Str) : Bool := (!(x == ("__debug__" : Str))) && !(x == ("__classdict__" : Str))
theorem odd1_ok {x : Str} (h : odd1 x = true) : (x == ("__debug__" : Str)) = false ∧ (x == ("__classdict__" : Str)) = false := by
  unfold odd1 at h
  simpa using h

/-- what a def's body stands on, or a block in it -/
structure Ck (P : Program) (w : World) (mg : Str → Option Value) (base : Heap) (T : Wp) (k : Nat) (N : List Str) (sc os : Scope) (X : Cx) (W : WX) : Prop where
  eP : X.prog = P
  ew : X.w = w
  eK : X.K = T.K
  em : X.mg = mg
  eb : X.base = base
  eN : X.N = N
  nd : N.Nodup
  es : X.env.scope = sc
  calm : X.calm = true
  room : Room k X.A
  tk : Takes X W
  fn : ∀ x, Loc os x → X.fn x = true ∨ sc.names.lookup x = some .local
/-- a def of the program: it may be called at level k -/
def FnG (P : Program) (w : World) (mg : Str → Option Value) (base : Heap) (T : Wp) (k : Nat) (x : Str) (np : Nat) (m : List D → Sto → Res D) : Prop :=
  ∃ (f : Addr) (fd : FuncData) (ps : List Str), FnOk P w T.K mg base (L2.CX P w) k f fd ps (spM T np m) ∧ mg x = some (.ref f) ∧ PySem.W.keepIn T.K (.ref f) = true ∧ Binds T.K fd ps []
/-- a constant of the program -/
def GlG (mg : Str → Option Value) (T : Wp) (x : Str) (d : D) : Prop := ∃ u v, mg x = some u ∧ RelV v u ∧ ∀ B ρ, Rp T B ρ d v

def plE (b : Expr) : Bool := match b with
  | .Slice .. => false
  | .Tuple .. => false
  | _ => true
def compSc : Expr → Option Scope
  | .ListComp _ _ s _ | .SetComp _ _ s _ | .DictComp _ _ _ s _ => some s
  | _ => none
def swF (e : Expr) : Bool := (compSc e).isNone
theorem swF_ok {e : Expr} {t : Expr} {l : Nat} {env : Env} (h : swF e = true) : swapsWith e (some t) l env = pure false := by
  cases e <;> first | rfl | cases h
theorem swF_ok0 {e : Expr} {l : Nat} {env : Env} (h : swF e = true) : swapsWith e none l env = pure false := by
  cases e <;> first | rfl | cases h
def isTupE : Expr → Bool
  | .Tuple .. => true
  | _ => false
def isLstE : Expr → Bool
  | .List .. => true
  | _ => false
theorem sws_ok {t e : Expr} {env : Env} (h : (isTupE e && (isTupE t || isLstE t)) = false) : swappedStores [t] e env = pure none := by
  cases e <;> cases t <;> first | rfl | cases h
theorem as1_ok {t : Expr} {env : Env} (h : nostar t = true) : (assignEach [t] env).map (·.2) = [assign t env] := by
  cases t <;> first | rfl | cases h

def plIx : Expr → Bool
  | .Slice .. => false
  | _ => true
theorem plIx_ok {b : Expr} (h : plIx b = true) : PlainIx b := fun o i => by
  cases b <;> first | rfl | cases h
theorem plSub_ok {a i : Expr} {p' : Pos} {env : Env} (h : plIx i = true) : ∀ v, assign (.Subscript a i p') env v = (do
      let ov ← holding [v] (eval a env)
      let iv ← holding [v, ov] (eval i env)
      standAt p'
      holding [v, ov, iv] (setItem ov iv v)
      release [v, ov, iv] []) := fun v => by
  cases i <;> first | rfl | cases h
def valT : Expr → Bool
  | .UnaryOp .. => false
  | .BoolOp .. => false
  | .IfExp .. => false
  | .Compare .. => false
  | _ => true
theorem valT_ok {a : Expr} {env : Env} (h : valT a = true) : ∀ whole, isTrue a env whole = (do let v ← whole; standAt a.pos; holding [v] (truthy v)) := fun whole => by
  cases a <;> first | rfl | cases h
section
variable {P : Program} {w : World} {mg : Str → Option Value} {base : Heap} {T : Wp} {k : Nat} {N : List Str} {sc os : Scope} {X : Cx} {W : WX} {pos p apos : Pos} {a b c : Expr} {es : List Expr} {ma mb mc me : En → Sto → Res D} {ms : En → Sto → Res (List D)} {x : Str}
/-- a block's names within the def's scope sc -/
def relS (sc scope : Scope) : Scope := relabel scope { (default : Env) with scope := sc }
theorem Ck.blk (C : Ck P w mg base T k N sc os X W) (scope : Scope) (s : Shared) (H : Hp) (A : Addr) (cl : List (Str × Addr)) (fp : List Addr) : Ck P w mg base T k N (relS sc scope) scope (blkX X scope s H A cl fp) WF where
  eP := C.eP
  ew := C.ew
  eK := C.eK
  em := C.em
  eb := C.eb
  eN := C.eN
  nd := C.nd
  es := by rw [← C.es]; rfl
  calm := C.calm
  room := C.room
  tk := takes0
  fn := fun x h => by
    rcases h with h | h
    · exact .inr (lookup_relabel_local h)
    · refine .inl ?_
      show (scope.names.lookup x == some .cell) = true
      rw [h]; rfl
theorem Ck.units (C : Ck P w mg base T k N sc os X W) : X.A.units + 65 < cLine := by have := C.room.un; omega
theorem Ck.gl (C : Ck P w mg base T k N sc os X W) (h : kG sc x = true) : Gl X x := by
  unfold Gl Env.kindOf
  rw [C.es]; exact kG_ok h
theorem Ck.fnAt (C : Ck P w mg base T k N sc os X W) {j np : Nat} {m : List D → Sto → Res D} (F : FnG P w mg base T j x np m) (h : j ≤ k) : FnAt X T x np m := by
  obtain ⟨f, fd, ps, h1, h2, h3, h4⟩ := F
  refine ⟨j, f, fd, ps, ?_, C.room.mono h, ?_, ?_, ?_⟩
  · rw [C.eP, C.ew, C.eK, C.em, C.eb]; exact h1
  · rw [C.em]; exact h2
  · rw [C.eK]; exact h3
  · rw [C.eK]; exact h4
/-! ### expressions -/
theorem k_var (C : Ck P w mg base T k N sc os X W) (i : Nat) (h : (nAt N i x && (kV sc x && odd1 x)) = true) : DE X T W (.Name x pos) (mVar i) := by
  simp only [Bool.and_eq_true] at h
  exact de_var (by rw [C.eN]; exact nAt_ok h.1) (by rw [C.es]; exact kV_ok h.2.1) (odd1_ok h.2.2).1 (odd1_ok h.2.2).2
theorem k_frz (C : Ck P w mg base T k N sc os X W) (i : Nat) (h : (nAt N i x && (kV sc x && odd1 x)) = true) : DE X T W (.Name x pos) (mFrz i) := by
  simp only [Bool.and_eq_true] at h
  exact de_frz (by rw [C.eN]; exact nAt_ok h.1) (by rw [C.es]; exact kV_ok h.2.1) (odd1_ok h.2.2).1 (odd1_ok h.2.2).2
theorem k_glo (C : Ck P w mg base T k N sc os X W) {d : D} (g : GlG mg T x d) (h : (kG sc x && odd1 x) = true) : DE X T W (.Name x pos) (mCon d) := by
  simp only [Bool.and_eq_true] at h
  exact de_glo (C.gl h.1) (by obtain ⟨u, v, h1, h2⟩ := g; exact ⟨u, v, by rw [C.em]; exact h1, h2⟩) (odd1_ok h.2).1
def bT (x : Str) (t : Ty) : Bool := decide (bootBuiltins x = some (.type (tyS t))) && !decide (x = "__name__")
theorem k_ty (C : Ck P w mg base T k N sc os X W) {t : Ty} (hm : mg x = none) (h : (kG sc x && (odd1 x && bT x t)) = true) : DE X T W (.Name x pos) (mCon (.ty t)) := by
  simp only [Bool.and_eq_true, bT, Bool.not_eq_true', decide_eq_true_eq, decide_eq_false_iff_not] at h
  exact de_ty (C.gl h.1) (by rw [C.em]; exact hm) h.2.2.1 h.2.2.2 (odd1_ok h.2.1).1
theorem k_add (C : Ck P w mg base T k N sc os X W) (ha : DE X T W a ma) (hb : DE X T W b mb) : DE X T W (.BinOp a .Add b pos) (mBin addD ma mb) := de_bin (do_add C.eK) ha hb
theorem k_sub (C : Ck P w mg base T k N sc os X W) (ha : DE X T W a ma) (hb : DE X T W b mb) : DE X T W (.BinOp a .Sub b pos) (mBin subD ma mb) := de_bin do_sub ha hb
theorem k_mul (C : Ck P w mg base T k N sc os X W) (ha : DE X T W a ma) (hb : DE X T W b mb) : DE X T W (.BinOp a .Mult b pos) (mBin mulD ma mb) := de_bin do_mul ha hb
theorem k_div (C : Ck P w mg base T k N sc os X W) (ha : DE X T W a ma) (hb : DE X T W b mb) : DE X T W (.BinOp a .FloorDiv b pos) (mBin divD ma mb) := de_bin do_div ha hb
theorem k_mod (C : Ck P w mg base T k N sc os X W) (ha : DE X T W a ma) (hb : DE X T W b mb) : DE X T W (.BinOp a .Mod b pos) (mBin modD ma mb) := de_bin do_mod ha hb
theorem k_pow (C : Ck P w mg base T k N sc os X W) (ha : DE X T W a ma) (hb : DE X T W b mb) : DE X T W (.BinOp a .Pow b pos) (mBin powD ma mb) := de_bin do_pow ha hb
theorem k_neg (C : Ck P w mg base T k N sc os X W) (ha : DE X T W a ma) : DE X T W (.UnaryOp .USub a pos) (mUn negD ma) := de_un du_neg ha
/-- comparisons: what the sign does -/
inductive CmO (X : Cx) (T : Wp) : CmpOp → (D → D → Sto → Res D) → Prop
  | mk {op f} : DO X T (compareOp op) f → CmO X T op f
theorem k_eq (C : Ck P w mg base T k N sc os X W) : DO X T (compareOp .Eq) eqD := do_eq C.eK (by have := C.units; omega)
theorem k_ne (C : Ck P w mg base T k N sc os X W) : DO X T (compareOp .NotEq) neD := do_ne C.eK (by have := C.units; omega)
theorem k_lt (C : Ck P w mg base T k N sc os X W) : DO X T (compareOp .Lt) ltD := do_lt
theorem k_le (C : Ck P w mg base T k N sc os X W) : DO X T (compareOp .LtE) leD := do_le
theorem k_gt (C : Ck P w mg base T k N sc os X W) : DO X T (compareOp .Gt) gtD := do_gt
theorem k_ge (C : Ck P w mg base T k N sc os X W) : DO X T (compareOp .GtE) geD := do_ge
theorem k_is (C : Ck P w mg base T k N sc os X W) : DO X T (compareOp .Is) isD := do_is
theorem k_isnt (C : Ck P w mg base T k N sc os X W) : DO X T (compareOp .IsNot) isntD := do_isnt
theorem k_in (C : Ck P w mg base T k N sc os X W) : DO X T (compareOp .In) inD := do_in C.eK C.units
theorem k_nin (C : Ck P w mg base T k N sc os X W) : DO X T (compareOp .NotIn) ninD := do_nin C.eK C.units
theorem k_ix (C : Ck P w mg base T k N sc os X W) (ha : DE X T W a ma) (hb : DE X T W b mb) (h : plIx b = true) : DE X T W (.Subscript a b pos) (mIx ma mb) := de_ix C.eK ha hb (plIx_ok h)
theorem k_val (h : valT a = true) (ha : DE X T W a ma) : DT X T W a (asB ma) := dt_val (valT_ok h) ha
theorem k_sl {lo hi : Option Expr} {p2 : Pos} {mlo mhi : En → Sto → Res (Option Int)} (C : Ck P w mg base T k N sc os X W) (ha : DE X T W a ma) (hl : DP X T W lo mlo) (hh : DP X T W hi mhi) : DE X T W (.Subscript a (.Slice lo hi none p2) pos) (mSl ma mlo mhi) := de_sl C.eK ha hl hh
theorem k_lsl {lo hi : Option Expr} {p2 : Pos} {mlo mhi : En → Sto → Res (Option Int)} (C : Ck P w mg base T k N sc os X W) (ha : DE X T W a ma) (hl : DP X T W lo mlo) (hh : DP X T W hi mhi) : DL X T W (.Subscript a (.Slice lo hi none p2) pos) (lSl ma mlo mhi) := dl_sl C.eK ha hl hh
theorem k_cons (ha : DE X T W a ma) (hr : DA X T W es ms) (h : nostar a = true) : DA X T W (a :: es) (mCons ma ms) := da_cons ha hr (star_cons h)
theorem k_copy (C : Ck P w mg base T k N sc os X W) (hm : mg "list" = none) (ha : DE X T W a ma) (h : (kG sc "list" && nostar a) = true) : DL X T W (.Call (.Name "list" p) [a] [] pos) (lCopy ma) := by
  simp only [Bool.and_eq_true] at h
  exact dl_copy C.eK (C.gl h.1) (by rw [C.em]; exact hm) ha (star_cons h.2)
def bB (x : Str) (u : Value) : Bool := decide (bootBuiltins x = some u) && !decide (x = "__name__")
theorem k_callB (C : Ck P w mg base T k N sc os X W) {id : String} {f : List D → Sto → Res D} (hc : DC X T (.builtin id) f) (hm : mg x = none) (ha : DA X T W (a :: es) ms) (h : (kG sc x && (odd1 x && (bB x (.builtin id) && (nostar a && es.all nostar)))) = true) : DE X T W (.Call (.Name x p) (a :: es) [] pos) (mCall f ms) := by
  simp only [Bool.and_eq_true, bB, Bool.not_eq_true', decide_eq_true_eq, decide_eq_false_iff_not] at h
  exact de_callB hc (C.gl h.1) (by rw [C.em]; exact hm) h.2.2.1.1 ha h.2.2.1.2 (odd1_ok h.2.1).1 (star_cons h.2.2.2.1) (back_any h.2.2.2.2)
theorem k_callTy (C : Ck P w mg base T k N sc os X W) {id : String} {f : List D → Sto → Res D} (hc : DC X T (.type id) f) (hm : mg x = none) (ha : DA X T W (a :: es) ms) (h : (kG sc x && (odd1 x && (bB x (.type id) && (nostar a && es.all nostar)))) = true) : DE X T W (.Call (.Name x p) (a :: es) [] pos) (mCall f ms) := by
  simp only [Bool.and_eq_true, bB, Bool.not_eq_true', decide_eq_true_eq, decide_eq_false_iff_not] at h
  exact de_callTy hc (C.gl h.1) (by rw [C.em]; exact hm) h.2.2.1.1 ha h.2.2.1.2 (odd1_ok h.2.1).1 (star_cons h.2.2.2.1) (back_any h.2.2.2.2)
theorem k_app (C : Ck P w mg base T k N sc os X W) {j np : Nat} {m : List D → Sto → Res D} (F : FnG P w mg base T j x np m) (ha : DA X T W (a :: es) ms) (hj : j ≤ k) (h : (kG sc x && (odd1 x && (a :: es).all nostar)) = true) : DE X T W (.Call (.Name x p) (a :: es) [] pos) (mApp np m ms) := by
  simp only [Bool.and_eq_true] at h
  exact de_app C.tk (C.fnAt F hj) (C.gl h.1) ha (odd1_ok h.2.1).1 h.2.2
theorem k_append (C : Ck P w mg base T k N sc os X W) {o : Expr} {mo : En → Sto → Res D} (ho : DE X T W o mo) (he : DE X T W a ma) (h : (notCall o && (nostar a && (apos.endLine == pos.line))) = true) : DE X T W (.Call (.Attribute o "append" apos) [a] [] pos) (mAppend mo ma) := by
  simp only [Bool.and_eq_true] at h
  exact de_append C.eK ho he h.1 h.2.1 h.2.2
theorem k_pop (C : Ck P w mg base T k N sc os X W) {o : Expr} {mo : En → Sto → Res D} (ho : DE X T W o mo) (h : (notCall o && (apos.endLine == pos.line)) = true) : DE X T W (.Call (.Attribute o "pop" apos) [] [] pos) (mPop mo) := by
  simp only [Bool.and_eq_true] at h
  exact de_pop ho h.1 h.2
/-! ### what is walked -/
theorem k_seq {tg : Expr} (C : Ck P w mg base T k N sc os X W) (ha : DE X T W a ma) : DI X T W tg a (iSeq ma) := di_seq C.eK ha
theorem k_rng1 {tg : Expr} (C : Ck P w mg base T k N sc os X W) (hm : mg "range" = none) (ha : DE X T W a ma) (h : (kG sc "range" && nostar a) = true) : DI X T W tg (.Call (.Name "range" p) [a] [] pos) (iRng1m ma) := by
  simp only [Bool.and_eq_true] at h
  exact di_range1 (C.gl h.1) (by rw [C.em]; exact hm) ha (star_cons h.2)
theorem k_rng2 {tg : Expr} (C : Ck P w mg base T k N sc os X W) (hm : mg "range" = none) (ha : DE X T W a ma) (hb : DE X T W b mb) (h : (kG sc "range" && (nostar a && nostar b)) = true) : DI X T W tg (.Call (.Name "range" p) [a, b] [] pos) (iRng2m ma mb) := by
  simp only [Bool.and_eq_true] at h
  exact di_range2 (C.gl h.1) (by rw [C.em]; exact hm) ha hb (by rw [star_cons h.2.1, star_cons h.2.2]; rfl) (star_cons h.2.2)
/-! ### targets -/
theorem k_nm (C : Ck P w mg base T k N sc os X W) (i : Nat) (h : (nAt N i x && kO sc os x) = true) : DG X T (.Name x pos) (.nm i) := by
  simp only [Bool.and_eq_true] at h
  exact dg_name (by rw [C.eN]; exact C.nd) (by rw [C.eN]; exact nAt_ok h.1) (by rw [C.es]; exact kC_ok (kO1 h.2)) (by rw [C.es]; exact C.fn _ (kC_ok (kO2 h.2)))
def nmOf : Expr → Option Str
  | .Name x _ => some x
  | _ => none
def nmsB (N : List Str) (sc os : Scope) : List Expr → List Nat → Bool
  | [], [] => true
  | e :: es, i :: is => (match nmOf e with
    | some x => nAt N i x && (kO sc os x && nmsB N sc os es is)
    | none => false)
  | _, _ => false
theorem nms_ok (C : Ck P w mg base T k N sc os X W) : ∀ {es : List Expr} {is : List Nat}, nmsB N sc os es is = true → NamesAt X es is ∧ (assignEach es X.env).findIdx? (·.1) = none ∧ (assignEach es X.env).length = is.length
  | [], [], _ => ⟨.nil, rfl, rfl⟩
  | [], _ :: _, h => by cases h
  | _ :: _, [], h => by cases h
  | e :: es, i :: is, h => by
    cases e with
    | Name x q =>
      have h : (nAt N i x && (kO sc os x && nmsB N sc os es is)) = true := h
      simp only [Bool.and_eq_true] at h
      obtain ⟨h1, h2, h3⟩ := nms_ok C h.2.2
      refine ⟨.cons (by rw [C.eN]; exact nAt_ok h.1) (by rw [C.es]; exact kC_ok (kO1 h.2.1)) (by rw [C.es]; exact C.fn _ (kC_ok (kO2 h.2.1))) h1, ?_, ?_⟩
      · show ((false, assign (.Name x q) X.env) :: assignEach es X.env).findIdx? (·.1) = none
        rw [List.findIdx?_cons, h2]; rfl
      · show ((false, assign (.Name x q) X.env) :: assignEach es X.env).length = _
        rw [List.length_cons, h3]; rfl
    | _ => cases h
theorem k_tp (C : Ck P w mg base T k N sc os X W) {n : Nat} (is : List Nat) (h : nmsB N sc os es is = true) : DG X T (.Tuple es n pos) (.tp is) := by
  obtain ⟨h1, h2, h3⟩ := nms_ok C h
  exact dg_tup C.eK C.calm (by rw [C.eN]; exact C.nd) h1 h2 h3
/-! ### statements -/
theorem k_expr (he : DE X T W a ma) (h : swF a = true) : DS X T W (.Expr a pos) (sExpr ma) := ds_expr he (swF_ok0 h)
theorem k_set (C : Ck P w mg base T k N sc os X W) (i : Nat) {p' : Pos} (he : DE X T W a ma) (h : (nAt N i x && (kO sc os x && swF a)) = true) : DS X T W (.Assign [.Name x p'] a pos) (sAsg (.nm i) ma) := by
  simp only [Bool.and_eq_true] at h
  exact ds_set (by rw [C.eN]; exact C.nd) (by rw [C.eN]; exact nAt_ok h.1) (by rw [C.es]; exact kC_ok (kO1 h.2.1)) he (swF_ok h.2.2) (by rw [C.es]; exact C.fn _ (kC_ok (kO2 h.2.1)))
def swFc (e : Expr) (sc : Scope) (x : Str) : Bool := !kL sc x
theorem swFc_ok {e : Expr} {x : Str} {p' : Pos} {l : Nat} {env : Env} (h : kL env.scope x = false) : swapsWith e (some (.Name x p')) l env = pure false := by
  have e1 : (env.kindOf x == some .local) = false := by
    unfold Env.kindOf
    unfold kL at h
    split at h
    · cases h
    · rename_i q
      cases e : env.scope.names.lookup x with
      | none => rfl
      | some z =>
        cases z <;> first | rfl | exact absurd e q
  unfold swapsWith
  cases e <;> first | rfl | simp only [e1, Bool.and_false, Bool.false_and] | (simp only [e1, Bool.and_false, Bool.false_and]; rfl)
/-- a name that is a cell = [..] -/
theorem k_setC (C : Ck P w mg base T k N sc os X W) (i : Nat) {p' : Pos} (he : DE X T W a ma) (h : (nAt N i x && (kO sc os x && !kL sc x)) = true) : DS X T W (.Assign [.Name x p'] a pos) (sAsg (.nm i) ma) := by
  simp only [Bool.and_eq_true, Bool.not_eq_true'] at h
  exact ds_set (by rw [C.eN]; exact C.nd) (by rw [C.eN]; exact nAt_ok h.1) (by rw [C.es]; exact kC_ok (kO1 h.2.1)) he (swFc_ok (by rw [C.es]; exact h.2.2)) (by rw [C.es]; exact C.fn _ (kC_ok (kO2 h.2.1)))
theorem k_asgT (C : Ck P w mg base T k N sc os X W) {n : Nat} {p' : Pos} (is : List Nat) (he : DE X T W a ma) (h : (nmsB N sc os es is && (swF a && !isTupE a)) = true) : DS X T W (.Assign [.Tuple es n p'] a pos) (sAsg (.tp is) ma) := by
  simp only [Bool.and_eq_true, Bool.not_eq_true'] at h
  have hs : swapsWithSole [.Tuple es n p'] a pos.line X.env = pure false := swF_ok (t := .Tuple es n p') (l := pos.line) (env := X.env) h.2.1
  exact ds_asg he (k_tp C is h.1) hs (sws_ok (by simp [h.2.2])) (as1_ok rfl)
theorem k_setL (C : Ck P w mg base T k N sc os X W) {i : Expr} {mi : En → Sto → Res D} {p' : Pos} (he : DE X T W c mc) (ha : DE X T W a ma) (hi : DE X T W i mi) (h : (swF c && plIx i) = true) : DS X T W (.Assign [.Subscript a i p'] c pos) (sSetL mc ma mi) := by
  simp only [Bool.and_eq_true] at h
  have hs : swapsWithSole [.Subscript a i p'] c pos.line X.env = pure false := swF_ok (t := .Subscript a i p') (l := pos.line) (env := X.env) h.1
  exact ds_setL he ha hi hs (sws_ok (by simp [isTupE, isLstE])) (as1_ok rfl) (plSub_ok h.2)
theorem k_while (C : Ck P w mg base T k N sc os X W) (po : PassesOwn (model X.prog X.w) X.A X.env X.xe) {body : List Stmt} {mt : En → Sto → Res Bool} {mb : En → Sto → Out} (hc : DT X T W c mt) (hb : DB X T W body mb) : DS X T W (.While c body [] pos) (sWhile mt mb) := ds_while po hc hb
theorem k_for (C : Ck P w mg base T k N sc os X W) (po : PassesOwn (model X.prog X.w) X.A X.env X.xe) {tg iter : Expr} {body : List Stmt} {t : Tg} {mi : En → Sto → Res (List D × (Sto → Prop))} {mb : En → Sto → Out} (hg : DG X T tg t) (hi : DI X T W tg iter mi) (hb : DB X T W body mb) (h : swF iter = true) (hs : ∀ x, foldedSetIterable iter X.env x = pure x) :
    DS X T W (.For tg iter body [] pos) (sFor t mi mb) := by
  first
  | exact ds_for po C.calm hi hg hb hs
  | exact ds_for po C.calm hi hg hb (fun x => hs x)
end
end Z

set_option Elab.async false
set_option linter.all false
set_option maxRecDepth 100000
set_option maxHeartbeats 4000000
/-! The Z layer, part L: a def's end: what it made and nobody holds any more is dropped. -/
namespace Z
open PySem PySem.Spec PyProof.Rows L2

mutual
/-- no reference from n on -/
def nrD (n : Nat) : D → Bool
  | .tup ds => nrDs n ds
  | .lst ds => nrDs n ds
  | .scr ds => nrDs n ds
  | .ins _ _ ds => nrDs n ds
  | .ref m => decide (m < n)
  | .exn _ x => nrD n x
  | _ => true
def nrDs (n : Nat) : List D → Bool
  | [] => true
  | d :: ds => nrD n d && nrDs n ds
end
def nrO (n : Nat) : O → Bool
  | .lst ds => nrDs n ds
  | .frz ds => nrDs n ds
  | .ins _ _ ds => nrDs n ds
  | .dK kvs => nrDs n (kvs.map (·.2))
  | .dT kvs => nrDs n (kvs.map (·.2))
/-- the n objects at the bottom -/
def ceilS (n : Nat) (S : Sto) : Sto := S.drop (S.length - n)
theorem look_ceil {α : Type} : ∀ {xs : List α} {n m : Nat}, n ≤ xs.length → m < n → look (xs.drop (xs.length - n)) m = look xs m
  | [], _, _, _, _ => by simp
  | x :: xs, n, m, h, hm => by
    by_cases e : n = xs.length + 1
    · subst e; simp
    · have h' : n ≤ xs.length := by simp only [List.length_cons] at h; omega
      have e1 : (x :: xs).length - n = (xs.length - n) + 1 := by simp only [List.length_cons]; omega
      rw [e1, List.drop_succ_cons, look_ceil h' hm]
      show _ = if m = xs.length then some x else look xs m
      rw [if_neg (by omega)]
theorem drop_suf {α : Type} {l r : List α} : (l ++ r).drop ((l ++ r).length - r.length) = r := by
  rw [List.length_append, Nat.add_sub_cancel, List.drop_left]
section
variable {T : Wp} {B : Hp} {ρ ρ' : List Addr} {n : Nat}
mutual
theorem Rp.low (hρ : ∀ m a, m < n → look ρ' m = some a → look ρ m = some a) : ∀ {d : D} {v : V}, Rp T B ρ' d v → nrD n d = true → Rp T B ρ d v
  | _, _, .non, _ => .non
  | _, _, .bl b, _ => .bl b
  | _, _, .int i, _ => .int i
  | _, _, .str x, _ => .str x
  | _, _, .tup h r, q => .tup h (Rps.low hρ r (by unfold nrD at q; exact q))
  | _, _, .lst h r, q => .lst h (Rps.low hρ r (by unfold nrD at q; exact q))
  | _, _, .scr h r, q => .scr h (Rps.low hρ r (by unfold nrD at q; exact q))
  | _, _, .ins h r l, q => .ins h (Rps.low hρ r (by unfold nrD at q; exact q)) l
  | _, _, .ref h, q => .ref (hρ _ _ (by unfold nrD at q; exact of_decide_eq_true q) h)
  | _, _, .cls c, _ => .cls c
  | _, _, .ty t, _ => .ty t
theorem Rps.low (hρ : ∀ m a, m < n → look ρ' m = some a → look ρ m = some a) : ∀ {ds : List D} {vs : List V}, Rps T B ρ' ds vs → nrDs n ds = true → Rps T B ρ ds vs
  | _, _, .nil, _ => .nil
  | _, _, .cons r t, q => by
    unfold nrDs at q
    rw [Bool.and_eq_true] at q
    exact .cons (Rp.low hρ r q.1) (Rps.low hρ t q.2)
end
mutual
theorem Rp.nr : ∀ {d : D} {v : V}, Rp T B ρ d v → nrD ρ.length d = true
  | _, _, .non => rfl
  | _, _, .bl b => rfl
  | _, _, .int i => rfl
  | _, _, .str x => rfl
  | _, _, .tup h r => by unfold nrD; exact Rps.nr r
  | _, _, .lst h r => by unfold nrD; exact Rps.nr r
  | _, _, .scr h r => by unfold nrD; exact Rps.nr r
  | _, _, .ins h r l => by unfold nrD; exact Rps.nr r
  | _, _, .ref h => by unfold nrD; exact decide_eq_true (look_lt h)
  | _, _, .cls c => rfl
  | _, _, .ty t => rfl
theorem Rps.nr : ∀ {ds : List D} {vs : List V}, Rps T B ρ ds vs → nrDs ρ.length ds = true
  | _, _, .nil => rfl
  | _, _, .cons r t => by unfold nrDs; rw [Rp.nr r, Rps.nr t]; rfl
end
theorem ObjR.low {H : Hp} (hρ : ∀ m a, m < n → look ρ' m = some a → look ρ m = some a) {a : Addr} {o : O} (h : ObjR T B H ρ' a o) (q : nrO n o = true) : ObjR T B H ρ a o := by
  cases o with
  | lst ds => obtain ⟨h1, vs, h2, h3⟩ := h; exact ⟨h1, vs, h2, h3.low hρ q⟩
  | frz ds => obtain ⟨vs, h2, h3⟩ := h; exact ⟨vs, h2, h3.low hρ q⟩
  | ins c fs ds => obtain ⟨h1, dx, vs, h2, h3, h4⟩ := h; exact ⟨h1, dx, vs, h2, h3.low hρ q, h4⟩
  | dK kvs => obtain ⟨h1, vs, h2, h3⟩ := h; exact ⟨h1, vs, h2, h3.low hρ q⟩
  | dT kvs => obtain ⟨h1, vs, h2, h3⟩ := h; exact ⟨h1, vs, h2, h3.low hρ q⟩
theorem ObjR.nr {H : Hp} {a : Addr} {o : O} (h : ObjR T B H ρ a o) : nrO ρ.length o = true := by
  cases o with
  | lst ds => obtain ⟨h1, vs, h2, h3⟩ := h; exact h3.nr
  | frz ds => obtain ⟨vs, h2, h3⟩ := h; exact h3.nr
  | ins c fs ds => obtain ⟨h1, dx, vs, h2, h3, h4⟩ := h; exact h3.nr
  | dK kvs => obtain ⟨h1, vs, h2, h3⟩ := h; exact h3.nr
  | dT kvs => obtain ⟨h1, vs, h2, h3⟩ := h; exact h3.nr
end

/-- the old objects hold nothing new -/
def OldOk (S S' : Sto) : Prop := ∀ m o, m < S.length → look S' m = some o → nrO S.length o = true ∨ look S m = some o
theorem OldOk.refl (S : Sto) : OldOk S S := fun _ _ _ h => .inr h
/-- a new list that is given back is frozen -/
def frzTop (n : Nat) (d : D) (S : Sto) : D × Sto := match d with
  | .ref m => if n ≤ m then (match look S m with
    | some (.lst ds) => (.lst ds, put S m (.frz ds))
    | some (.frz ds) => (.lst ds, S)
    | _ => (d, S)) else (d, S)
  | _ => (d, S)
open Classical in
noncomputable def gcD (S : Sto) (d : D) (S' : Sto) : Sto := if nrD S.length d = true ∧ OldOk S S' then ceilS S.length S' else S'
noncomputable def gcR (fz : Bool) (S : Sto) (r : Res D) : Res D := match r with
  | .ok d S' => if fz then .ok (frzTop S.length d S').1 (gcD S (frzTop S.length d S').1 (frzTop S.length d S').2) else .ok d (gcD S d S')
  | .exc c x S' => .exc c x (gcD S x S')
  | .bad => .bad
section
variable {T : Wp} {B H B' H' : Hp} {ρ ρ' : List Addr} {S S' : Sto}
theorem frz_ok (g : Gr B H ρ B' H' ρ') (R : RelS T B' H' ρ' S') {n : Nat} {d : D} {v : V} (r : Rp T B' ρ' d v) : ∃ B1, Gr B H ρ B1 H' ρ' ∧ RelS T B1 H' ρ' (frzTop n d S').2 ∧ Rp T B1 ρ' (frzTop n d S').1 v := by
  unfold frzTop
  cases r with
  | ref hl =>
    rename_i m a
    dsimp only
    split
    · obtain ⟨o, ho, hx⟩ := R.there hl
      rw [ho]
      cases o with
      | lst ds =>
        obtain ⟨hb, vs, hH, rr⟩ := hx
        have hl' := hl
        have g' : Gr B' H' ρ' (upd B' a (.lst vs)) H' ρ' := Gr.ice hb (look_mem hl)
        exact ⟨upd B' a (.lst vs), g.trans g', R.ice hl hH hb ⟨vs, upd_same, rr.mono (Le.upd hb) fun _ _ h => h⟩, .lst upd_same (rr.mono (Le.upd hb) fun _ _ h => h)⟩
      | frz ds =>
        obtain ⟨vs, hB, rr⟩ := hx
        exact ⟨B', g, R, .lst hB rr⟩
      | _ => exact ⟨B', g, R, .ref hl⟩
    · exact ⟨B', g, R, .ref hl⟩
  | non => exact ⟨B', g, R, .non⟩
  | bl b => exact ⟨B', g, R, .bl b⟩
  | int i => exact ⟨B', g, R, .int i⟩
  | str x => exact ⟨B', g, R, .str x⟩
  | tup h r => exact ⟨B', g, R, .tup h r⟩
  | lst h r => exact ⟨B', g, R, .lst h r⟩
  | scr h r => exact ⟨B', g, R, .scr h r⟩
  | ins h r l => exact ⟨B', g, R, .ins h r l⟩
  | cls c => exact ⟨B', g, R, .cls c⟩
  | ty t => exact ⟨B', g, R, .ty t⟩
theorem gc_ok (R0 : RelS T B H ρ S) (g : Gr B H ρ B' H' ρ') (R : RelS T B' H' ρ' S') {d : D} {v : V} (r : Rp T B' ρ' d v) : ∃ ρ1, Gr B H ρ B' H' ρ1 ∧ RelS T B' H' ρ1 (gcD S d S') ∧ Rp T B' ρ1 d v := by
  unfold gcD
  split
  · rename_i h
    obtain ⟨h1, h2⟩ := h
    obtain ⟨l, e⟩ := g.suf
    have hl : ρ.length = S.length := R0.len
    have hle : S.length ≤ S'.length := by rw [← R.len, e, List.length_append, hl]; omega
    have e1 : ρ'.drop (ρ'.length - ρ.length) = ρ := by rw [e]; exact drop_suf
    have lk : ∀ m a, m < S.length → look ρ' m = some a → look ρ m = some a := fun m a hm h => by
      rw [← e1, hl, look_ceil (by rw [R.len]; exact hle) hm]; exact h
    refine ⟨ρ, ⟨g.le, ⟨[], rfl⟩, g.frm, fun a h => .inl h, g.pri⟩, ⟨R.sub, ?_, R0.nd, fun m o ho => ?_⟩, r.low lk h1⟩
    · unfold ceilS
      rw [List.length_drop, hl]; omega
    · have hm : m < S.length := by
        have := look_lt ho
        unfold ceilS at this
        rw [List.length_drop] at this; omega
      have ho' : look S' m = some o := by
        unfold ceilS at ho
        rw [look_ceil hle hm] at ho; exact ho
      obtain ⟨a, h3, h4⟩ := R.obj m o ho'
      refine ⟨a, lk m a hm h3, h4.low lk ?_⟩
      rcases h2 m o hm ho' with q | q
      · exact q
      · obtain ⟨a', _, h5⟩ := R0.obj m o q
        rw [← hl]; exact h5.nr
  · exact ⟨ρ', g, R, r⟩
theorem OkF.gc {fz : Bool} {r : Res D} {Q : VK} {E : XK} (R0 : RelS T B H ρ S) (h : OkF T B H ρ (gcR fz S r) Q E) : OkF T B H ρ r Q E := by
  cases r with
  | ok d S' =>
    intro B' H' ρ' v g R p
    cases fz with
    | true =>
      obtain ⟨B1, g1, R1, p1⟩ := frz_ok (n := S.length) g R p
      obtain ⟨ρ1, g2, R2, p2⟩ := gc_ok R0 g1 R1 p1
      exact h B1 H' ρ1 v g2 R2 p2
    | false =>
      obtain ⟨ρ1, g2, R2, p2⟩ := gc_ok R0 g R p
      exact h B' H' ρ1 v g2 R2 p2
  | exc c x S' =>
    intro B' H' ρ' v dd g R p hd
    obtain ⟨ρ1, g2, R2, p2⟩ := gc_ok R0 g R p
    exact h B' H' ρ1 v dd g2 R2 p2 hd
  | bad => exact h
end

/-! ### a def's body -/
def startE (n : Nat) (ds : List D) : En := ds.map some ++ List.replicate (n - ds.length) none
def endR : Out → Res D
  | .nx _ S => .ok .non S
  | .rt d S => .ok d S
  | .exc c x _ S => .exc c x S
  | _ => .bad
/-- what the def does: n slots -/
noncomputable def mFun (fz : Bool) (n : Nat) (b : En → Sto → Out) : List D → Sto → Res D := fun ds S => gcR fz S (endR (b (startE n ds) S))
theorem startE_rel {T : Wp} {B : Hp} {ρ : List Addr} {N : List Str} {ds : List D} {vs : List V} (r : Rps T B ρ ds vs) : EnvR T B ρ (L2.start N vs) (startE N.length ds) := by
  have hl := r.length
  refine ⟨by simp [startE, L2.start, hl], fun i d h => ?_⟩
  unfold startE at h
  by_cases hi : i < ds.length
  · rw [List.getElem?_append_left (by simpa using hi), List.getElem?_map] at h
    cases e : ds[i]? with
    | none => rw [e] at h; cases h
    | some d' =>
      rw [e] at h
      have : d' = d := by simpa using h
      subst this
      obtain ⟨v, h1, h2⟩ := r.get e
      refine ⟨v, ?_, h2⟩
      unfold L2.start
      rw [List.getElem?_append_left (by rw [List.length_map, ← hl]; exact hi), List.getElem?_map, h1]; rfl
  · rw [List.getElem?_append_right (by simpa using hi)] at h
    have := List.mem_of_getElem? h
    rw [List.mem_replicate] at this
    cases this.2
theorem fn_any {P : Program} {w : World} {mg : Str → Option Value} {base : Heap} {T : Wp} {k : Nat} {x qual : Str} {params : Arguments} {body : List Stmt} {scope : Scope} {f : Addr} {fd : FuncData} {N ps : List Str} {np n : Nat} {fz : Bool} {b : En → Sto → Out}
    (F : FunD T.K x qual params body scope [] [] f fd) (sc : FnScope N ps scope) (hl : ps.length = np) (hn : N.length = n) (hm : mg x = some (.ref f))
    (hB : ∀ (kV doc pm : Value) (an : Option Addr) (cdv ct : Value) (us : List Value), us.length = ps.length → bindArgs (PySem.W.fnOf x qual params body scope .none kV doc pm an cdv ct) ⟨us, []⟩ = pure (ps.zip us))
    (hb : ∀ (X : Cx) (W : WX), Ck P w mg base T k N scope scope X W → PassesOwn (model X.prog X.w) X.A X.env X.xe → DB X T W body b) : FnG P w mg base T (k + 1) x np (mFun fz n b) := by
  refine ⟨f, fd, ps, F.ok sc (fun vs H Q E h => ?_) (fun cdv A outer s H vs Q E hr h => ?_), hm, F.kp, F.bindsN hB⟩
  · obtain ⟨B, ρ, S, ds, _, h2, h3, _⟩ := h
    rw [← h2.length, h3, hl]
  · obtain ⟨B, ρ, S, ds, R, rp, hd, ok⟩ := h
    refine ⟨_, sPB, ?_⟩
    refine hb (cxOf (L2.CX P w) P w T.K mg base N qual scope f cdv A outer s H E) (fun cls d _ H => E cls d H) ⟨rfl, rfl, rfl, rfl, rfl, rfl, sc.nd, rfl, rfl, hr, takes_of rfl rfl rfl rfl, fun x _ => .inl rfl⟩ (passes_of rfl) (L2.start N vs) B H ρ S (startE n ds) _ R (by rw [← hn]; exact startE_rel rp) ?_
    have ok' := ok.gc R
    cases e : b (startE n ds) S with
    | nx env' S' => rw [e] at ok'; exact fun σ' B' H' ρ' g R' er => ok' B' H' ρ' .non g R' .non
    | rt d S' => rw [e] at ok'; exact ok'
    | bk env' S' => rw [e] at ok'; exact ok'.elim
    | ct env' S' => rw [e] at ok'; exact ok'.elim
    | exc c x env' S' => rw [e] at ok'; exact fun σ' B' H' ρ' v dd g R' er rx hd => ok' B' H' ρ' v dd g R' rx hd
    | bad => rw [e] at ok'; exact ok'.elim
/-- a def that is not reached (fuel gone) -/
theorem fn_bad {P : Program} {w : World} {mg : Str → Option Value} {base : Heap} {T : Wp} {k : Nat} {x qual : Str} {params : Arguments} {body : List Stmt} {scope : Scope} {f : Addr} {fd : FuncData} {ps : List Str} {np : Nat}
    (F : FunD T.K x qual params body scope [] [] f fd) (hl : ps.length = np) (hm : mg x = some (.ref f))
    (hB : ∀ (kV doc pm : Value) (an : Option Addr) (cdv ct : Value) (us : List Value), us.length = ps.length → bindArgs (PySem.W.fnOf x qual params body scope .none kV doc pm an cdv ct) ⟨us, []⟩ = pure (ps.zip us)) : FnG P w mg base T k x np (fun _ _ => .bad) :=
  ⟨f, fd, ps, ⟨fun vs H Q E h => by obtain ⟨B, ρ, S, ds, _, _, _, ok⟩ := h; exact ok.elim, fun A outer s H args us vs Q E _ _ _ _ h => by obtain ⟨B, ρ, S, ds, _, _, _, ok⟩ := h; exact ok.elim⟩, hm, F.kp, F.bindsN hB⟩
theorem FnG.mono {P : Program} {w : World} {mg : Str → Option Value} {base : Heap} {T : Wp} {j k : Nat} {x : Str} {np : Nat} {m : List D → Sto → Res D} (F : FnG P w mg base T j x np m) (h : j ≤ k) : FnG P w mg base T k x np m := by
  obtain ⟨f, fd, ps, h1, h2⟩ := F
  exact ⟨f, fd, ps, h1.mono h, h2⟩
end Z

set_option Elab.async false
set_option linter.all false
set_option maxRecDepth 100000
set_option maxHeartbeats 4000000
/-! The Z layer, part M: comprehensions in a def's context. -/
namespace Z
open PySem PySem.Spec PyProof.Rows L2

def kindEq : Option NameKind → Option NameKind → Bool
  | some .local, some .local => true
  | some .cell, some .cell => true
  | some .free, some .free => true
  | some .globalImplicit, some .globalImplicit => true
  | _, _ => false
theorem kindEq_ok {a b : Option NameKind} (h : kindEq a b = true) : a = b := by
  unfold kindEq at h
  split at h <;> first | rfl | cases h
def ownIx (N : List Str) (own : List (Str × Nat)) : Bool := own.all fun p => nAt N p.2 p.1
def blkC (N : List Str) (sc scope : Scope) (own : List (Str × Nat)) : Bool :=
  (match scope.kind with
  | .function => true
  | _ => false) && (scope.names.all (fun y => kindEq (scope.names.lookup y.1) (some y.2)) && (ownIx N own &&
  (scope.names.all fun y => match y.2 with
    | .free => (match sc.names.lookup y.1 with
      | some .cell => true
      | some .free => true
      | _ => false)
    | .local => own.any (fun p => decide (p.1 = y.1)) || !N.any (fun z => decide (z = y.1))
    | .cell => own.any (fun p => decide (p.1 = y.1)) || !N.any (fun z => decide (z = y.1))
    | _ => true)))
theorem blkC_ok {N : List Str} {sc scope : Scope} {own : List (Str × Nat)} (h : blkC N sc scope own = true) : BlkOk N sc scope own := by
  unfold blkC ownIx at h
  simp only [Bool.and_eq_true, List.all_eq_true] at h
  obtain ⟨h1, h2, h3, h4⟩ := h
  refine ⟨?_, fun y hy => kindEq_ok (h2 y hy), fun p hp => nAt_ok (h3 p hp), fun y hy e => ?_, fun y hy e => ?_⟩
  · split at h1
    · assumption
    · cases h1
  · have := h4 y hy
    rw [e] at this
    dsimp only at this
    split at this
    · exact .inl (by assumption)
    · exact .inr (by assumption)
    · cases this
  · have := h4 y hy
    rcases e with e | e
    · rw [e] at this
      dsimp only at this
      rw [Bool.or_eq_true] at this
      rcases this with q | q
      · obtain ⟨p, hp, e2⟩ := List.any_eq_true.mp q
        exact .inl (List.mem_map.mpr ⟨p, hp, of_decide_eq_true e2⟩)
      · refine .inr fun hm => ?_
        have : N.any (fun z => decide (z = y.1)) = true := List.any_eq_true.mpr ⟨_, hm, decide_eq_true rfl⟩
        rw [this] at q; cases q
    · rw [e] at this
      dsimp only at this
      rw [Bool.or_eq_true] at this
      rcases this with q | q
      · obtain ⟨p, hp, e2⟩ := List.any_eq_true.mp q
        exact .inl (List.mem_map.mpr ⟨p, hp, of_decide_eq_true e2⟩)
      · refine .inr fun hm => ?_
        have : N.any (fun z => decide (z = y.1)) = true := List.any_eq_true.mpr ⟨_, hm, decide_eq_true rfl⟩
        rw [this] at q; cases q
def notSet : Expr → Bool
  | .Set .. => false
  | _ => true
theorem fold_ok {e : Expr} {env : Env} (h : notSet e = true) : ∀ x, foldedSetIterable e env x = pure x := fun x => by
  cases e <;> first | rfl | cases h
def slotsIn (l own : List Nat) : Bool := l.all fun j => own.any fun i => Nat.beq i j
theorem slotsIn_ok {l own : List Nat} (h : slotsIn l own = true) : ∀ j ∈ l, j ∈ own := fun j hj => by
  obtain ⟨i, hi, e⟩ := List.any_eq_true.mp (List.all_eq_true.mp h j hj)
  exact Nat.eq_of_beq_eq_true e ▸ hi
/-- the name's store goes in place of the comprehension's -/
def fnK (sc : Scope) : Bool := match sc.kind with
  | .function => true
  | _ => false
def swT (e : Expr) (p : Pos) (sc scope : Scope) (y : Str) : Bool := (fnK sc && kL sc y) && ((p.line == e.pos.line) && !(scope.names.any fun (n, k) => n == y && (k == .local || k == .cell)))

section
variable {P : Program} {w : World} {mg : Str → Option Value} {base : Heap} {T : Wp} {k : Nat} {N : List Str} {sc os : Scope} {X : Cx} {W : WX} {pos p apos : Pos} {tg iter elt : Expr} {ifs : List Expr} {scope : Scope}
variable {t : Tg} {mi : En → Sto → Res (List D × (Sto → Prop))} {mt : En → Sto → Res Bool} {me : En → Sto → Res D}
theorem k_comp (C : Ck P w mg base T k N sc os X W) (own : List (Str × Nat)) (hi : DI X T W tg iter mi) (hg : ∀ X', Ck P w mg base T k N (relS sc scope) scope X' WF → DG X' T tg t) (ht : ∀ X', Ck P w mg base T k N (relS sc scope) scope X' WF → DTs X' T WF ifs mt)
    (he : ∀ X', Ck P w mg base T k N (relS sc scope) scope X' WF → DE X' T WF elt me) (h : (blkC N sc scope own && (slotsIn t.slots (own.map (·.2)) && notSet iter)) = true) : DL X T W (.ListComp elt [⟨tg, iter, ifs, 0⟩] scope pos) (lComp t mi mt me (own.map (·.2))) := by
  simp only [Bool.and_eq_true] at h
  exact dl_comp C.calm (by rw [C.eN]; exact C.nd) (by rw [C.eN, C.es]; exact blkC_ok h.1) hi (fun s H A cl fp => hg _ (C.blk scope s H A cl fp)) (fun s H A cl fp => ht _ (C.blk scope s H A cl fp)) (fun s H A cl fp => he _ (C.blk scope s H A cl fp)) (slotsIn_ok h.2.1) (fold_ok h.2.2)
theorem swT_ok (C : Ck P w mg base T k N sc os X W) {e : Expr} {y : Str} {py : Pos} {l : Nat} (hs : compSc e = some scope) (h : swT e py sc scope y = true) : swapsWith e (some (.Name y py)) l X.env = pure true := by
  unfold swT at h
  simp only [Bool.and_eq_true, Bool.not_eq_true'] at h
  obtain ⟨⟨h0, h1⟩, h2, h3⟩ := h
  have hk : X.env.scope.kind = .function := by
    rw [C.es]
    unfold fnK at h0
    split at h0
    · assumption
    · cases h0
  have e1 : (X.env.kindOf y == some .local) = true := by
    unfold Env.kindOf
    rw [C.es, kL_ok h1]; rfl
  have e2 : (X.env.blockKind == .function) = true := by
    unfold Env.blockKind
    rw [hk]; rfl
  cases e with
  | ListComp a b c d =>
    have : c = scope := Option.some.inj hs
    subst this
    show (pure (X.env.blockKind == .function && X.env.kindOf y == some .local && py.line == (Expr.ListComp a b c d).pos.line && !(c.names.any fun (n, k) => n == y && (k == .local || k == .cell))) : Sem Bool) = pure true
    rw [e1, e2, h2, h3]; rfl
  | SetComp a b c d =>
    have : c = scope := Option.some.inj hs
    subst this
    show (pure (X.env.blockKind == .function && X.env.kindOf y == some .local && py.line == (Expr.SetComp a b c d).pos.line && !(c.names.any fun (n, k) => n == y && (k == .local || k == .cell))) : Sem Bool) = pure true
    rw [e1, e2, h2, h3]; rfl
  | DictComp a b c d q =>
    have : d = scope := Option.some.inj hs
    subst this
    show (pure (X.env.blockKind == .function && X.env.kindOf y == some .local && py.line == (Expr.DictComp a b c d q).pos.line && !(d.names.any fun (n, k) => n == y && (k == .local || k == .cell))) : Sem Bool) = pure true
    rw [e1, e2, h2, h3]; rfl
  | _ => cases hs
theorem k_setComp (C : Ck P w mg base T k N sc os X W) (i : Nat) (mu : Bool) (own : List (Str × Nat)) {y : Str} {py : Pos} (hi : DI X T W tg iter mi) (hg : ∀ X', Ck P w mg base T k N (relS sc scope) scope X' WF → DG X' T tg t) (ht : ∀ X', Ck P w mg base T k N (relS sc scope) scope X' WF → DTs X' T WF ifs mt)
    (he : ∀ X', Ck P w mg base T k N (relS sc scope) scope X' WF → DE X' T WF elt me) (h : ((blkC N sc scope own && (slotsIn t.slots (own.map (·.2)) && notSet iter)) && (nAt N i y && kL sc y)) = true) (hsw : swT (.ListComp elt [⟨tg, iter, ifs, 0⟩] scope p) py sc scope y = true) :
    DS X T W (.Assign [.Name y py] (.ListComp elt [⟨tg, iter, ifs, 0⟩] scope p) pos) (sAsg (.nm i) (if mu then mMut (lComp t mi mt me (own.map (·.2))) else mVal (lComp t mi mt me (own.map (·.2))))) := by
  simp only [Bool.and_eq_true] at h
  refine ds_setComp C.calm (by rw [C.eN]; exact C.nd) (by rw [C.eN]; exact nAt_ok h.2.1) (by rw [C.es]; exact kL_ok h.2.2) (swT_ok C rfl hsw) (by rw [C.eN, C.es]; exact blkC_ok h.1.1) hi (fun s H A cl fp => hg _ (C.blk scope s H A cl fp)) (fun s H A cl fp => ht _ (C.blk scope s H A cl fp)) (fun s H A cl fp => he _ (C.blk scope s H A cl fp)) (slotsIn_ok h.1.2.1) (fold_ok h.1.2.2) ?_
  cases mu with
  | true => exact .inr rfl
  | false => exact .inl rfl
end
end Z

set_option Elab.async false
set_option linter.all false
set_option maxRecDepth 100000
set_option maxHeartbeats 4000000
/-! The Z layer, part N: more methods and operators. -/
namespace Z
open PySem PySem.Spec PyProof.Rows L2
theorem OkG.elimB {α γ : Type} {T : Wp} {W : WX} {σ : L2.St} {B H : Hp} {ρ : List Addr} {P : Hp → List Addr → α → γ → Prop} {Q : γ → Hp → Prop} {p : Prop} (h : OkG T W σ B H ρ P (.bad : Res α) Q) : p := h.elim
section
variable {P : Program} {w : World} {mg : Str → Option Value} {base : Heap} {T : Wp} {k : Nat} {N : List Str} {sc os : Scope} {X : Cx} {W : WX} {pos p apos : Pos} {a b c o : Expr} {ma mb mo : En → Sto → Res D}
def joinD (d e : D) (S : Sto) : Res D := match d with
  | .str z => (match asQ S e with
    | some ds => (match asStrs ds with
      | some xs => if (xs.map (·.length)).sum + xs.length * z.length ≤ 16777216 then .ok (.str (Txt.join z xs)) S else .bad
      | none => .bad)
    | none => .bad)
  | _ => .bad
def mJoin (ma mb : En → Sto → Res D) : En → Sto → Res D := fun env S => (ma env S).bind fun d S1 => match d with
  | .str z => (mb env S1).bind fun e S2 => (joinD (.str z) e S2).calm
  | _ => .bad
theorem k_join (C : Ck P w mg base T k N sc os X W) (ho : DE X T W o mo) (he : DE X T W a ma) (h : (notCall o && (nostar a && (apos.endLine == pos.line))) = true) : DE X T W (.Call (.Attribute o "join" apos) [a] [] pos) (mJoin mo ma) := by
  simp only [Bool.and_eq_true] at h
  intro σ B H ρ S env Q R er ok pins s I
  refine (pe_m1 PySem.F.slot_str_join PySem.F.type_str_join mt_join sPE sPE (star_cons h.2.1) (base_ok h.1) h.2.2).run pins s σ H Q I ?_
  refine ho σ B H ρ S env _ R er (OkG.bind (P := Rp T) ok fun d S1 B1 H1 ρ1 x _ g1 R1 p1 ok1 => ?_)
  cases p1 with
  | str z =>
    refine ⟨⟨z, rfl⟩, he σ B1 H1 ρ1 S1 env _ R1 (er.gr g1) (OkG.bind (P := Rp T) ok1 fun e S2 B2 H2 ρ2 y _ g2 R2 p2 ok2 => ?_)⟩
    have ok3 : OkE T W σ B2 H2 ρ2 (joinD (.str z) e S2) Q := ok2.calm
    unfold joinD at ok3
    dsimp only at ok3
    cases e1 : asQ S2 e with
    | none => rw [e1] at ok3; exact ok3.elim
    | some ds =>
      rw [e1] at ok3
      dsimp only at ok3
      cases e2 : asStrs ds with
      | none => rw [e2] at ok3; exact ok3.elim
      | some xs =>
        rw [e2] at ok3
        dsimp only at ok3
        split at ok3
        · rename_i hz
          obtain ⟨q, vs, rfl, hq, rr⟩ := asQ_rp R2 p2 e1
          rw [asStrs_rps rr e2, ← C.eK] at hq
          exact ⟨z, q, xs, rfl, rfl, hq, hz, ok3.ok R2 (.str _)⟩
        · exact ok3.elim
  | _ => exact ok1.elim
/-! ### a dict of the module with text keys -/
def findS {α : Type} (x : Str) : List (Str × α) → Option α
  | [] => none
  | (y, a) :: r => if y = x then some a else findS x r
theorem findS_mem {α : Type} {x : Str} {a : α} : ∀ {l : List (Str × α)}, findS x l = some a → (x, a) ∈ l
  | [], h => by cases h
  | (y, b) :: r, h => by
    unfold findS at h
    split at h
    · rename_i e
      cases h
      rw [e]; exact List.mem_cons_self
    · exact List.mem_cons_of_mem _ (findS_mem h)
theorem findS_none {α : Type} {x : Str} : ∀ {l : List (Str × α)}, findS x l = none → x ∉ l.map (·.1)
  | [], _, hm => by cases hm
  | (y, b) :: r, h, hm => by
    unfold findS at h
    split at h
    · cases h
    · rename_i e
      rcases List.mem_cons.mp hm with q | q
      · exact e q.symm
      · exact findS_none h q
def TabG (mg : Str → Option Value) (T : Wp) (w : World) (x : Str) (kvs : List (Str × D)) : Prop :=
  ∃ (d : Addr) (es : Array DictEntry) (n : Nat), mg x = some (.ref d) ∧ KDict T.K w d es n ∧ (∀ z, z ∉ kvs.map (·.1) → PySem.W.nsIn T.K d z = some none) ∧ ∀ q ∈ kvs, ∃ (u : Value) (v : V), PySem.W.nsIn T.K d q.1 = some (some u) ∧ RelV v u ∧ ∀ B ρ, Rp T B ρ q.2 v
def tabIn (kvs : List (Str × D)) (d : D) (S : Sto) : Res D := match d with
  | .str z => .ok (.bl (findS z kvs).isSome) S
  | _ => .bad
def tabIx (kvs : List (Str × D)) (d : D) (S : Sto) : Res D := match d with
  | .str z => (match findS z kvs with
    | some e => .ok e S
    | none => .bad)
  | _ => .bad
def mTab (f : List (Str × D) → D → Sto → Res D) (kvs : List (Str × D)) (ma : En → Sto → Res D) : En → Sto → Res D := fun env S => (ma env S).bind fun d S1 => (f kvs d S1).calm
theorem k_tabIn (C : Ck P w mg base T k N sc os X W) {x : Str} {kvs : List (Str × D)} (t : TabG mg T w x kvs) (ha : DE X T W a ma) (h : (kG sc x && odd1 x) = true) : DE X T W (.Compare a [.In] [.Name x p] pos) (mTab tabIn kvs ma) := by
  simp only [Bool.and_eq_true] at h
  obtain ⟨d, es, n, hm, D, hno, hyes⟩ := t
  intro σ B H ρ S env Q R er ok pins s I
  refine (pe_cmpR (op_in_kd (X := X) (by rw [C.eK, C.ew]; exact D)) sPE (pe_glob (v := .ref d) (C.gl h.1) (by rw [C.em]; exact hm) rfl (odd1_ok h.2).1) rfl).run pins s σ H Q I ?_
  refine ha σ B H ρ S env _ R er (OkG.bind (P := Rp T) ok fun e S1 B1 H1 ρ1 v _ g1 R1 p1 ok1 => ?_)
  have ok2 : OkE T W σ B1 H1 ρ1 (tabIn kvs e S1) Q := ok1.calm
  cases p1 with
  | str z =>
    unfold tabIn at ok2
    dsimp only at ok2
    cases q : findS z kvs with
    | none =>
      rw [q] at ok2
      exact ⟨z, none, rfl, rfl, by rw [C.eK]; exact hno z (findS_none q), ok2.ok R1 (.bl _)⟩
    | some e =>
      rw [q] at ok2
      obtain ⟨u, v, h1, _⟩ := hyes _ (findS_mem q)
      exact ⟨z, some u, rfl, rfl, by rw [C.eK]; exact h1, ok2.ok R1 (.bl _)⟩
  | _ => exact ok2.elim
theorem dt_tabIn (C : Ck P w mg base T k N sc os X W) {x : Str} {kvs : List (Str × D)} (t : TabG mg T w x kvs) (ha : DE X T W a ma) (h : (kG sc x && odd1 x) = true) : DT X T W (.Compare a [.In] [.Name x p] pos) (asB (mTab tabIn kvs ma)) := by
  simp only [Bool.and_eq_true] at h
  obtain ⟨d, es, n, hm, D, hno, hyes⟩ := t
  intro σ B H ρ S env Q R er ok pins s I
  refine (pt_cmpR (op_in_kd (X := X) (by rw [C.eK, C.ew]; exact D)) sPE (pe_glob (v := .ref d) (C.gl h.1) (by rw [C.em]; exact hm) rfl (odd1_ok h.2).1) rfl).run pins s σ H Q I ?_
  refine ha σ B H ρ S env _ R er ?_
  cases e0 : ma env S with
  | bad => unfold asB mTab at ok; rw [e0] at ok; exact ok.elim
  | exc c y S1 => unfold asB mTab at ok; rw [e0] at ok; exact ok
  | ok d0 S1 =>
    unfold asB mTab at ok
    rw [e0] at ok
    intro B1 H1 ρ1 v g1 R1 p1
    cases p1 with
    | str z =>
      have ok2 : OkT T W σ B H ρ (.ok (findS z kvs).isSome S1) Q := ok
      cases q : findS z kvs with
      | none =>
        rw [q] at ok2
        exact ⟨z, none, rfl, rfl, by rw [C.eK]; exact hno z (findS_none q), _, rfl, ok2 B1 H1 ρ1 _ g1 R1 rfl⟩
      | some e =>
        rw [q] at ok2
        obtain ⟨u, v, h1, _⟩ := hyes _ (findS_mem q)
        exact ⟨z, some u, rfl, rfl, by rw [C.eK]; exact h1, _, rfl, ok2 B1 H1 ρ1 _ g1 R1 rfl⟩
    | _ => exact OkG.elimB ok
theorem k_tabIx (C : Ck P w mg base T k N sc os X W) {x : Str} {kvs : List (Str × D)} (t : TabG mg T w x kvs) (ha : DE X T W a ma) (h : ((kG sc x && odd1 x) && plIx a) = true) : DE X T W (.Subscript (.Name x p) a pos) (mTab tabIx kvs ma) := by
  simp only [Bool.and_eq_true] at h
  obtain ⟨d, es, n, hm, D, hno, hyes⟩ := t
  intro σ B H ρ S env Q R er ok pins s I
  refine (pe_ix ix_kdict (pe_glob (v := .ref d) (C.gl h.1.1) (by rw [C.em]; exact hm) rfl (odd1_ok h.1.2).1) sPE (plIx_ok h.2)).run pins s σ H Q I ?_
  refine ha σ B H ρ S env _ R er (OkG.bind (P := Rp T) ok fun e S1 B1 H1 ρ1 v _ g1 R1 p1 ok1 => ?_)
  have ok2 : OkE T W σ B1 H1 ρ1 (tabIx kvs e S1) Q := ok1.calm
  cases p1 with
  | str z =>
    unfold tabIx at ok2
    dsimp only at ok2
    cases q : findS z kvs with
    | none => rw [q] at ok2; exact ok2.elim
    | some e =>
      rw [q] at ok2
      obtain ⟨u, v, h1, h2, h3⟩ := hyes _ (findS_mem q)
      exact ⟨d, z, v, rfl, rfl, ⟨es, n, u, by rw [C.eK]; exact D.at_, by rw [C.ew]; exact D.lit, by rw [C.eK]; exact h1, h2⟩, ok2.ok R1 (h3 _ _)⟩
  | _ => exact ok2.elim
end
/-- what the head tells of such a dict -/
theorem tab_none {K : PySem.W.Frag} {P : Params} {a : Addr} {ks : List Str} {z : Str} (h : He.dicW K a = some (He.keysIn P ks)) (hz : z ∉ ks) : PySem.W.nsIn K a z = some none := by
  unfold He.dicW at h
  unfold PySem.W.nsIn
  cases e : K.lookup a with
  | none => rw [e] at h; cases h
  | some o =>
    rw [e] at h
    obtain ⟨oc, od, dt, sl⟩ := o
    cases oc with
    | type c =>
      cases od with
      | none =>
        cases dt with
        | dict es n =>
          dsimp only at h ⊢
          split at h
          · have h' : es.toList.map He.keyOf = He.keysIn P ks := Option.some.inj h
            have key : ∀ (l : List DictEntry) (ks : List Str), l.map He.keyOf = He.keysIn P ks → z ∉ ks → l.find? (·.key.isStr z) = none ∧ l.any (·.refKey) = false := by
              intro l
              induction l with
              | nil => intro ks _ _; exact ⟨rfl, rfl⟩
              | cons q r ih =>
                intro ks h hz
                cases ks with
                | nil => cases h
                | cons k ks =>
                  have h1 : He.keyOf q :: r.map He.keyOf = some (k, PyData.keyHash P k) :: He.keysIn P ks := h
                  injection h1 with h2 h3
                  obtain ⟨i1, i2⟩ := ih ks h3 fun m => hz (List.mem_cons_of_mem _ m)
                  unfold He.keyOf at h2
                  split at h2
                  · rename_i x t ek
                    have h4 := Option.some.inj h2
                    obtain ⟨h5, _⟩ := Prod.mk.inj h4
                    have hne : (Value.str x t).isStr z = false := by
                      have : x ≠ z := fun e => hz (by rw [← e, h5]; exact List.mem_cons_self)
                      show (x == z) = false
                      exact beq_eq_false_iff_ne.mpr this
                    rw [List.find?_cons, ek, hne, List.any_cons, i2]
                    refine ⟨i1, ?_⟩
                    unfold DictEntry.refKey
                    rw [ek]; rfl
                  · cases h2
            obtain ⟨k1, k2⟩ := key _ _ h' hz
            rw [k1, k2]; rfl
          · cases h
        | _ => cases h
      | some b => cases dt <;> cases h
    | _ => cases od <;> cases dt <;> cases h
end Z

set_option Elab.async false
set_option linter.all false
set_option maxRecDepth 100000
set_option maxHeartbeats 4000000
/-! The Z layer, part O: from the text to its meaning. -/
namespace Z
open PySem PySem.Spec PyProof.Rows L2

/-! ### tables -/
def binF : Operator → Option (D → D → Sto → Res D)
  | .Add => some addD
  | .Sub => some subD
  | .Mult => some mulD
  | .FloorDiv => some divD
  | .Mod => some modD
  | .Pow => some powD
  | _ => none
def cmpF : CmpOp → Option (D → D → Sto → Res D)
  | .Eq => some eqD
  | .NotEq => some neD
  | .Lt => some ltD
  | .LtE => some leD
  | .Gt => some gtD
  | .GtE => some geD
  | .Is => some isD
  | .IsNot => some isntD
  | .In => some inD
  | .NotIn => some ninD
inductive Bl where
  | len | abs | int | sum | str | tuple | max | min | isi
def Bl.nm : Bl → Str
  | .len => "len" | .abs => "abs" | .int => "int" | .sum => "sum" | .str => "str" | .tuple => "tuple" | .max => "max" | .min => "min" | .isi => "isinstance"
def Bl.f : Bl → List D → Sto → Res D
  | .len => lenD | .abs => absD | .int => intD | .sum => sumD | .str => strD | .tuple => tupD | .max => maxD | .min => minD | .isi => isiD
def blOf (x : Str) : Option Bl := [Bl.len, .abs, .int, .sum, .str, .tuple, .max, .min, .isi].find? fun b => decide (x = b.nm)
theorem blOf_ok {x : Str} {b : Bl} (h : blOf x = some b) : x = b.nm := by
  unfold blOf at h
  have := List.find?_some h
  exact of_decide_eq_true this
def tyNm : Ty → Str
  | .none => "NoneType" | .bool => "bool" | .int => "int" | .str => "str" | .tuple => "tuple" | .list => "list" | .dict => "dict" | .set => "set"
def tyN (x : Str) : Option Ty := [Ty.bool, .int, .str, .tuple, .list, .dict, .set].find? fun t => decide (x = tyNm t)
def slotOf (x : Str) : List Str → Nat → Option Nat
  | [], _ => none
  | y :: ys, n => if y = x then some n else slotOf x ys (n + 1)
theorem slotOf_ok {x : Str} : ∀ {N : List Str} {n i : Nat}, slotOf x N n = some i → ∃ j, i = n + j ∧ N[j]? = some x
  | [], _, _, h => by cases h
  | y :: ys, n, i, h => by
    unfold slotOf at h
    split at h
    · rename_i e
      cases h
      exact ⟨0, rfl, by rw [e]; rfl⟩
    · obtain ⟨j, h1, h2⟩ := slotOf_ok h
      exact ⟨j + 1, by omega, by simpa using h2⟩
theorem slotOf_nAt {x : Str} {N : List Str} {i : Nat} (h : slotOf x N 0 = some i) : nAt N i x = true := by
  obtain ⟨j, h1, h2⟩ := slotOf_ok h
  have : i = j := by omega
  subst this
  unfold nAt
  rw [h2]; exact decide_eq_true rfl
/-- what the text is read by: slots, scopes, the lists that are changed (mu), those that hold such ones (ne), whether a changed list is given back (rm), free names of built-ins, constants, defs -/
structure Ca where
  N : List Str
  sc : Scope
  os : Scope
  mu : List Nat
  ne : List Nat
  rm : Bool
  fr : List Str
  co : List (Str × D)
  fn : List (Str × (Nat × (List D → Sto → Res D)))
  tb : List (Str × List (Str × D))
structure CaOk (P : Program) (w : World) (mg : Str → Option Value) (base : Heap) (T : Wp) (k : Nat) (fr : List Str) (co : List (Str × D)) (fn : List (Str × (Nat × (List D → Sto → Res D)))) (tb : List (Str × List (Str × D))) : Prop where
  fr : ∀ x ∈ fr, mg x = none
  co : ∀ q ∈ co, GlG mg T q.1 q.2
  fn : ∀ q ∈ fn, FnG P w mg base T k q.1 q.2.1 q.2.2
  tb : ∀ q ∈ tb, TabG mg T w q.1 q.2
  dg : DgOk T.K
def hasS (x : Str) (l : List Str) : Bool := l.any fun y => decide (y = x)
theorem hasS_ok {x : Str} {l : List Str} (h : hasS x l = true) : x ∈ l := by
  obtain ⟨y, h1, h2⟩ := List.any_eq_true.mp h
  exact of_decide_eq_true h2 ▸ h1
def hasN (i : Nat) (l : List Nat) : Bool := l.any fun j => Nat.beq j i
abbrev ME := En → Sto → Res D
abbrev ML := En → Sto → Res (List D)
abbrev MT := En → Sto → Res Bool
abbrev MI := En → Sto → Res (List D × (Sto → Prop))
abbrev MS := En → Sto → Out
structure Cs where
  e : Ca → Expr → Option ME
  a : Ca → Bool → List Expr → Option ML
  l : Ca → Expr → Option ML
  t : Ca → Expr → Option MT
  i : Ca → Expr → Option MI
  s : Ca → Stmt → Option MS
  b : Ca → List Stmt → Option MS
def Cs.none : Cs := ⟨fun _ _ => .none, fun _ _ _ => .none, fun _ _ => .none, fun _ _ => .none, fun _ _ => .none, fun _ _ => .none, fun _ _ => .none⟩
def ap2 {α β γ : Type} (f : α → β → γ) (a : Option α) (b : Option β) : Option γ := match a, b with
  | some a, some b => some (f a b)
  | _, _ => none
def ap3 {α β γ δ : Type} (f : α → β → γ → δ) (a : Option α) (b : Option β) (c : Option γ) : Option δ := match a, b, c with
  | some a, some b, some c => some (f a b c)
  | _, _, _ => none
def guardO {α : Type} (b : Bool) (a : Option α) : Option α := if b then a else none
theorem ap2_ok {α β γ : Type} {f : α → β → γ} {a : Option α} {b : Option β} {c : γ} (h : ap2 f a b = some c) : ∃ x y, a = some x ∧ b = some y ∧ c = f x y := by
  unfold ap2 at h
  split at h
  · cases h; exact ⟨_, _, rfl, rfl, rfl⟩
  · cases h
theorem ap3_ok {α β γ δ : Type} {f : α → β → γ → δ} {a : Option α} {b : Option β} {c : Option γ} {d : δ} (h : ap3 f a b c = some d) : ∃ x y z, a = some x ∧ b = some y ∧ c = some z ∧ d = f x y z := by
  unfold ap3 at h
  split at h
  · cases h; exact ⟨_, _, _, rfl, rfl, rfl, rfl⟩
  · cases h
theorem map_ok {α β : Type} {f : α → β} {a : Option α} {b : β} (h : a.map f = some b) : ∃ x, a = some x ∧ b = f x := by
  cases a with
  | none => cases h
  | some x => cases h; exact ⟨x, rfl, rfl⟩
theorem guard_ok {α : Type} {b : Bool} {a : Option α} {c : α} (h : guardO b a = some c) : b = true ∧ a = some c := by
  unfold guardO at h
  split at h
  · exact ⟨by assumption, h⟩
  · cases h
/-! ### expressions -/
def cName (A : Ca) (x : Str) : Option ME := match slotOf x A.N 0, kV A.sc x && odd1 x with
  | some i, true => some (mVar i)
  | _, _ => guardO (kG A.sc x && odd1 x) (match findS x A.co with
    | some d => some (mCon d)
    | none => (match tyN x with
      | some t => guardO (hasS x A.fr && bT x t) (some (mCon (.ty t)))
      | none => none))
def cPart (c : Cs) (A : Ca) : Option Expr → Option (En → Sto → Res (Option Int))
  | none => some (mPart none)
  | some e => (c.e A e).map fun m => mPart (some m)
def nestAt (A : Ca) (x : Str) : Bool := match slotOf x A.N 0 with
  | some i => hasN i A.ne
  | none => false
def cCall (c : Cs) (A : Ca) (f : Expr) (args : List Expr) (pos : Pos) : Option ME := match f with
  | .Name x _ => (match args with
    | a :: es => guardO (kG A.sc x && (odd1 x && (nostar a && es.all nostar))) (match findS x A.fn with
      | some (np, m) => (c.a A false (a :: es)).map fun ms => mApp np m ms
      | none => (match blOf x with
        | some b => guardO (hasS x A.fr) ((c.a A false (a :: es)).map fun ms => mCall b.f ms)
        | none => none))
    | [] => none)
  | .Attribute o m apos => (match args with
    | [a] => guardO (notCall o && (nostar a && (apos.endLine == pos.line))) (if m = "append" then ap2 mAppend (c.e A o) (match o, a with
        | .Name x _, .List _ _ => if nestAt A x then (c.l A a).map mMut else c.e A a
        | _, _ => c.e A a)
      else if m = "join" then ap2 mJoin (c.e A o) (c.e A a) else none)
    | [] => guardO (notCall o && (apos.endLine == pos.line)) (if m = "pop" then (c.e A o).map mPop else none)
    | _ => none)
  | _ => none
def isList1 (f : Expr) (args : List Expr) : Bool := match f, args with
  | .Name x _, [_] => decide (x = "list")
  | _, _ => false
/-- a dict of the module -/
def tabOf (A : Ca) : Expr → Option (List (Str × D))
  | .Name x _ => if kG A.sc x && odd1 x then findS x A.tb else none
  | _ => none
def cE (c : Cs) (A : Ca) : Expr → Option ME
  | .Constant (.int i) _ _ => some (mCon (.int i))
  | .Constant (.bool b) _ _ => some (mCon (.bl b))
  | .Constant .none _ _ => some (mCon .non)
  | .Constant (.str x) _ _ => some (mCon (.str x))
  | .Name x _ => cName A x
  | .BinOp a op b _ => (match binF op with
    | some f => ap2 (mBin f) (c.e A a) (c.e A b)
    | none => none)
  | .UnaryOp .USub a _ => (c.e A a).map (mUn negD)
  | .UnaryOp .Not a _ => (c.e A a).map mNot
  | .Compare a [.In] [.Name x px] _ => (match tabOf A (.Name x px) with
    | some kvs => (c.e A a).map (mTab tabIn kvs)
    | none => ap2 (mBin inD) (c.e A a) (c.e A (.Name x px)))
  | .Compare a [op] [b] _ => guardO (!behindInMarks op b) (match cmpF op with
    | some f => ap2 (mBin f) (c.e A a) (c.e A b)
    | none => none)
  | .Compare a [op, op'] [b, b'] _ => guardO (!lastMarks [op, op'] [b, b']) (match cmpF op, cmpF op' with
    | some f, some f' => ap3 (mChain f f') (c.e A a) (c.e A b) (c.e A b')
    | _, _ => none)
  | .BoolOp _ [a] _ => c.e A a
  | .BoolOp .And (a :: b :: rest) pos => ap2 mAnd (c.e A a) (c.e A (.BoolOp .And (b :: rest) pos))
  | .BoolOp .Or (a :: b :: rest) pos => ap2 mOr (c.e A a) (c.e A (.BoolOp .Or (b :: rest) pos))
  | .IfExp t a b _ => ap3 mIf (c.t A t) (c.e A a) (c.e A b)
  | .Tuple es _ _ => (c.a A true es).map mTup
  | .List es p => (c.l A (.List es p)).map mVal
  | .ListComp elt gs scope p => (c.l A (.ListComp elt gs scope p)).map mVal
  | .Subscript a (.Slice lo hi none _) _ => ap3 mSl (c.e A a) (cPart c A lo) (cPart c A hi)
  | .Subscript a b _ => guardO (plIx b) (match tabOf A a with
    | some kvs => (c.e A b).map (mTab tabIx kvs)
    | none => ap2 mIx (c.e A a) (c.e A b))
  | .Call f args [] pos => if isList1 f args then (c.l A (.Call f args [] pos)).map mVal else cCall c A f args pos
  | _ => none
def frzAt (A : Ca) (b : Bool) : Expr → Option Nat
  | .Name x _ => if b then (match slotOf x A.N 0 with
    | some i => if hasN i A.mu && (kV A.sc x && odd1 x) then some i else none
    | none => none) else none
  | _ => none
def cA (c : Cs) (A : Ca) (b : Bool) : List Expr → Option ML
  | [] => some mNil
  | e :: es => guardO (nostar e) (ap2 mCons (match frzAt A b e with
    | some i => some (mFrz i)
    | none => c.e A e) (c.a A b es))
/-- a target -/
def slotsL (A : Ca) : List Expr → Option (List Nat)
  | [] => some []
  | .Name x _ :: es => ap2 List.cons (slotOf x A.N 0) (slotsL A es)
  | _ => none
def cG (A : Ca) : Expr → Option Tg
  | .Name x _ => (match slotOf x A.N 0 with
    | some i => guardO (kO A.sc A.os x) (some (.nm i))
    | none => none)
  | .Tuple es _ _ => (match slotsL A es with
    | some l => guardO (nmsB A.N A.sc A.os es l) (some (.tp l))
    | none => none)
  | _ => none
def ownOf (N : List Str) (scope : Scope) : List (Str × Nat) := scope.names.filterMap fun y => match y.2 with
  | .local => (slotOf y.1 N 0).map fun i => (y.1, i)
  | .cell => (slotOf y.1 N 0).map fun i => (y.1, i)
  | _ => none
def Ca.blk (A : Ca) (scope : Scope) : Ca := { A with sc := relS A.sc scope, os := scope }
def cIfs (c : Cs) (A : Ca) : List Expr → Option MT
  | [] => some tYesM
  | [e] => c.t A e
  | _ => none
noncomputable def cComp (c : Cs) (A : Ca) (elt tg iter : Expr) (ifs : List Expr) (scope : Scope) : Option ML :=
  match cG (A.blk scope) tg with
  | some t => guardO (blkC A.N A.sc scope (ownOf A.N scope) && (slotsIn t.slots ((ownOf A.N scope).map (·.2)) && notSet iter)) (ap3 (fun mi mt me => lComp t mi mt me ((ownOf A.N scope).map (·.2))) (c.i A iter) (cIfs c (A.blk scope) ifs) (c.e (A.blk scope) elt))
  | none => none
noncomputable def cL (c : Cs) (A : Ca) : Expr → Option ML
  | .List es _ => (c.a A true es).map lDisp
  | .ListComp elt [⟨tg, iter, ifs, 0⟩] scope _ => cComp c A elt tg iter ifs scope
  | .Call (.Name x _) [a] [] _ => guardO (decide (x = "list") && (hasS x A.fr && (kG A.sc "list" && nostar a))) ((c.e A a).map lCopy)
  | .BinOp a .Add b _ => ap2 lCat (c.e A a) (c.e A b)
  | .Subscript a (.Slice lo hi none _) _ => ap3 lSl (c.e A a) (cPart c A lo) (cPart c A hi)
  | _ => none
/-! ### tests -/
def cW (c : Cs) (A : Ca) : List Expr → BoolOp → Option MT
  | [], _ => none
  | [a], _ => c.t A a
  | a :: b :: rest, .And => ap2 tAnd2 (c.t A a) (cW c A (b :: rest) .And)
  | a :: b :: rest, .Or => ap2 tOr2 (c.t A a) (cW c A (b :: rest) .Or)
def cT (c : Cs) (A : Ca) : Expr → Option MT
  | .UnaryOp .Not a _ => (c.t A a).map tNot2
  | .BoolOp op vs _ => cW c A vs op
  | .Compare a [.In] [.Name x px] p => (match tabOf A (.Name x px) with
    | some kvs => (c.e A a).map fun m => asB (mTab tabIn kvs m)
    | none => (ap2 (mBin inD) (c.e A a) (c.e A (.Name x px))).map asB)
  | .Compare a [op] [b] _ => guardO (!behindInMarks op b) (match cmpF op with
    | some f => (ap2 (mBin f) (c.e A a) (c.e A b)).map asB
    | none => none)
  | .Compare a [op, op'] [b, b'] _ => guardO (!lastMarks [op, op'] [b, b']) (match cmpF op, cmpF op' with
    | some f, some f' => (ap3 (mChain f f') (c.e A a) (c.e A b) (c.e A b')).map asB
    | _, _ => none)
  | e => guardO (valT e) ((c.e A e).map asB)
/-! ### what is walked -/
def isRange : Expr → Bool
  | .Call (.Name x _) _ _ _ => decide (x = "range")
  | _ => false
def cI (c : Cs) (A : Ca) : Expr → Option MI
  | .Call (.Name x p) [a] [] p2 => if x = "range" then guardO (hasS x A.fr && (kG A.sc "range" && nostar a)) ((c.e A a).map iRng1m) else (c.e A (.Call (.Name x p) [a] [] p2)).map iSeq
  | .Call (.Name x p) [a, b] [] p2 => if x = "range" then guardO (hasS x A.fr && (kG A.sc "range" && (nostar a && nostar b))) (ap2 iRng2m (c.e A a) (c.e A b)) else (c.e A (.Call (.Name x p) [a, b] [] p2)).map iSeq
  | e => (c.e A e).map iSeq
/-! ### statements -/
noncomputable def cRhs (c : Cs) (A : Ca) (mu : Bool) (e : Expr) : Option ME := match mu with
  | true => (match cL c A e with
    | some m => some (mMut m)
    | none => c.e A e)
  | false => c.e A e
noncomputable def cAsg (c : Cs) (A : Ca) (tg e : Expr) : Option MS := match tg with
  | .Name x px => (match slotOf x A.N 0 with
    | some i => (match e with
      | .ListComp elt [⟨tg', iter, ifs, 0⟩] scope p => if swT (.ListComp elt [⟨tg', iter, ifs, 0⟩] scope p) px A.sc scope x then
          guardO (kL A.sc x) ((cComp c A elt tg' iter ifs scope).map fun m => sAsg (.nm i) (if hasN i A.mu then mMut m else mVal m))
        else guardO (kO A.sc A.os x && !kL A.sc x) ((cRhs c A (hasN i A.mu) e).map fun m => sAsg (.nm i) m)
      | e => guardO (kO A.sc A.os x && swF e) ((cRhs c A (hasN i A.mu) e).map fun m => sAsg (.nm i) m))
    | none => none)
  | .Tuple es _ _ => (match slotsL A es with
    | some l => guardO (nmsB A.N A.sc A.os es l && (swF e && !isTupE e)) ((c.e A e).map fun m => sAsg (.tp l) m)
    | none => none)
  | .Subscript a i _ => guardO (swF e && plIx i) (ap3 sSetL (c.e A e) (c.e A a) (c.e A i))
  | _ => none
noncomputable def cS (c : Cs) (A : Ca) : Stmt → Option MS
  | .Return none _ => some sRetN
  | .Return (some e) _ => (cRhs c A A.rm e).map sRet
  | .Expr e _ => guardO (swF e) ((c.e A e).map sExpr)
  | .If t a b _ => ap3 sIf (c.t A t) (c.b A a) (c.b A b)
  | .While t a [] _ => ap2 sWhile (c.t A t) (c.b A a)
  | .For tg iter body [] _ => guardO (swF iter && notSet iter) (ap3 sFor (cG A tg) (c.i A iter) (c.b A body))
  | .Assign [tg] e _ => cAsg c A tg e
  | .Pass _ => some sNil
  | .Break _ => some sBrk
  | .Continue _ => some sCnt
  | _ => none
def orBad (o : Option MS) : MS := o.getD sBad
def cB (c : Cs) (A : Ca) : List Stmt → Option MS
  | [] => some sNil
  | [s] => some (orBad (c.s A s))
  | s :: s2 :: rest => (c.b A (s2 :: rest)).map fun m => sCons (orBad (c.s A s)) m
noncomputable def Cs.step (c : Cs) : Cs := ⟨cE c, cA c, cL c, cT c, cI c, cS c, cB c⟩
noncomputable def cs : Nat → Cs
  | 0 => .none
  | n + 1 => (cs n).step
end Z

set_option Elab.async false
set_option linter.all false
set_option maxRecDepth 100000
set_option maxHeartbeats 4000000
/-! The Z layer, part Q: the meaning is right. -/
namespace Z
open PySem PySem.Spec PyProof.Rows L2

structure CsOk (c : Cs) : Prop where
  e : ∀ {P w mg base T k A X W}, Ck P w mg base T k A.N A.sc A.os X W → CaOk P w mg base T k A.fr A.co A.fn A.tb → ∀ {x m}, c.e A x = some m → DE X T W x m
  a : ∀ {P w mg base T k A X W}, Ck P w mg base T k A.N A.sc A.os X W → CaOk P w mg base T k A.fr A.co A.fn A.tb → ∀ {b x m}, c.a A b x = some m → DA X T W x m
  l : ∀ {P w mg base T k A X W}, Ck P w mg base T k A.N A.sc A.os X W → CaOk P w mg base T k A.fr A.co A.fn A.tb → ∀ {x m}, c.l A x = some m → DL X T W x m
  t : ∀ {P w mg base T k A X W}, Ck P w mg base T k A.N A.sc A.os X W → CaOk P w mg base T k A.fr A.co A.fn A.tb → ∀ {x m}, c.t A x = some m → DT X T W x m
  i : ∀ {P w mg base T k A X W}, Ck P w mg base T k A.N A.sc A.os X W → CaOk P w mg base T k A.fr A.co A.fn A.tb → ∀ {x m tg}, c.i A x = some m → DI X T W tg x m
  s : ∀ {P w mg base T k A X W}, Ck P w mg base T k A.N A.sc A.os X W → CaOk P w mg base T k A.fr A.co A.fn A.tb → PassesOwn (model X.prog X.w) X.A X.env X.xe → ∀ {x m}, c.s A x = some m → DS X T W x m
  b : ∀ {P w mg base T k A X W}, Ck P w mg base T k A.N A.sc A.os X W → CaOk P w mg base T k A.fr A.co A.fn A.tb → PassesOwn (model X.prog X.w) X.A X.env X.xe → ∀ {x m}, c.b A x = some m → DB X T W x m
section
variable {P : Program} {w : World} {mg : Str → Option Value} {base : Heap} {T : Wp} {k : Nat} {A : Ca} {X : Cx} {W : WX} {c : Cs}
theorem binF_ok (C : Ck P w mg base T k A.N A.sc A.os X W) {op : Operator} {f : D → D → Sto → Res D} (h : binF op = some f) : DO X T (binaryOp op) f := by
  cases op <;> first | cases h
  · exact do_add C.eK
  · exact do_sub
  · exact do_mul
  · exact do_mod
  · exact do_pow
  · exact do_div
theorem cmpF_ok (C : Ck P w mg base T k A.N A.sc A.os X W) {op : CmpOp} {f : D → D → Sto → Res D} (h : cmpF op = some f) : DO X T (compareOp op) f := by
  cases op <;> cases h
  · exact k_eq C
  · exact k_ne C
  · exact k_lt C
  · exact k_le C
  · exact k_gt C
  · exact k_ge C
  · exact k_is C
  · exact k_isnt C
  · exact k_in C
  · exact k_nin C
theorem bl_ok (C : Ck P w mg base T k A.N A.sc A.os X W) {b : Bl} (hdg : DgOk T.K) (hm : mg b.nm = none) {a : Expr} {es : List Expr} {ms : ML} {p pos : Pos} (ha : DA X T W (a :: es) ms) (h : (kG A.sc b.nm && (odd1 b.nm && (nostar a && es.all nostar))) = true) : DE X T W (.Call (.Name b.nm p) (a :: es) [] pos) (mCall b.f ms) := by
  simp only [Bool.and_eq_true] at h
  obtain ⟨h1, h2, h3, h4⟩ := h
  have e : ∀ {z : Bool}, z = true → (kG A.sc b.nm && (odd1 b.nm && (z && (nostar a && es.all nostar)))) = true := fun hz => by rw [h1, h2, hz, h3, h4]; rfl
  cases b with
  | len => exact k_callB C (dc_len C.eK) hm ha (e (by kernel_rfl))
  | abs => exact k_callB C dc_abs hm ha (e (by kernel_rfl))
  | int => exact k_callTy C (dc_int (by rw [C.eK]; exact hdg)) hm ha (e (by kernel_rfl))
  | sum => exact k_callB C (dc_sum C.eK C.calm) hm ha (e (by kernel_rfl))
  | str => exact k_callTy C (dc_str C.room.hd (by rw [C.eK]; exact hdg)) hm ha (e (by kernel_rfl))
  | tuple => exact k_callTy C (dc_tuple C.eK) hm ha (e (by kernel_rfl))
  | max => exact k_callB C (dc_max C.calm) hm ha (e (by kernel_rfl))
  | min => exact k_callB C (dc_min C.calm) hm ha (e (by kernel_rfl))
  | isi => exact k_callB C (dc_isi C.eK) hm ha (e (by kernel_rfl))
theorem cName_ok (C : Ck P w mg base T k A.N A.sc A.os X W) (G : CaOk P w mg base T k A.fr A.co A.fn A.tb) {x : Str} {pos : Pos} {m : ME} (h : cName A x = some m) : DE X T W (.Name x pos) m := by
  unfold cName at h
  split at h
  · rename_i i e1 e2
    cases h
    exact k_var C i (by rw [slotOf_nAt e1, e2]; rfl)
  · obtain ⟨h1, h2⟩ := guard_ok h
    split at h2
    · rename_i d e
      cases h2
      exact k_glo C (G.co _ (findS_mem e)) h1
    · split at h2
      · rename_i t e
        obtain ⟨h3, h4⟩ := guard_ok h2
        cases h4
        rw [Bool.and_eq_true] at h1 h3
        exact k_ty C (G.fr _ (hasS_ok h3.1)) (by rw [h1.1, h1.2, h3.2]; rfl)
      · cases h2
theorem cPart_ok (K : CsOk c) (C : Ck P w mg base T k A.N A.sc A.os X W) (G : CaOk P w mg base T k A.fr A.co A.fn A.tb) {o : Option Expr} {m : En → Sto → Res (Option Int)} (h : cPart c A o = some m) : DP X T W o m := by
  cases o with
  | none => cases h; exact dp_none
  | some e =>
    obtain ⟨x, h1, rfl⟩ := map_ok h
    exact dp_some (K.e C G h1)
theorem cCall_ok (K : CsOk c) (C : Ck P w mg base T k A.N A.sc A.os X W) (G : CaOk P w mg base T k A.fr A.co A.fn A.tb) {f : Expr} {args : List Expr} {pos : Pos} {m : ME} (h : cCall c A f args pos = some m) : DE X T W (.Call f args [] pos) m := by
  unfold cCall at h
  split at h
  · rename_i x p
    split at h
    · rename_i a es
      obtain ⟨h1, h2⟩ := guard_ok h
      split at h2
      · rename_i np mf e
        obtain ⟨ms, h3, rfl⟩ := map_ok h2
        simp only [Bool.and_eq_true] at h1
        exact k_app C (G.fn _ (findS_mem e)) (K.a C G h3) (Nat.le_refl _) (by rw [h1.1, h1.2.1, List.all_cons, h1.2.2.1, h1.2.2.2]; rfl)
      · split at h2
        · rename_i b e
          obtain ⟨h3, h4⟩ := guard_ok h2
          obtain ⟨ms, h5, rfl⟩ := map_ok h4
          have ex := blOf_ok e
          subst ex
          exact bl_ok C G.dg (G.fr _ (hasS_ok h3)) (K.a C G h5) h1
        · cases h2
    · cases h
  · rename_i o mt apos
    split at h
    · rename_i a
      obtain ⟨h1, h2⟩ := guard_ok h
      split at h2
      · rename_i e
        subst e
        obtain ⟨mo, me, h3, h4, rfl⟩ := ap2_ok h2
        refine k_append C (K.e C G h3) ?_ h1
        split at h4
        · split at h4
          · obtain ⟨ml, h5, rfl⟩ := map_ok h4
            exact (K.l C G h5).mut
          · exact K.e C G h4
        · exact K.e C G h4
      · split at h2
        · rename_i e
          subst e
          obtain ⟨mo, me, h3, h4, rfl⟩ := ap2_ok h2
          exact k_join C (K.e C G h3) (K.e C G h4) h1
        · cases h2
    · obtain ⟨h1, h2⟩ := guard_ok h
      split at h2
      · rename_i e
        subst e
        obtain ⟨mo, h3, rfl⟩ := map_ok h2
        exact k_pop C (K.e C G h3) h1
      · cases h2
    · cases h
  · cases h
theorem tabOf_ok {e : Expr} {kvs : List (Str × D)} (h : tabOf A e = some kvs) : ∃ x p, e = .Name x p ∧ (kG A.sc x && odd1 x) = true ∧ findS x A.tb = some kvs := by
  unfold tabOf at h
  split at h
  · rename_i x p
    split at h
    · rename_i h1
      exact ⟨x, p, rfl, h1, h⟩
    · cases h
  · cases h
theorem cE_ok (K : CsOk c) (C : Ck P w mg base T k A.N A.sc A.os X W) (G : CaOk P w mg base T k A.fr A.co A.fn A.tb) {x : Expr} {m : ME} (h : cE c A x = some m) : DE X T W x m := by
  unfold cE at h
  split at h
  · cases h; exact de_int
  · cases h; exact de_bl
  · cases h; exact de_non
  · cases h; exact de_str
  · exact cName_ok C G h
  · split at h
    · rename_i f e
      obtain ⟨x, y, h1, h2, rfl⟩ := ap2_ok h
      exact de_bin (binF_ok C e) (K.e C G h1) (K.e C G h2)
    · cases h
  · obtain ⟨x, h1, rfl⟩ := map_ok h
    exact k_neg C (K.e C G h1)
  · obtain ⟨x, h1, rfl⟩ := map_ok h
    exact de_not (K.e C G h1)
  · split at h
    · rename_i kvs e
      obtain ⟨x, h1, rfl⟩ := map_ok h
      obtain ⟨y, p, ey, h2, h3⟩ := tabOf_ok e
      cases ey
      exact k_tabIn C (G.tb _ (findS_mem h3)) (K.e C G h1) h2
    · obtain ⟨x, y, h1, h2, rfl⟩ := ap2_ok h
      exact de_cmp rfl (k_in C) (K.e C G h1) (K.e C G h2)
  · obtain ⟨h0, h⟩ := guard_ok h
    split at h
    · rename_i f e
      obtain ⟨x, y, h1, h2, rfl⟩ := ap2_ok h
      exact de_cmp (by simpa using h0) (cmpF_ok C e) (K.e C G h1) (K.e C G h2)
    · cases h
  · obtain ⟨h0, h⟩ := guard_ok h
    split at h
    · rename_i f f' e e'
      obtain ⟨x, y, z, h1, h2, h3, rfl⟩ := ap3_ok h
      exact de_chain (cmpF_ok C e) (cmpF_ok C e') (K.e C G h1) (K.e C G h2) (K.e C G h3) (by simpa using h0)
    · cases h
  · exact de_one (K.e C G h)
  · obtain ⟨x, y, h1, h2, rfl⟩ := ap2_ok h
    exact de_and (K.e C G h1) (K.e C G h2)
  · obtain ⟨x, y, h1, h2, rfl⟩ := ap2_ok h
    exact de_or (K.e C G h1) (K.e C G h2)
  · obtain ⟨x, y, z, h1, h2, h3, rfl⟩ := ap3_ok h
    exact de_if (K.t C G h1) (K.e C G h2) (K.e C G h3)
  · obtain ⟨x, h1, rfl⟩ := map_ok h
    exact de_tup (K.a C G h1)
  · obtain ⟨x, h1, rfl⟩ := map_ok h
    exact (K.l C G h1).val
  · obtain ⟨x, h1, rfl⟩ := map_ok h
    exact (K.l C G h1).val
  · obtain ⟨x, y, z, h1, h2, h3, rfl⟩ := ap3_ok h
    exact k_sl C (K.e C G h1) (cPart_ok K C G h2) (cPart_ok K C G h3)
  · obtain ⟨h0, h⟩ := guard_ok h
    split at h
    · rename_i kvs e
      obtain ⟨x, h1, rfl⟩ := map_ok h
      obtain ⟨y, p, rfl, h2, h3⟩ := tabOf_ok e
      exact k_tabIx C (G.tb _ (findS_mem h3)) (K.e C G h1) (by rw [h2, h0]; rfl)
    · obtain ⟨x, y, h1, h2, rfl⟩ := ap2_ok h
      exact k_ix C (K.e C G h1) (K.e C G h2) h0
  · split at h
    · obtain ⟨x, h1, rfl⟩ := map_ok h
      exact (K.l C G h1).val
    · exact cCall_ok K C G h
  · cases h
theorem frzAt_ok {b : Bool} {e : Expr} {i : Nat} (h : frzAt A b e = some i) : ∃ x p, e = .Name x p ∧ (nAt A.N i x && (kV A.sc x && odd1 x)) = true := by
  unfold frzAt at h
  split at h
  · rename_i x p
    split at h
    · split at h
      · rename_i j e1
        split at h
        · rename_i e2
          cases h
          rw [Bool.and_eq_true] at e2
          exact ⟨x, p, rfl, by rw [slotOf_nAt e1, e2.2]; rfl⟩
        · cases h
      · cases h
    · cases h
  · cases h
theorem cA_ok (K : CsOk c) (C : Ck P w mg base T k A.N A.sc A.os X W) (G : CaOk P w mg base T k A.fr A.co A.fn A.tb) {b : Bool} {es : List Expr} {m : ML} (h : cA c A b es = some m) : DA X T W es m := by
  cases es with
  | nil => cases h; exact da_nil
  | cons e es =>
    obtain ⟨h0, h⟩ := guard_ok h
    obtain ⟨x, y, h1, h2, rfl⟩ := ap2_ok h
    refine k_cons ?_ (K.a C G h2) h0
    split at h1
    · rename_i i e1
      cases h1
      obtain ⟨z, p, rfl, h3⟩ := frzAt_ok e1
      exact k_frz C i h3
    · exact K.e C G h1
theorem cG_ok (C : Ck P w mg base T k A.N A.sc A.os X W) {tg : Expr} {t : Tg} (h : cG A tg = some t) : DG X T tg t := by
  unfold cG at h
  split at h
  · split at h
    · rename_i i e
      obtain ⟨h1, h2⟩ := guard_ok h
      cases h2
      exact k_nm C i (by rw [slotOf_nAt e, h1]; rfl)
    · cases h
  · split at h
    · rename_i l e
      obtain ⟨h1, h2⟩ := guard_ok h
      cases h2
      exact k_tp C l h1
    · cases h
  · cases h
theorem cIfs_ok (K : CsOk c) (C : Ck P w mg base T k A.N A.sc A.os X W) (G : CaOk P w mg base T k A.fr A.co A.fn A.tb) {ifs : List Expr} {m : MT} (h : cIfs c A ifs = some m) : DTs X T W ifs m := by
  unfold cIfs at h
  split at h
  · cases h; exact dts_nil
  · exact dts_one (K.t C G h)
  · cases h
theorem cComp_ok (K : CsOk c) (C : Ck P w mg base T k A.N A.sc A.os X W) (G : CaOk P w mg base T k A.fr A.co A.fn A.tb) {elt tg iter : Expr} {ifs : List Expr} {scope : Scope} {m : ML} (h : cComp c A elt tg iter ifs scope = some m) :
    ∃ t mi mt me, m = lComp t mi mt me ((ownOf A.N scope).map (·.2)) ∧ DI X T W tg iter mi ∧ (∀ X', Ck P w mg base T k A.N (relS A.sc scope) scope X' WF → DG X' T tg t) ∧ (∀ X', Ck P w mg base T k A.N (relS A.sc scope) scope X' WF → DTs X' T WF ifs mt) ∧
      (∀ X', Ck P w mg base T k A.N (relS A.sc scope) scope X' WF → DE X' T WF elt me) ∧ (blkC A.N A.sc scope (ownOf A.N scope) && (slotsIn t.slots ((ownOf A.N scope).map (·.2)) && notSet iter)) = true := by
  unfold cComp at h
  split at h
  · rename_i t e
    obtain ⟨h0, h⟩ := guard_ok h
    obtain ⟨mi, mt, me, h1, h2, h3, rfl⟩ := ap3_ok h
    exact ⟨t, mi, mt, me, rfl, K.i C G h1, fun X' C' => cG_ok (A := A.blk scope) C' e, fun X' C' => cIfs_ok (A := A.blk scope) K C' G h2, fun X' C' => K.e (A := A.blk scope) C' G h3, h0⟩
  · cases h
theorem cL_ok (K : CsOk c) (C : Ck P w mg base T k A.N A.sc A.os X W) (G : CaOk P w mg base T k A.fr A.co A.fn A.tb) {x : Expr} {m : ML} (h : cL c A x = some m) : DL X T W x m := by
  unfold cL at h
  split at h
  · obtain ⟨x, h1, rfl⟩ := map_ok h
    exact dl_disp (K.a C G h1)
  · obtain ⟨t, mi, mt, me, rfl, h1, h2, h3, h4, h5⟩ := cComp_ok K C G h
    exact k_comp C _ h1 h2 h3 h4 h5
  · obtain ⟨h0, h⟩ := guard_ok h
    obtain ⟨x, h1, rfl⟩ := map_ok h
    simp only [Bool.and_eq_true] at h0
    have e := of_decide_eq_true h0.1
    subst e
    exact k_copy C (G.fr _ (hasS_ok h0.2.1)) (K.e C G h1) (by rw [h0.2.2.1, h0.2.2.2]; rfl)
  · obtain ⟨x, y, h1, h2, rfl⟩ := ap2_ok h
    exact dl_cat (K.e C G h1) (K.e C G h2)
  · obtain ⟨x, y, z, h1, h2, h3, rfl⟩ := ap3_ok h
    exact k_lsl C (K.e C G h1) (cPart_ok K C G h2) (cPart_ok K C G h3)
  · cases h
theorem cW_ok (K : CsOk c) (C : Ck P w mg base T k A.N A.sc A.os X W) (G : CaOk P w mg base T k A.fr A.co A.fn A.tb) : ∀ {vs : List Expr} {op : BoolOp} {m : MT} {pos : Pos}, cW c A vs op = some m → DW X T W (.BoolOp op vs pos) m
  | [], _, _, _, h => by cases h
  | [a], .And, _, _, h => dw_and1 (K.t C G h)
  | [a], .Or, _, _, h => dw_or1 (K.t C G h)
  | a :: b :: rest, .And, _, _, h => by
    obtain ⟨x, y, h1, h2, rfl⟩ := ap2_ok h
    exact dw_and (K.t C G h1) (cW_ok K C G h2)
  | a :: b :: rest, .Or, _, _, h => by
    obtain ⟨x, y, h1, h2, rfl⟩ := ap2_ok h
    exact dw_or (K.t C G h1) (cW_ok K C G h2)
theorem cT_ok (K : CsOk c) (C : Ck P w mg base T k A.N A.sc A.os X W) (G : CaOk P w mg base T k A.fr A.co A.fn A.tb) {x : Expr} {m : MT} (h : cT c A x = some m) : DT X T W x m := by
  unfold cT at h
  split at h
  · obtain ⟨x, h1, rfl⟩ := map_ok h
    exact dt_not (K.t C G h1)
  · exact (cW_ok K C G h).dt
  · split at h
    · rename_i kvs e
      obtain ⟨x, h1, rfl⟩ := map_ok h
      obtain ⟨y, p, ey, h2, h3⟩ := tabOf_ok e
      cases ey
      exact dt_tabIn C (G.tb _ (findS_mem h3)) (K.e C G h1) h2
    · obtain ⟨z, hz, rfl⟩ := map_ok h
      obtain ⟨x, y, h1, h2, rfl⟩ := ap2_ok hz
      exact dt_cmp rfl (k_in C) (K.e C G h1) (K.e C G h2)
  · obtain ⟨h0, h⟩ := guard_ok h
    split at h
    · rename_i f e
      obtain ⟨z, hz, rfl⟩ := map_ok h
      obtain ⟨x, y, h1, h2, rfl⟩ := ap2_ok hz
      exact dt_cmp (by simpa using h0) (cmpF_ok C e) (K.e C G h1) (K.e C G h2)
    · cases h
  · obtain ⟨h0, h⟩ := guard_ok h
    split at h
    · rename_i f f' e e'
      obtain ⟨u, hz, rfl⟩ := map_ok h
      obtain ⟨x, y, z, h1, h2, h3, rfl⟩ := ap3_ok hz
      exact dt_chain (cmpF_ok C e) (cmpF_ok C e') (K.e C G h1) (K.e C G h2) (K.e C G h3) (by simpa using h0)
    · cases h
  · obtain ⟨h0, h⟩ := guard_ok h
    obtain ⟨x, h1, rfl⟩ := map_ok h
    exact k_val h0 (K.e C G h1)
theorem cI_ok (K : CsOk c) (C : Ck P w mg base T k A.N A.sc A.os X W) (G : CaOk P w mg base T k A.fr A.co A.fn A.tb) {x tg : Expr} {m : MI} (h : cI c A x = some m) : DI X T W tg x m := by
  unfold cI at h
  split at h
  · split at h
    · rename_i e
      subst e
      obtain ⟨h0, h⟩ := guard_ok h
      obtain ⟨x, h1, rfl⟩ := map_ok h
      simp only [Bool.and_eq_true] at h0
      exact k_rng1 C (G.fr _ (hasS_ok h0.1)) (K.e C G h1) (by rw [h0.2.1, h0.2.2]; rfl)
    · obtain ⟨x, h1, rfl⟩ := map_ok h
      exact k_seq C (K.e C G h1)
  · split at h
    · rename_i e
      subst e
      obtain ⟨h0, h⟩ := guard_ok h
      obtain ⟨x, y, h1, h2, rfl⟩ := ap2_ok h
      simp only [Bool.and_eq_true] at h0
      exact k_rng2 C (G.fr _ (hasS_ok h0.1)) (K.e C G h1) (K.e C G h2) (by rw [h0.2.1, h0.2.2.1, h0.2.2.2]; rfl)
    · obtain ⟨x, h1, rfl⟩ := map_ok h
      exact k_seq C (K.e C G h1)
  · obtain ⟨x, h1, rfl⟩ := map_ok h
    exact k_seq C (K.e C G h1)
theorem cRhs_ok (K : CsOk c) (C : Ck P w mg base T k A.N A.sc A.os X W) (G : CaOk P w mg base T k A.fr A.co A.fn A.tb) {b : Bool} {x : Expr} {m : ME} (h : cRhs c A b x = some m) : DE X T W x m := by
  unfold cRhs at h
  split at h
  · split at h
    · rename_i ml e
      cases h
      exact (cL_ok K C G e).mut
    · exact K.e C G h
  · exact K.e C G h
theorem cAsg_ok (K : CsOk c) (C : Ck P w mg base T k A.N A.sc A.os X W) (G : CaOk P w mg base T k A.fr A.co A.fn A.tb) {tg e : Expr} {pos : Pos} {m : MS} (h : cAsg c A tg e = some m) : DS X T W (.Assign [tg] e pos) m := by
  unfold cAsg at h
  split at h
  · rename_i x px
    split at h
    · rename_i i es
      split at h
      · split at h
        · rename_i hsw
          obtain ⟨h0, h⟩ := guard_ok h
          obtain ⟨ml, hc, rfl⟩ := map_ok h
          obtain ⟨t, mi, mt, me, rfl, h1, h2, h3, h4, h5⟩ := cComp_ok K C G hc
          exact k_setComp C i _ _ h1 h2 h3 h4 (by rw [h5, slotOf_nAt es, h0]; rfl) hsw
        · obtain ⟨h0, h⟩ := guard_ok h
          obtain ⟨me, h1, rfl⟩ := map_ok h
          exact k_setC C i (cRhs_ok K C G h1) (by rw [slotOf_nAt es]; exact h0)
      · obtain ⟨h0, h⟩ := guard_ok h
        obtain ⟨me, h1, rfl⟩ := map_ok h
        exact k_set C i (cRhs_ok K C G h1) (by rw [slotOf_nAt es]; exact h0)
    · cases h
  · split at h
    · rename_i l hl
      obtain ⟨h0, h⟩ := guard_ok h
      obtain ⟨me, h1, rfl⟩ := map_ok h
      exact k_asgT C l (K.e C G h1) h0
    · cases h
  · obtain ⟨h0, h⟩ := guard_ok h
    obtain ⟨x, y, z, h1, h2, h3, rfl⟩ := ap3_ok h
    exact k_setL C (K.e C G h1) (K.e C G h2) (K.e C G h3) h0
  · cases h
theorem cS_ok (K : CsOk c) (C : Ck P w mg base T k A.N A.sc A.os X W) (G : CaOk P w mg base T k A.fr A.co A.fn A.tb) (po : PassesOwn (model X.prog X.w) X.A X.env X.xe) {x : Stmt} {m : MS} (h : cS c A x = some m) : DS X T W x m := by
  unfold cS at h
  split at h
  · cases h; exact ds_retN
  · obtain ⟨x, h1, rfl⟩ := map_ok h
    exact ds_ret (cRhs_ok K C G h1)
  · obtain ⟨h0, h⟩ := guard_ok h
    obtain ⟨x, h1, rfl⟩ := map_ok h
    exact k_expr (K.e C G h1) h0
  · obtain ⟨x, y, z, h1, h2, h3, rfl⟩ := ap3_ok h
    exact ds_if (K.t C G h1) (K.b C G po h2) (K.b C G po h3)
  · obtain ⟨x, y, h1, h2, rfl⟩ := ap2_ok h
    exact k_while C po (K.t C G h1) (K.b C G po h2)
  · obtain ⟨h0, h⟩ := guard_ok h
    obtain ⟨x, y, z, h1, h2, h3, rfl⟩ := ap3_ok h
    rw [Bool.and_eq_true] at h0
    exact k_for C po (cG_ok C h1) (K.i C G h2) (K.b C G po h3) h0.1 (fold_ok h0.2)
  · exact cAsg_ok K C G h
  · cases h; exact ds_pass
  · cases h; exact ds_break
  · cases h; exact ds_continue
  · cases h
theorem orBad_ok (K : CsOk c) (C : Ck P w mg base T k A.N A.sc A.os X W) (G : CaOk P w mg base T k A.fr A.co A.fn A.tb) (po : PassesOwn (model X.prog X.w) X.A X.env X.xe) {x : Stmt} : DS X T W x (orBad (c.s A x)) := by
  unfold orBad
  cases e : c.s A x with
  | none => exact ds_bad
  | some m => exact K.s C G po e
theorem cB_ok (K : CsOk c) (C : Ck P w mg base T k A.N A.sc A.os X W) (G : CaOk P w mg base T k A.fr A.co A.fn A.tb) (po : PassesOwn (model X.prog X.w) X.A X.env X.xe) {x : List Stmt} {m : MS} (h : cB c A x = some m) : DB X T W x m := by
  unfold cB at h
  split at h
  · cases h; exact db_nil
  · cases h; exact db_one (orBad_ok K C G po)
  · obtain ⟨x, h1, rfl⟩ := map_ok h
    exact db_cons (orBad_ok K C G po) (K.b C G po h1)
end
theorem cs_ok : ∀ n, CsOk (cs n)
  | 0 => ⟨fun _ _ _ _ h => (by cases h), fun _ _ _ _ _ h => (by cases h), fun _ _ _ _ h => (by cases h), fun _ _ _ _ h => (by cases h), fun _ _ _ _ _ h => (by cases h), fun _ _ _ _ _ h => (by cases h), fun _ _ _ _ _ h => (by cases h)⟩
  | n + 1 => ⟨fun C G _ _ h => cE_ok (cs_ok n) C G h, fun C G _ _ _ h => cA_ok (cs_ok n) C G h, fun C G _ _ h => cL_ok (cs_ok n) C G h, fun C G _ _ h => cT_ok (cs_ok n) C G h, fun C G _ _ _ h => cI_ok (cs_ok n) C G h,
    fun C G po _ _ h => cS_ok (cs_ok n) C G po h, fun C G po _ _ h => cB_ok (cs_ok n) C G po h⟩
end Z
namespace Z
open PySem PySem.Spec PyProof.Rows L2
def FnsOk (P : Program) (w : World) (mg : Str → Option Value) (base : Heap) (T : Wp) (k : Nat) : List (Str × (Nat × (List D → Sto → Res D))) → Prop
  | [] => True
  | q :: r => FnG P w mg base T k q.1 q.2.1 q.2.2 ∧ FnsOk P w mg base T k r
theorem fnsOk_mem {P : Program} {w : World} {mg : Str → Option Value} {base : Heap} {T : Wp} {k : Nat} : ∀ {l : List (Str × (Nat × (List D → Sto → Res D)))}, FnsOk P w mg base T k l → ∀ q ∈ l, FnG P w mg base T k q.1 q.2.1 q.2.2
  | [], _, q, h => by cases h
  | p :: r, h, q, hq => by
    rcases List.mem_cons.mp hq with e | hq
    · rw [e]; exact h.1
    · exact fnsOk_mem h.2 q hq
end Z

set_option Elab.async false
set_option linter.all false
set_option maxRecDepth 100000
set_option maxHeartbeats 4000000
/-! The Z layer, part R: the law's end. -/
namespace Z
open PySem PySem.Spec PyProof.Rows L2
theorem law_sp {T : Wp} {m : List D → Sto → Res D} {H : Hp} {a : Addr} {ns : List Int} (hS : SqL T.K H a (ns.map V.int)) (h : ∃ S', m [.scr (ns.map D.int)] [] = .ok (.bl true) S') : spM T 1 m [.ref a] H (fun v _ => v = .bl true) (fun _ _ _ => False) := by
  obtain ⟨S', e⟩ := h
  refine ⟨H, [], [], [.scr (ns.map D.int)], ⟨Le.refl _, rfl, List.nodup_nil, fun n o h => by cases h⟩, .cons (.scr hS (Rps.of_ints ns)) .nil, rfl, ?_⟩
  rw [e]
  intro B' H' ρ' v _ _ p
  cases p
  rfl
/-- the def that is the law: its object is told -/
theorem fn_law {P : Program} {w : World} {mg : Str → Option Value} {base : Heap} {T : Wp} {k : Nat} {x qual : Str} {params : Arguments} {body : List Stmt} {scope : Scope} {f : Addr} {fd : FuncData} {N ps : List Str} {np n : Nat} {fz : Bool} {b : En → Sto → Out}
    (F : FunD T.K x qual params body scope [] [] f fd) (sc : FnScope N ps scope) (hl : ps.length = np) (hn : N.length = n)
    (hb : ∀ (X : Cx) (W : WX), Ck P w mg base T k N scope scope X W → PassesOwn (model X.prog X.w) X.A X.env X.xe → DB X T W body b) : FnOk P w T.K mg base (L2.CX P w) (k + 1) f fd ps (spM T np (mFun fz n b)) := by
  refine F.ok sc (fun vs H Q E h => ?_) (fun cdv A outer s H vs Q E hr h => ?_)
  · obtain ⟨B, ρ, S, ds, _, h2, h3, _⟩ := h
    rw [← h2.length, h3, hl]
  · obtain ⟨B, ρ, S, ds, R, rp, hd, ok⟩ := h
    refine ⟨_, sPB, ?_⟩
    refine hb (cxOf (L2.CX P w) P w T.K mg base N qual scope f cdv A outer s H E) (fun cls d _ H => E cls d H) ⟨rfl, rfl, rfl, rfl, rfl, rfl, sc.nd, rfl, rfl, hr, takes_of rfl rfl rfl rfl, fun x _ => .inl rfl⟩ (passes_of rfl) (L2.start N vs) B H ρ S (startE n ds) _ R (by rw [← hn]; exact startE_rel rp) ?_
    have ok' := ok.gc R
    cases e : b (startE n ds) S with
    | nx env' S' => rw [e] at ok'; exact fun σ' B' H' ρ' g R' er => ok' B' H' ρ' .non g R' .non
    | rt d S' => rw [e] at ok'; exact ok'
    | bk env' S' => rw [e] at ok'; exact ok'.elim
    | ct env' S' => rw [e] at ok'; exact ok'.elim
    | exc c x env' S' => rw [e] at ok'; exact fun σ' B' H' ρ' v dd g R' er rx hd => ok' B' H' ρ' v dd g R' rx hd
    | bad => rw [e] at ok'; exact ok'.elim
theorem cx_no {P : Program} {w : World} (H : Hp) (s : Shared) (e : Value) (s' : Shared) : L2.CX P w [] H s (fun _ _ _ => False) e s' → False := fun ⟨_, _, _, _, _, _, _, _, _, _, _, _, h⟩ => h
/-! ### the head's look -/
abbrev AlZ : Type := He.AlT × Bool
def asZ (g : Addr → Option Obj) (n : Nat) : List Addr := cStatics :: He.asD g n
def obsZ (n : Nat) (fa : List He.Fa) (fn : List He.DefD) (ts : List He.Tab) (ex : PySem.W.Frag → Bool) (g : Addr → Option Obj) : AlZ := (He.obsT fa fn ts (He.frG g (asZ g n)), ex (He.frG g (asZ g n)))
def hookZ (n : Nat) (fa : List He.Fa) (fn : List He.DefD) (ts : List He.Tab) (ex : PySem.W.Frag → Bool) : PySem.W.Hook where
  α := AlZ
  obs := fun s => obsZ n fa fn ts ex s.heap.get?
  val := fun w => (He.valT fn ts w, true)
  says := fun w h => ∃ K : PySem.W.Frag, K.In h ∧ He.SaysT fa fn ts w K ∧ ex K = true
  of := fun _ _ e => ⟨_, He.frG_in, congrArg (fun z : AlZ => z.1) e, congrArg (fun z : AlZ => z.2) e⟩
  keeps := fun _ _ _ ⟨K, hK, c⟩ k => ⟨K, PySem.W.Frag.In.keeps hK k, c⟩
theorem obsZ_eq {n : Nat} {fa : List He.Fa} {fn : List He.DefD} {ts : List He.Tab} {ex : PySem.W.Frag → Bool} {g : Addr → Option Obj} {s : Shared} (h : ∀ a, g a = s.heap.get? a) : obsZ n fa fn ts ex g = (hookZ n fa fn ts ex).obs s := by
  have e : g = s.heap.get? := funext h
  rw [e] <;> rfl
theorem gl_int {K : PySem.W.Frag} {h : Heap} {mg : Str → Option Value} {T : Wp} (X : K.In h) (G : h.Ns mainGlobals mg) {x : Str} {i : Int} (c : (He.Fa.int x i).ok K = true) : GlG mg T x (.int i) := by
  obtain ⟨t, e⟩ := He.int_ok X G c
  exact ⟨_, .int i, e, ⟨t, rfl⟩, fun _ _ => .int i⟩
theorem gl_str {K : PySem.W.Frag} {h : Heap} {mg : Str → Option Value} {T : Wp} (X : K.In h) (G : h.Ns mainGlobals mg) {x z : Str} (c : (He.Fa.str x z).ok K = true) : GlG mg T x (.str z) := by
  obtain ⟨t, e⟩ := He.str_ok X G c
  exact ⟨_, .str z, e, ⟨t, rfl⟩, fun _ _ => .str z⟩
end Z
namespace Z
open PySem PySem.Spec PyProof.Rows L2
def GlsOk (mg : Str → Option Value) (T : Wp) : List (Str × D) → Prop
  | [] => True
  | q :: r => GlG mg T q.1 q.2 ∧ GlsOk mg T r
theorem gls_mem {mg : Str → Option Value} {T : Wp} : ∀ {l : List (Str × D)}, GlsOk mg T l → ∀ q ∈ l, GlG mg T q.1 q.2
  | [], _, q, h => by cases h
  | p :: r, h, q, hq => by
    rcases List.mem_cons.mp hq with e | hq
    · rw [e]; exact h.1
    · exact gls_mem h.2 q hq
end Z
namespace Z
open PySem PySem.Spec PyProof.Rows L2
theorem walkZ {l : PySem.W.OpenLaw} {n k : Nat} {q : Program} {loose : List Str} {XP : (Str → Option Value) → Heap → Prop} {YP : World → Heap → Prop} {d : DefRec} {x : Str}
    (hn : l.most = some n) (hn2 : n ≤ sizeLine) (hdf : d.params.defaults = []) (hr : Room k callerA)
    (F : ∀ (w : World) (mg : Str → Option Value) (fa : Addr) (h : Heap), YP w h → h.Ns mainGlobals mg → mg d.name = some (.ref fa) →
      ∃ (K : PySem.W.Frag) (fd : FuncData) (sp : Sp), K.In h ∧ (∀ (s : Shared) (u : Value), BindsTo s fd ⟨[u], []⟩ [(x, u)]) ∧
        (∀ (H : Hp) (a : Addr) (ns : List Int), ns.length ≤ n → Only H → SqL K H a (ns.map V.int) → sp [.ref a] H (fun v _ => v = .bl true) fun _ _ _ => False) ∧
        ∀ base : Heap, K.In base → base.Ns mainGlobals mg → FnOk l.prog w K mg base (L2.CX l.prog w) k fa fd [x] sp) :
    PySem.W.WalkO q loose XP YP l.row.toRowW d [] (fun f vs => PySem.call f vs) := by
  refine Att.attach_call hn hdf fun w s₀ s₁ mg mb fa o pm cd doc a vs ns G Y ho hd hcd hmg hobj hints hlen hg => ?_
  obtain ⟨K, fd, sp, KX, hb, hsp, hF⟩ := F w mg fa _ Y G.T.g hmg
  exact law_call KX G.T.g G.T.b G.T.builtins G.T.nolimit hg hobj hints (Nat.le_trans hlen hn2) hr hF hb (fun H hO hS => hsp H a ns hlen hO hS) fun H e s' => cx_no H s₁ e s'
end Z
namespace Z
open PySem PySem.Spec PyProof.Rows L2
def dvOf : D → He.Dv
  | .bl b => .bl b
  | .int i => .int i
  | .str x => .str x
  | _ => .non
def smp : D → Bool
  | .non => true
  | .bl _ => true
  | .int _ => true
  | .str _ => true
  | _ => false
theorem smp_rp {K : PySem.W.Frag} {T : Wp} {B : Hp} {ρ : List Addr} {d : D} (h : smp d = true) : Rp T B ρ d ((dvOf d).v K) := by
  cases d with
  | non => exact .non
  | bl b => exact .bl b
  | int i => exact .int i
  | str x => exact .str x
  | _ => cases h
theorem tab_dic {fa : List He.Fa} {fn : List He.DefD} {ts : List He.Tab} {w : World} {K : PySem.W.Frag} (c : He.SaysT fa fn ts w K) (i : Nat) {t : He.Tab} (h : ts[i]? = some t) : He.dicW K (t.1 K) = some (He.keysIn w.params t.2) := by
  have e : ts.map (fun t => He.dicW K (t.1 K)) = ts.map fun t => some (He.keysIn w.params t.2) := congrArg (fun z : He.AlT => z.2) c
  have e2 : (ts.map fun t => He.dicW K (t.1 K))[i]? = (ts.map fun t => some (He.keysIn w.params t.2))[i]? := by rw [e]
  rw [List.getElem?_map, List.getElem?_map, h] at e2
  exact Option.some.inj e2
theorem tabG_of {K : PySem.W.Frag} {h : Heap} {mg : Str → Option Value} {T : Wp} {w : World} (hT : T.K = K) (X : K.In h) (G : h.Ns mainGlobals mg) {x : Str} {kvs : List (Str × D)} (hg : (He.Fa.glo x).ok K = true) (hd : He.dicW K (He.ga K x) = some (He.keysIn w.params (kvs.map (·.1))))
    (hs : (kvs.all fun q => smp q.2) = true) (hv : He.valsB K (He.ga K x) (kvs.map fun q => (q.1, dvOf q.2)) = true) : TabG mg T w x kvs := by
  obtain ⟨es, n, D⟩ := He.dicW_ok hd
  refine ⟨He.ga K x, es, n, He.glo_ok X G hg, by rw [hT]; exact D, fun z hz => by rw [hT]; exact tab_none hd hz, fun q hq => ?_⟩
  obtain ⟨u, h1, h2⟩ := He.valsB_ok hv (q := (q.1, dvOf q.2)) (List.mem_map.mpr ⟨q, hq, rfl⟩)
  exact ⟨u, (dvOf q.2).v K, by rw [hT]; exact h1, h2, fun B ρ => smp_rp (List.all_eq_true.mp hs q hq)⟩
def TbsOk (mg : Str → Option Value) (T : Wp) (w : World) : List (Str × List (Str × D)) → Prop
  | [] => True
  | q :: r => TabG mg T w q.1 q.2 ∧ TbsOk mg T w r
theorem tbs_mem {mg : Str → Option Value} {T : Wp} {w : World} : ∀ {l : List (Str × List (Str × D))}, TbsOk mg T w l → ∀ q ∈ l, TabG mg T w q.1 q.2
  | [], _, q, h => by cases h
  | p :: r, h, q, hq => by
    rcases List.mem_cons.mp hq with e | hq
    · rw [e]; exact h.1
    · exact tbs_mem h.2 q hq
end Z

set_option Elab.async false
set_option linter.all false
set_option maxRecDepth 100000
set_option maxHeartbeats 4000000
/-! The Z layer, part T: the laws' own helpers, in plain Lean. -/
namespace ZT
open PySem PySem.Spec PyProof.Rows L2 Z
noncomputable def b_law_bag : En → Sto → Out :=
  sRet (mMut (lDisp (mCons (mVal (lCopy (mVar 0))) (mCons (mCon (.int 0)) (mCons (mCon (.int 0)) (mCons (mBin modD (mCall intD (mCons (mCall sumD (mCons (mVar 0) (mNil))) (mNil))) (mCon (.int 1000003))) (mCons (mCon (.int 0)) (mCons (mCon (.int 0)) (mNil)))))))))
noncomputable def f_law_bag : List D → Sto → Res D := mFun false 1 b_law_bag
noncomputable def b_law_mixed : En → Sto → Out :=
  sCons (sAsg (.nm 2) (mBin modD (mCall intD (mCons (mBin addD (mBin mulD (mBin addD (mVar 0) (mCon (.int 1))) (mCon (.int 48271))) (mBin mulD (mBin addD (mVar 1) (mCon (.int 1))) (mCon (.int 69621)))) (mNil))) (mCon (.int 2147483647))))
  (sRet (mBin divD (mBin modD (mCall intD (mCons (mBin addD (mBin addD (mBin mulD (mVar 2) (mVar 2)) (mBin mulD (mVar 2) (mCon (.int 16807)))) (mBin mulD (mCon (.int 7)) (mVar 1))) (mNil))) (mCon (.int 2147483629))) (mCon (.int 7))))
noncomputable def f_law_mixed : List D → Sto → Res D := mFun true 3 b_law_mixed
noncomputable def b_law_draw : En → Sto → Out :=
  sCons (sIf (asB (mBin ltD (mVar 1) (mCon (.int 2))))
  (sRet (mCon (.int 0)))
  (sNil))
  (sCons (sSetL (mBin addD (mIx (mVar 0) (mCon (.int 5))) (mCon (.int 1))) (mVar 0) (mCon (.int 5)))
  (sCons (sIf (tAnd2 (asB (mBin eqD (mIx (mVar 0) (mCon (.int 2))) (mCon (.int 0)))) (tAnd2 (asB (mBin eqD (mIx (mVar 0) (mCon (.int 4))) (mCon (.int 0)))) (asB (mBin ltD (mIx (mVar 0) (mCon (.int 1))) (mCall lenD (mCons (mIx (mVar 0) (mCon (.int 0))) (mNil)))))))
  (sCons (sAsg (.nm 2) (mIx (mIx (mVar 0) (mCon (.int 0))) (mIx (mVar 0) (mCon (.int 1)))))
  (sCons (sSetL (mBin addD (mIx (mVar 0) (mCon (.int 1))) (mCon (.int 1))) (mVar 0) (mCon (.int 1)))
  (sIf (asB (mBin geD (mCall absD (mCons (mVar 2) (mNil))) (mBin powD (mCon (.int 10)) (mCon (.int 18)))))
  (sSetL (mCall absD (mCons (mVar 2) (mNil))) (mVar 0) (mCon (.int 2)))
  (sCons (sSetL (mBin addD (mBin mulD (mCon (.int 2)) (mCall absD (mCons (mVar 2) (mNil)))) (mCall intD (mCons (mBin ltD (mVar 2) (mCon (.int 0))) (mNil)))) (mVar 0) (mCon (.int 3)))
  (sSetL (mCon (.int 15)) (mVar 0) (mCon (.int 4)))))))
  (sNil))
  (sCons (sIf (asB (mBin gtD (mIx (mVar 0) (mCon (.int 2))) (mCon (.int 0))))
  (sCons (sAsg (.nm 3) (mBin modD (mCall intD (mCons (mIx (mVar 0) (mCon (.int 2))) (mNil))) (mVar 1)))
  (sCons (sSetL (mBin divD (mIx (mVar 0) (mCon (.int 2))) (mVar 1)) (mVar 0) (mCon (.int 2)))
  (sRet (mVar 3))))
  (sNil))
  (sCons (sIf (asB (mBin gtD (mIx (mVar 0) (mCon (.int 4))) (mCon (.int 0))))
  (sSetL (mBin subD (mIx (mVar 0) (mCon (.int 4))) (mCon (.int 1))) (mVar 0) (mCon (.int 4)))
  (sNil))
  (sRet (mBin modD (mCall intD (mCons (mApp 2 f_law_mixed (mCons (mIx (mVar 0) (mCon (.int 3))) (mCons (mIx (mVar 0) (mCon (.int 5))) (mNil)))) (mNil))) (mVar 1)))))))
noncomputable def f_law_draw : List D → Sto → Res D := mFun true 4 b_law_draw
noncomputable def b_law_pick : En → Sto → Out :=
  sRet (mIx (mVar 1) (mApp 2 f_law_draw (mCons (mVar 0) (mCons (mCall lenD (mCons (mVar 1) (mNil))) (mNil)))))
noncomputable def f_law_pick : List D → Sto → Res D := mFun true 2 b_law_pick
theorem look_put_same' {n : Nat} {S : Sto} {x y : O} (h : look S n = some x) : look (put S n y) n = some y := look_put_same (look_lt h)
theorem put_put {α : Type} : ∀ {xs : List α} {n : Nat} {x y : α}, put (put xs n x) n y = put xs n y
  | [], _, _, _ => rfl
  | z :: zs, n, x, y => by
    by_cases h : n = zs.length
    · have e1 : put (z :: zs) n x = x :: zs := if_pos h
      have e2 : put (z :: zs) n y = y :: zs := if_pos h
      rw [e1, e2]
      exact if_pos h
    · have e1 : put (z :: zs) n x = z :: put zs n x := if_neg h
      have e2 : put (z :: zs) n y = z :: put zs n y := if_neg h
      rw [e1, e2]
      show (if n = (put zs n x).length then y :: put zs n x else z :: put (put zs n x) n y) = _
      rw [put_length, if_neg h, put_put]
theorem put_self {α : Type} : ∀ {xs : List α} {n : Nat} {x : α}, look xs n = some x → put xs n x = xs
  | [], _, _, h => by cases h
  | z :: zs, n, x, h => by
    unfold look at h
    unfold put
    split
    · rename_i e; rw [if_pos e] at h; rw [Option.some.inj h]
    · rename_i e; rw [if_neg e] at h; rw [put_self h]
/-- the end of a def that leaves the store as it is but for one object -/
theorem ceil_put {S : Sto} {n : Nat} {o : O} : ceilS S.length (put S n o) = put S n o := by
  unfold ceilS
  rw [put_length, Nat.sub_self, List.drop_zero]
theorem ceil_self {S : Sto} : ceilS S.length S = S := by
  unfold ceilS
  rw [Nat.sub_self, List.drop_zero]
theorem gcD_self {S : Sto} {d : D} : gcD S d S = S := by
  unfold gcD
  split
  · exact ceil_self
  · rfl
theorem gcD_put {S : Sto} {d : D} {n : Nat} {o : O} : gcD S d (put S n o) = put S n o := by
  unfold gcD
  split
  · exact ceil_put
  · rfl
/-- a value without references -/
def noRef : D → Bool
  | .ref _ => false
  | _ => true
theorem frzTop_no {n : Nat} {d : D} {S : Sto} (h : noRef d = true) : frzTop n d S = (d, S) := by
  cases d <;> first | rfl | cases h
theorem gcR_self {fz : Bool} {S : Sto} {d : D} (h : noRef d = true) : gcR fz S (.ok d S) = .ok d S := by
  cases fz with
  | true =>
    show Res.ok (frzTop S.length d S).1 (gcD S (frzTop S.length d S).1 (frzTop S.length d S).2) = _
    rw [frzTop_no h, gcD_self]
  | false =>
    show Res.ok d (gcD S d S) = _
    rw [gcD_self]
theorem gcR_put {fz : Bool} {S : Sto} {d : D} {n : Nat} {o : O} (h : noRef d = true) : gcR fz S (.ok d (put S n o)) = .ok d (put S n o) := by
  cases fz with
  | true =>
    show Res.ok (frzTop S.length d (put S n o)).1 (gcD S (frzTop S.length d (put S n o)).1 (frzTop S.length d (put S n o)).2) = _
    rw [frzTop_no h, gcD_put]
  | false =>
    show Res.ok d (gcD S d (put S n o)) = _
    rw [gcD_put]
/-- one statement, then the others -/
def seqO (r : Out) (k : MS) : Out := match r with
  | .nx env' S' => k env' S'
  | r => r
@[simp] theorem seq_nx (env : En) (S : Sto) (k : MS) : seqO (.nx env S) k = k env S := rfl
@[simp] theorem seq_rt (d : D) (S : Sto) (k : MS) : seqO (.rt d S) k = .rt d S := rfl
@[simp] theorem seq_exc (c : Nat) (x : D) (env : En) (S : Sto) (k : MS) : seqO (.exc c x env S) k = .exc c x env S := rfl
@[simp] theorem seq_bad (k : MS) : seqO .bad k = .bad := rfl
@[simp] theorem seq_bk (env : En) (S : Sto) (k : MS) : seqO (.bk env S) k = .bk env S := rfl
@[simp] theorem seq_ct (env : En) (S : Sto) (k : MS) : seqO (.ct env S) k = .ct env S := rfl
section
variable (f f' : D → D → Sto → Res D) (g : D → Sto → Res D) (h : List D → Sto → Res D) (ma mb mc : ME) (ms : ML) (mt mt' : MT) (s1 s2 : MS) (env : En) (S : Sto) (d e : D)
@[simp] theorem mBin_ : mBin f ma mb env S = (ma env S).bind fun d S1 => (mb env S1).bind fun e S2 => (f d e S2).calm := rfl
@[simp] theorem mUn_ : mUn g ma env S = (ma env S).bind fun d S1 => (g d S1).calm := rfl
@[simp] theorem mCon_ : mCon d env S = .ok d S := rfl
@[simp] theorem mCall_ : mCall h ms env S = (ms env S).bind fun ds S1 => (h ds S1).calm := rfl
@[simp] theorem mNil_ : mNil env S = .ok [] S := rfl
@[simp] theorem mCons_ : mCons ma ms env S = (ma env S).bind fun d S1 => (ms env S1).bind fun ds S2 => .ok (d :: ds) S2 := rfl
@[simp] theorem mIx_ : mIx ma mb env S = (ma env S).bind fun d S1 => (mb env S1).bind fun e S2 => (ixD d e S2).calm := rfl
@[simp] theorem mApp_ (n : Nat) : mApp n h ms env S = (ms env S).bind fun ds S1 => if ds.length = n then h ds S1 else .bad := rfl
@[simp] theorem asB_ : asB ma env S = (ma env S).bind fun d S1 => match d with
  | .bl k => .ok k S1
  | _ => .bad := rfl
@[simp] theorem tAnd2_ : tAnd2 mt mt' env S = (mt env S).bind fun k S1 => if k then mt' env S1 else .ok false S1 := rfl
@[simp] theorem tOr2_ : tOr2 mt mt' env S = (mt env S).bind fun k S1 => if k then .ok true S1 else mt' env S1 := rfl
@[simp] theorem tNot2_ : tNot2 mt env S = (mt env S).bind fun k S1 => .ok (!k) S1 := rfl
@[simp] theorem sNil_ : sNil env S = .nx env S := rfl
@[simp] theorem sCons_ : sCons s1 s2 env S = seqO (s1 env S) s2 := rfl
@[simp] theorem sRet_ : sRet ma env S = toOut (ma env S) env fun d S1 => .rt d S1 := rfl
@[simp] theorem sExpr_ : sExpr ma env S = toOut (ma env S) env fun _ S1 => .nx env S1 := rfl
@[simp] theorem sIf_ : sIf mt s1 s2 env S = toOut (mt env S) env fun k S1 => if k then s1 env S1 else s2 env S1 := rfl
@[simp] theorem sAsg_nm (i : Nat) : sAsg (.nm i) ma env S = toOut (ma env S) env fun d S1 => .nx (env.set i (some d)) S1 := rfl
@[simp] theorem sSetL_ : sSetL mc ma mb env S = toOut (mc env S) env fun x S1 => toOut (ma env S1) env fun d S2 => toOut (mb env S2) env fun i S3 => match setAt d i x S3 with
  | some S4 => .nx env S4
  | none => .bad := rfl
@[simp] theorem calm_ok {α : Type} (a : α) : (Res.ok a S).calm = .ok a S := rfl
@[simp] theorem var0 (l : En) : mVar 0 (some d :: l) S = .ok d S := rfl
@[simp] theorem varS (x : Option D) (l : En) (n : Nat) : mVar (n + 1) (x :: l) S = mVar n l S := rfl
@[simp] theorem endR_rt : endR (.rt d S) = .ok d S := rfl
@[simp] theorem endR_nx : endR (.nx env S) = .ok .non S := rfl
@[simp] theorem addI (i j : Int) : addD (.int i) (.int j) S = .ok (.int (i + j)) S := rfl
@[simp] theorem subI (i j : Int) : subD (.int i) (.int j) S = .ok (.int (i - j)) S := rfl
@[simp] theorem negI (i : Int) : negD (.int i) S = .ok (.int (-i)) S := rfl
@[simp] theorem intI (i : Int) : intD [.int i] S = .ok (.int i) S := rfl
@[simp] theorem intB (k : Bool) : intD [.bl k] S = .ok (.int (if k then 1 else 0)) S := rfl
@[simp] theorem absI (i : Int) : absD [.int i] S = .ok (.int (if i < 0 then -i else i)) S := rfl
@[simp] theorem ltI (i j : Int) : ltD (.int i) (.int j) S = .ok (.bl (decide (i < j))) S := rfl
@[simp] theorem leI (i j : Int) : leD (.int i) (.int j) S = .ok (.bl (decide (i ≤ j))) S := rfl
@[simp] theorem gtI (i j : Int) : gtD (.int i) (.int j) S = .ok (.bl (decide (j < i))) S := rfl
@[simp] theorem geI (i j : Int) : geD (.int i) (.int j) S = .ok (.bl (decide (j ≤ i))) S := rfl
@[simp] theorem eqI (i j : Int) : eqD (.int i) (.int j) S = .ok (.bl (decide (i = j))) S := by
  show (if SeqAt.shaped (.int i) = true ∧ SeqAt.shaped (.int j) = true then Res.ok (D.bl (PyData.eqv (.int i) (.int j))) S else .bad) = _
  rw [if_pos ⟨by first | rfl | decide, by first | rfl | decide⟩]
  rfl
theorem modI (i j : Int) (hj : 0 < j) : modD (.int i) (.int j) S = .ok (.int (i % j)) S := if_pos hj
theorem divI (i j : Int) (hj : 0 < j ∧ j.natAbs.log2 < 9000) : divD (.int i) (.int j) S = .ok (.int (i / j)) S := if_pos hj
end
theorem mulI (i j : Int) (S : Sto) (h : i.natAbs.log2 + j.natAbs.log2 < 1000000) : mulD (.int i) (.int j) S = .ok (.int (i * j)) S := if_pos h
theorem log2_lt {n k : Nat} (hk : 0 < k) (h : n < 2 ^ k) : n.log2 < k := by
  by_cases h0 : n = 0
  · subst h0; simpa using hk
  · exact (Nat.log2_lt h0).mpr h
theorem mulS (i j : Int) (S : Sto) (hi : i.natAbs < 2 ^ 400000) (hj : j.natAbs < 2 ^ 400000) : mulD (.int i) (.int j) S = .ok (.int (i * j)) S := by
  refine mulI i j S ?_
  have h1 := log2_lt (by decide) hi
  have h2 := log2_lt (by decide) hj
  omega
theorem big2 {n k : Nat} (h : n < 2 ^ k) (hk : k ≤ 400000) : n < 2 ^ 400000 := Nat.lt_of_lt_of_le h (Nat.pow_le_pow_right (by decide) hk)
theorem mul100 (i j : Int) (S : Sto) (hi : i.natAbs < 2 ^ 100) (hj : j.natAbs < 2 ^ 100) : mulD (.int i) (.int j) S = .ok (.int (i * j)) S := mulS i j S (big2 hi (by decide)) (big2 hj (by decide))
theorem divS (i j : Int) (S : Sto) (hj : 0 < j) (h2 : j.natAbs < 2 ^ 1000) : divD (.int i) (.int j) S = .ok (.int (i / j)) S := divI S i j ⟨hj, Nat.lt_of_lt_of_le (log2_lt (by decide) h2) (by decide)⟩
theorem f_mixed (a b : Int) (S : Sto) (ha : 0 ≤ a ∧ a < 2 ^ 64) (hb : 0 ≤ b ∧ b < 2 ^ 64) : ∃ c, f_law_mixed [.int a, .int b] S = .ok (.int c) S := by
  unfold f_law_mixed mFun b_law_mixed
  have m1 : ((a + 1) * 48271 + (b + 1) * 69621) % 2147483647 < 2147483647 := Int.emod_lt_of_pos _ (by decide)
  have m2 : 0 ≤ ((a + 1) * 48271 + (b + 1) * 69621) % 2147483647 := Int.emod_nonneg _ (by decide)
  generalize hx : ((a + 1) * 48271 + (b + 1) * 69621) % 2147483647 = x at m1 m2
  refine ⟨(x * x + x * 16807 + 7 * b) % 2147483629 / 7, ?_⟩
  simp [startE, mul100 (a + 1) 48271 S (by omega) (by decide), mul100 (b + 1) 69621 S (by omega) (by decide), modI, hx, mul100 x x S (by omega) (by omega), mul100 x 16807 S (by omega) (by decide), mul100 7 b S (by decide) (by omega), divS _ 7 S (by decide) (by decide)]
  exact gcR_self rfl
theorem gcR_len {fz : Bool} {S S1 : Sto} {d : D} (h : noRef d = true) (hl : S1.length = S.length) : gcR fz S (.ok d S1) = .ok d S1 := by
  have e : gcD S d S1 = S1 := by
    unfold gcD
    split
    · unfold ceilS; rw [hl, Nat.sub_self, List.drop_zero]
    · rfl
  cases fz with
  | true =>
    show Res.ok (frzTop S.length d S1).1 (gcD S (frzTop S.length d S1).1 (frzTop S.length d S1).2) = _
    rw [frzTop_no h, e]
  | false =>
    show Res.ok d (gcD S d S1) = _
    rw [e]
/-! ### the bag -/
/-- the store S with the bag at n -/
def bst (S : Sto) (n : Nat) (c : List Int) (p b s l t : Int) : Sto := put S n (.lst [.lst (c.map D.int), .int p, .int b, .int s, .int l, .int t])
section
variable {S : Sto} {n : Nat} {c : List Int} {p b s l t : Int}
@[simp] theorem bst_len : (bst S n c p b s l t).length = S.length := put_length
theorem bst_look (hn : n < S.length) : look (bst S n c p b s l t) n = some (.lst [.lst (c.map D.int), .int p, .int b, .int s, .int l, .int t]) := look_put_same hn
theorem bst_ix (hn : n < S.length) (i : Int) : ixD (.ref n) (.int i) (bst S n c p b s l t) = (match atI [D.lst (c.map D.int), .int p, .int b, .int s, .int l, .int t] i with
    | some x => .ok x (bst S n c p b s l t)
    | none => .bad) := by
  unfold ixD asL
  dsimp only
  rw [bst_look hn]
  try rfl
@[simp] theorem bix0 (hn : n < S.length) : ixD (.ref n) (.int 0) (bst S n c p b s l t) = .ok (.lst (c.map D.int)) (bst S n c p b s l t) := bst_ix hn 0
@[simp] theorem bix1 (hn : n < S.length) : ixD (.ref n) (.int 1) (bst S n c p b s l t) = .ok (.int p) (bst S n c p b s l t) := bst_ix hn 1
@[simp] theorem bix2 (hn : n < S.length) : ixD (.ref n) (.int 2) (bst S n c p b s l t) = .ok (.int b) (bst S n c p b s l t) := bst_ix hn 2
@[simp] theorem bix3 (hn : n < S.length) : ixD (.ref n) (.int 3) (bst S n c p b s l t) = .ok (.int s) (bst S n c p b s l t) := bst_ix hn 3
@[simp] theorem bix4 (hn : n < S.length) : ixD (.ref n) (.int 4) (bst S n c p b s l t) = .ok (.int l) (bst S n c p b s l t) := bst_ix hn 4
@[simp] theorem bix5 (hn : n < S.length) : ixD (.ref n) (.int 5) (bst S n c p b s l t) = .ok (.int t) (bst S n c p b s l t) := bst_ix hn 5
theorem bst_set (hn : n < S.length) (i : Int) (x : D) : setAt (.ref n) (.int i) x (bst S n c p b s l t) = (match ixN 6 i with
    | some j => some (put (bst S n c p b s l t) n (.lst ([D.lst (c.map D.int), .int p, .int b, .int s, .int l, .int t].set j x)))
    | none => none) := by
  unfold setAt
  dsimp only
  rw [bst_look hn]
  rfl
@[simp] theorem bset1 (hn : n < S.length) (x : Int) : setAt (.ref n) (.int 1) (.int x) (bst S n c p b s l t) = some (bst S n c x b s l t) := (bst_set hn 1 _).trans (congrArg some put_put)
@[simp] theorem bset2 (hn : n < S.length) (x : Int) : setAt (.ref n) (.int 2) (.int x) (bst S n c p b s l t) = some (bst S n c p x s l t) := (bst_set hn 2 _).trans (congrArg some put_put)
@[simp] theorem bset3 (hn : n < S.length) (x : Int) : setAt (.ref n) (.int 3) (.int x) (bst S n c p b s l t) = some (bst S n c p b x l t) := (bst_set hn 3 _).trans (congrArg some put_put)
@[simp] theorem bset4 (hn : n < S.length) (x : Int) : setAt (.ref n) (.int 4) (.int x) (bst S n c p b s l t) = some (bst S n c p b s x t) := (bst_set hn 4 _).trans (congrArg some put_put)
@[simp] theorem bset5 (hn : n < S.length) (x : Int) : setAt (.ref n) (.int 5) (.int x) (bst S n c p b s l t) = some (bst S n c p b s l x) := (bst_set hn 5 _).trans (congrArg some put_put)
@[simp] theorem len_lst (ds : List D) (S : Sto) : lenD [.lst ds] S = .ok (.int ds.length) S := rfl
@[simp] theorem pow18 (S : Sto) : powD (.int 10) (.int 18) S = .ok (.int 1000000000000000000) S := by
  unfold powD
  exact if_pos (by decide)
theorem ix_lst (ds : List D) (S : Sto) (j : Nat) (x : D) (h : ds[j]? = some x) : ixD (.lst ds) (.int (j : Int)) S = .ok x S := by
  unfold ixD asL
  dsimp only
  rw [atI_nat h]
end
/-- the draws are good: t bounds their number -/
structure BOk (S : Sto) (n : Nat) (t : Nat) : Prop where
  lt : n < S.length
  at_ : ∃ (c : List Int) (p b s l u : Int), S = bst S n c p b s l u ∧ c.length ≤ 63 ∧ 0 ≤ p ∧ 0 ≤ b ∧ (0 ≤ s ∧ s < 2 ^ 63) ∧ (0 ≤ u ∧ u ≤ t)
theorem f_draw {S : Sto} {n t : Nat} {m : Int} (B : BOk S n t) (ht : t < 2 ^ 60) (hm : m.natAbs < 2 ^ 1000) : ∃ (k : Int) (S' : Sto), f_law_draw [.ref n, .int m] S = .ok (.int k) S' ∧ (∃ o, S' = put S n o) ∧ BOk S' n (t + 1) ∧ 0 ≤ k ∧ (k < m ∨ m < 2 ∧ k = 0) := by
  obtain ⟨hn, c, p, b, s, l, u, eS, hc, hp, hb, hs, hu⟩ := B
  have key : ∀ (k p' b' s' l' u' : Int), f_law_draw [.ref n, .int m] (bst S n c p b s l u) = .ok (.int k) (bst S n c p' b' s' l' u') → 0 ≤ p' → 0 ≤ b' → (0 ≤ s' ∧ s' < 2 ^ 63) → (0 ≤ u' ∧ u' ≤ t + 1) → 0 ≤ k → (k < m ∨ m < 2 ∧ k = 0) →
      ∃ (k : Int) (S' : Sto), f_law_draw [.ref n, .int m] S = .ok (.int k) S' ∧ (∃ o, S' = put S n o) ∧ BOk S' n (t + 1) ∧ 0 ≤ k ∧ (k < m ∨ m < 2 ∧ k = 0) := fun k p' b' s' l' u' e h1 h2 h3 h4 h5 h6 => by
    rw [← eS] at e
    exact ⟨k, _, e, ⟨_, rfl⟩, ⟨by rw [bst_len]; exact hn, c, p', b', s', l', u', put_put.symm, hc, h1, h2, h3, by push_cast; exact h4⟩, h5, h6⟩
  have fin : ∀ (k p' b' s' l' u' : Int), gcR true (bst S n c p b s l u) (.ok (.int k) (bst S n c p' b' s' l' u')) = .ok (.int k) (bst S n c p' b' s' l' u') := fun k p' b' s' l' u' => gcR_len rfl (by rw [bst_len, bst_len])
  by_cases h2 : m < 2
  · refine key 0 p b s l u ?_ hp hb hs (by omega) (by omega) (.inr ⟨h2, rfl⟩)
    unfold f_law_draw mFun b_law_draw
    simp [startE, h2]
    exact fin ..
  have hm0 : 0 < m := by omega
  have hmd : ∀ (i : Int) (S : Sto), divD (.int i) (.int m) S = .ok (.int (i / m)) S := fun i S => divS i m S hm0 hm
  have hmm : ∀ (i : Int) (S : Sto), modD (.int i) (.int m) S = .ok (.int (i % m)) S := fun i S => modI S i m hm0
  by_cases h3 : 0 < b
  · refine key (b % m) p (b / m) s l (u + 1) ?_ hp (Int.ediv_nonneg hb (by omega)) hs (by omega) (Int.emod_nonneg _ (by omega)) (.inl (Int.emod_lt_of_pos _ hm0))
    have hb0 : b ≠ 0 := by omega
    unfold f_law_draw mFun b_law_draw
    simp [startE, h2, hn, h3, hb0, hmd, hmm]
    exact fin ..
  have hb0 : b = 0 := by omega
  subst hb0
  have tail : ∀ (x : Option D) (p' s' l' : Int), 0 ≤ p' → (0 ≤ s' ∧ s' < 2 ^ 63) → (f_law_draw [.ref n, .int m] (bst S n c p 0 s l u) = gcR true (bst S n c p 0 s l u) (endR (seqO (if 0 < l' then Out.nx [some (.ref n), some (.int m), x, none] (bst S n c p' 0 s' (l' - 1) (u + 1)) else Out.nx [some (.ref n), some (.int m), x, none] (bst S n c p' 0 s' l' (u + 1)))
      (sRet (mBin modD (mCall intD (mCons (mApp 2 f_law_mixed (mCons (mIx (mVar 0) (mCon (.int 3))) (mCons (mIx (mVar 0) (mCon (.int 5))) (mNil)))) (mNil))) (mVar 1)))))) → ∃ (k : Int) (S' : Sto), f_law_draw [.ref n, .int m] S = .ok (.int k) S' ∧ (∃ o, S' = put S n o) ∧ BOk S' n (t + 1) ∧ 0 ≤ k ∧ (k < m ∨ m < 2 ∧ k = 0) := fun x p' s' l' h1 h4 e => by
    by_cases h5 : 0 < l'
    · obtain ⟨z, hz⟩ := f_mixed s' (u + 1) (bst S n c p' 0 s' (l' - 1) (u + 1)) (by omega) (by omega)
      refine key (z % m) p' 0 s' (l' - 1) (u + 1) ?_ h1 (by omega) h4 (by omega) (Int.emod_nonneg _ (by omega)) (.inl (Int.emod_lt_of_pos _ hm0))
      rw [e]
      simp [h5, hn, hz, hmm]
      exact fin ..
    · obtain ⟨z, hz⟩ := f_mixed s' (u + 1) (bst S n c p' 0 s' l' (u + 1)) (by omega) (by omega)
      refine key (z % m) p' 0 s' l' (u + 1) ?_ h1 (by omega) h4 (by omega) (Int.emod_nonneg _ (by omega)) (.inl (Int.emod_lt_of_pos _ hm0))
      rw [e]
      simp [h5, hn, hz, hmm]
      exact fin ..
  by_cases h4 : l = 0 ∧ p < c.length
  · obtain ⟨hl0, hpl⟩ := h4
    subst hl0
    have hpN : p.toNat < c.length := by omega
    have hcell : (c.map D.int)[p.toNat]? = some (.int c[p.toNat]) := by simp [hpN]
    have hix : ∀ S : Sto, ixD (.lst (c.map D.int)) (.int p) S = .ok (.int c[p.toNat]) S := fun S => by
      have := ix_lst (c.map D.int) S p.toNat _ hcell
      rwa [Int.toNat_of_nonneg hp] at this
    generalize c[p.toNat] = q at hix
    generalize hab : (if q < 0 then -q else q) = r
    have hr : 0 ≤ r := by rw [← hab]; split <;> omega
    by_cases h5 : 1000000000000000000 ≤ r
    · have hr0 : 0 < r := by omega
      refine key (r % m) (p + 1) (r / m) s 0 (u + 1) ?_ (by omega) (Int.ediv_nonneg hr (by omega)) hs (by omega) (Int.emod_nonneg _ (by omega)) (.inl (Int.emod_lt_of_pos _ hm0))
      unfold f_law_draw mFun b_law_draw
      simp [startE, h2, hn, hpl, hix, hab, h5, hr0, hmd, hmm]
      exact fin ..
    · have hm2 : ∀ S : Sto, mulD (.int 2) (.int r) S = .ok (.int (2 * r)) S := fun S => mul100 2 r S (by decide) (by omega)
      refine tail (some (.int q)) (p + 1) (2 * r + (if q < 0 then 1 else 0)) 15 (by omega) (by split <;> omega) ?_
      unfold f_law_draw mFun b_law_draw
      simp [startE, h2, hn, hpl, hix, hab, h5, hm2]
  · refine tail none p s l hp hs ?_
    have h5 : l = 0 → ¬ p < c.length := fun h h' => h4 ⟨h, h'⟩
    unfold f_law_draw mFun b_law_draw
    by_cases h6 : l = 0
    · have h7 := h5 h6
      subst h6
      simp [startE, h2, hn, h7]
    · by_cases h8 : 0 < l
      · simp [startE, h2, hn, h6, h8]
      · simp [startE, h2, hn, h6, h8]
theorem f_pick {S : Sto} {n t : Nat} {ds : List D} (B : BOk S n t) (ht : t < 2 ^ 60) (hd : 0 < ds.length) (hl : ds.length < 1000000) : ∃ (d : D) (S' : Sto), f_law_pick [.ref n, .lst ds] S = gcR true S (.ok d S') ∧ (∃ o, S' = put S n o) ∧ BOk S' n (t + 1) ∧ d ∈ ds := by
  obtain ⟨k, S', e, h1, h2, h3, h4⟩ := f_draw (m := ds.length) B ht (by omega)
  have hk : k.toNat < ds.length := by omega
  refine ⟨ds[k.toNat], S', ?_, h1, h2, List.getElem_mem _⟩
  have := ix_lst ds S' k.toNat _ (List.getElem?_eq_getElem hk)
  rw [Int.toNat_of_nonneg h3] at this
  unfold f_law_pick mFun b_law_pick
  simp [startE, e, this]
theorem f_bag {ns : List Int} (h : ns.length ≤ 63) : ∃ S', f_law_bag [.scr (ns.map D.int)] [] = .ok (.ref 0) S' ∧ BOk S' 0 0 := by
  refine ⟨[.lst [.lst (ns.map D.int), .int 0, .int 0, .int (ns.sum % 1000003), .int 0, .int 0]], ?_, ?_⟩
  · unfold f_law_bag mFun b_law_bag
    have h1 : ∀ (S : Sto), sumD [.scr (ns.map D.int)] S = .ok (.int ns.sum) S := fun S => by
      unfold sumD asR
      dsimp only
      rw [asInts_ints]
    simp [startE, mMut, lDisp, mVal, lCopy, asQ, h1, modI, sizeLine_eq]
    show Res.ok (D.ref 0) (gcD [] (.ref 0) _) = _
    unfold gcD
    rw [if_neg (fun h => by cases h.1)]
  · refine ⟨Nat.zero_lt_one, ns, 0, 0, ns.sum % 1000003, 0, 0, rfl, h, by decide, by decide, ⟨Int.emod_nonneg _ (by decide), ?_⟩, by decide, by decide⟩
    have := Int.emod_lt_of_pos ns.sum (show (0 : Int) < 1000003 by decide)
    omega
/-! ### what is done for each -/
inductive All2 (P : D → D → Prop) : List D → List D → Prop
  | nil : All2 P [] []
  | cons {d e : D} {ds es : List D} : P d e → All2 P ds es → All2 P (d :: ds) (e :: es)
theorem All2.len {P : D → D → Prop} : ∀ {ds es : List D}, All2 P ds es → es.length = ds.length
  | _, _, .nil => rfl
  | _, _, .cons _ t => by simp only [List.length_cons, All2.len t]
theorem All2.imp {P Q : D → D → Prop} (h : ∀ d e, P d e → Q d e) : ∀ {ds es : List D}, All2 P ds es → All2 Q ds es
  | _, _, .nil => .nil
  | _, _, .cons p t => .cons (h _ _ p) (All2.imp h t)
theorem All2.right {P : D → D → Prop} {Q : D → Prop} (h : ∀ d e, P d e → Q e) : ∀ {ds es : List D}, All2 P ds es → ∀ e ∈ es, Q e
  | _, _, .nil, _, hm => by cases hm
  | _, _, .cons p t, e, hm => by
    rcases List.mem_cons.mp hm with e' | hm
    · rw [e']; exact h _ _ p
    · exact All2.right h t e hm
theorem comp_run {chk : Sto → Prop} {me : ME} {env : En} {i : Nat} (I : Nat → Sto → Prop) (P : D → D → Prop) (hchk : ∀ j S, I j S → chk S) : ∀ (ds : List D), (∀ j d S, d ∈ ds → I j S → ∃ x S', me (env.set i (some d)) S = .ok x S' ∧ I (j + 1) S' ∧ P d x) →
    ∀ j S, I j S → ∃ xs S', compL chk (.nm i) tYesM me env ds S = .ok xs S' ∧ I (j + ds.length) S' ∧ All2 P ds xs
  | [], _, j, S, h => ⟨[], S, rfl, h, .nil⟩
  | d :: ds, hs, j, S, h => by
    obtain ⟨x, S1, e1, h1, p1⟩ := hs j d S (List.mem_cons_self) h
    obtain ⟨xs, S2, e2, h2, p2⟩ := comp_run I P hchk ds (fun j d S hd => hs j d S (List.mem_cons_of_mem _ hd)) (j + 1) S1 h1
    refine ⟨x :: xs, S2, ?_, by rw [List.length_cons]; rw [show j + (ds.length + 1) = j + 1 + ds.length by omega]; exact h2, .cons p1 p2⟩
    unfold compL
    simp [Tg.put, tYesM, e1, hchk _ _ h1, e2]
theorem comp_map {chk : Sto → Prop} {me : ME} {env : En} {i : Nat} {S : Sto} (f : D → D) (hchk : chk S) (ds : List D) (h : ∀ d ∈ ds, me (env.set i (some d)) S = .ok (f d) S) : compL chk (.nm i) tYesM me env ds S = .ok (ds.map f) S := by
  induction ds with
  | nil => rfl
  | cons d ds ih =>
    unfold compL
    simp [Tg.put, tYesM, h d (List.mem_cons_self), hchk, ih fun d hd => h d (List.mem_cons_of_mem _ hd)]
theorem for_run {chk : Sto → Prop} {b : MS} {i : Nat} (I : Nat → En → Sto → Prop) (hchk : ∀ j env S, I j env S → chk S) : ∀ (ds : List D), (∀ j d env S, d ∈ ds → I j env S → ∃ env' S', b (env.set i (some d)) S = .nx env' S' ∧ I (j + 1) env' S') →
    ∀ j env S, I j env S → ∃ env' S', forL chk (.nm i) b ds env S = .nx env' S' ∧ I (j + ds.length) env' S'
  | [], _, j, env, S, h => ⟨env, S, rfl, h⟩
  | d :: ds, hs, j, env, S, h => by
    obtain ⟨env1, S1, e1, h1⟩ := hs j d env S (List.mem_cons_self) h
    obtain ⟨env2, S2, e2, h2⟩ := for_run I hchk ds (fun j d env S hd => hs j d env S (List.mem_cons_of_mem _ hd)) (j + 1) env1 S1 h1
    refine ⟨env2, S2, ?_, by rw [List.length_cons]; rw [show j + (ds.length + 1) = j + 1 + ds.length by omega]; exact h2⟩
    unfold forL
    simp [Tg.put, e1, hchk _ _ _ h1, e2]
theorem put_put' {S : Sto} {n : Nat} {o : O} {S' : Sto} (h1 : ∃ o, S' = put S n o) (h2 : ∃ o, S = put S' n o → True) : True := trivial
theorem same_trans {S S1 S2 : Sto} {n : Nat} (h1 : ∃ o, S1 = put S n o) (h2 : ∃ o, S2 = put S1 n o) : ∃ o, S2 = put S n o := by
  obtain ⟨o1, rfl⟩ := h1
  obtain ⟨o2, rfl⟩ := h2
  exact ⟨o2, put_put⟩
theorem same_refl {S : Sto} {n t : Nat} (B : BOk S n t) : ∃ o, S = put S n o := by
  obtain ⟨hn, c, p, b, s, l, u, eS, _⟩ := B
  exact ⟨_, eS⟩
theorem BOk.mono {S : Sto} {n t t' : Nat} (B : BOk S n t) (h : t ≤ t') : BOk S n t' := by
  obtain ⟨hn, c, p, b, s, l, u, eS, h1, h2, h3, h4, h5⟩ := B
  exact ⟨hn, c, p, b, s, l, u, eS, h1, h2, h3, h4, h5.1, by omega⟩
end ZT

set_option Elab.async false
set_option linter.all false
set_option maxRecDepth 100000
set_option maxHeartbeats 0
/-! printed by gen.py -/
namespace ZP
open PySem PySem.Spec PyProof.Rows L2 Z
def top (i : Nat) : Stmt := PySem.Challenge.pw_swornlots_k74_plain_texts.main.body.getD i (.Pass ⟨0, 0, 0, 0⟩)
def c_MOST_DIGITS : D := .int 4000
def c_DIGITS : D := .str "0123456789"
def c_MOST_SIGNS : D := .int 12
def c_SIGNS : D := .str "abcdefghijklmnopqrstuvwxyz0123456789"
def c_LETTERS : D := .str "abcdefghijklmnopqrstuvwxyz"
def c_MOST_LEVELS : D := .int 60
def t_SPECIAL : List (Str × D) := [("yes", .bl true), ("no", .bl false), ("none", .non)]
noncomputable def b_law_bag : En → Sto → Out :=
  sRet (mMut (lDisp (mCons (mVal (lCopy (mVar 0))) (mCons (mCon (.int 0)) (mCons (mCon (.int 0)) (mCons (mBin modD (mCall intD (mCons (mCall sumD (mCons (mVar 0) (mNil))) (mNil))) (mCon (.int 1000003))) (mCons (mCon (.int 0)) (mCons (mCon (.int 0)) (mNil)))))))))
noncomputable def f_law_bag : List D → Sto → Res D := mFun false 1 b_law_bag
noncomputable def b_law_is_int : En → Sto → Out :=
  sRet (mAnd (mCall isiD (mCons (mVar 0) (mCons (mCon (.ty .int)) (mNil)))) (mNot (mCall isiD (mCons (mVar 0) (mCons (mCon (.ty .bool)) (mNil))))))
noncomputable def f_law_is_int : List D → Sto → Res D := mFun true 1 b_law_is_int
noncomputable def b_law_p10_same (r_law_p10_same : List D → Sto → Res D) : En → Sto → Out :=
  sCons (sIf (asB (mCall isiD (mCons (mVar 1) (mCons (mCon (.ty .tuple)) (mNil)))))
  (sCons (sIf (tOr2 (tNot2 (asB (mCall isiD (mCons (mVar 0) (mCons (mCon (.ty .tuple)) (mNil)))))) (asB (mBin neD (mCall lenD (mCons (mVar 0) (mNil))) (mCall lenD (mCons (mVar 1) (mNil))))))
  (sRet (mCon (.bl false)))
  (sNil))
  (sRet (mBin eqD (mCall lenD (mCons (mVal (lComp (.nm 2) (iRng1m (mCall lenD (mCons (mVar 1) (mNil)))) (tNot2 (asB (mApp 2 r_law_p10_same (mCons (mIx (mVar 0) (mVar 2)) (mCons (mIx (mVar 1) (mVar 2)) (mNil)))))) (mVar 2) [2])) (mNil))) (mCon (.int 0)))))
  (sNil))
  (sCons (sIf (asB (mBin isD (mVar 1) (mCon .non)))
  (sRet (mBin isD (mVar 0) (mCon .non)))
  (sNil))
  (sCons (sIf (asB (mCall isiD (mCons (mVar 1) (mCons (mCon (.ty .bool)) (mNil)))))
  (sRet (mAnd (mCall isiD (mCons (mVar 0) (mCons (mCon (.ty .bool)) (mNil)))) (mBin eqD (mVar 0) (mVar 1))))
  (sNil))
  (sCons (sIf (asB (mCall isiD (mCons (mVar 1) (mCons (mCon (.ty .str)) (mNil)))))
  (sRet (mAnd (mCall isiD (mCons (mVar 0) (mCons (mCon (.ty .str)) (mNil)))) (mBin eqD (mVar 0) (mVar 1))))
  (sNil))
  (sRet (mAnd (mApp 1 f_law_is_int (mCons (mVar 0) (mNil))) (mBin eqD (mVar 0) (mVar 1)))))))
noncomputable def f_law_p10_same : Nat → List D → Sto → Res D
  | 0 => fun _ _ => .bad
  | n + 1 => mFun true 3 (b_law_p10_same (f_law_p10_same n))
noncomputable def b_law_p10_text (r_law_p10_text : List D → Sto → Res D) : En → Sto → Out :=
  sCons (sIf (asB (mCall isiD (mCons (mVar 0) (mCons (mCon (.ty .tuple)) (mNil)))))
  (sCons (sAsg (.nm 1) (mCon (.str "")))
  (sCons (sFor (.nm 2) (iSeq (mVar 0))
  (sAsg (.nm 1) (mBin addD (mBin addD (mVar 1) (mCon (.str " "))) (mApp 1 r_law_p10_text (mCons (mVar 2) (mNil))))))
  (sRet (mBin addD (mBin addD (mCon (.str "(")) (mSl (mVar 1) (mPart (some (mCon (.int 1)))) (mPart none))) (mCon (.str ")"))))))
  (sNil))
  (sCons (sIf (asB (mBin isD (mVar 0) (mCon .non)))
  (sRet (mCon (.str "none")))
  (sNil))
  (sCons (sIf (asB (mCall isiD (mCons (mVar 0) (mCons (mCon (.ty .bool)) (mNil)))))
  (sRet (mIx (mVal (lDisp (mCons (mCon (.str "no")) (mCons (mCon (.str "yes")) (mNil))))) (mCall intD (mCons (mVar 0) (mNil)))))
  (sNil))
  (sCons (sIf (asB (mCall isiD (mCons (mVar 0) (mCons (mCon (.ty .str)) (mNil)))))
  (sRet (mIf (asB (mBin neD (mVar 0) (mCon (.str "")))) (mVar 0) (mCon (.str "-"))))
  (sNil))
  (sRet (mCall strD (mCons (mVar 0) (mNil)))))))
noncomputable def f_law_p10_text : Nat → List D → Sto → Res D
  | 0 => fun _ _ => .bad
  | n + 1 => mFun true 3 (b_law_p10_text (f_law_p10_text n))
noncomputable def b_law_mixed : En → Sto → Out :=
  sCons (sAsg (.nm 2) (mBin modD (mCall intD (mCons (mBin addD (mBin mulD (mBin addD (mVar 0) (mCon (.int 1))) (mCon (.int 48271))) (mBin mulD (mBin addD (mVar 1) (mCon (.int 1))) (mCon (.int 69621)))) (mNil))) (mCon (.int 2147483647))))
  (sRet (mBin divD (mBin modD (mCall intD (mCons (mBin addD (mBin addD (mBin mulD (mVar 2) (mVar 2)) (mBin mulD (mVar 2) (mCon (.int 16807)))) (mBin mulD (mCon (.int 7)) (mVar 1))) (mNil))) (mCon (.int 2147483629))) (mCon (.int 7))))
noncomputable def f_law_mixed : List D → Sto → Res D := mFun true 3 b_law_mixed
noncomputable def b_law_draw : En → Sto → Out :=
  sCons (sIf (asB (mBin ltD (mVar 1) (mCon (.int 2))))
  (sRet (mCon (.int 0)))
  (sNil))
  (sCons (sSetL (mBin addD (mIx (mVar 0) (mCon (.int 5))) (mCon (.int 1))) (mVar 0) (mCon (.int 5)))
  (sCons (sIf (tAnd2 (asB (mBin eqD (mIx (mVar 0) (mCon (.int 2))) (mCon (.int 0)))) (tAnd2 (asB (mBin eqD (mIx (mVar 0) (mCon (.int 4))) (mCon (.int 0)))) (asB (mBin ltD (mIx (mVar 0) (mCon (.int 1))) (mCall lenD (mCons (mIx (mVar 0) (mCon (.int 0))) (mNil)))))))
  (sCons (sAsg (.nm 2) (mIx (mIx (mVar 0) (mCon (.int 0))) (mIx (mVar 0) (mCon (.int 1)))))
  (sCons (sSetL (mBin addD (mIx (mVar 0) (mCon (.int 1))) (mCon (.int 1))) (mVar 0) (mCon (.int 1)))
  (sIf (asB (mBin geD (mCall absD (mCons (mVar 2) (mNil))) (mBin powD (mCon (.int 10)) (mCon (.int 18)))))
  (sSetL (mCall absD (mCons (mVar 2) (mNil))) (mVar 0) (mCon (.int 2)))
  (sCons (sSetL (mBin addD (mBin mulD (mCon (.int 2)) (mCall absD (mCons (mVar 2) (mNil)))) (mCall intD (mCons (mBin ltD (mVar 2) (mCon (.int 0))) (mNil)))) (mVar 0) (mCon (.int 3)))
  (sSetL (mCon (.int 15)) (mVar 0) (mCon (.int 4)))))))
  (sNil))
  (sCons (sIf (asB (mBin gtD (mIx (mVar 0) (mCon (.int 2))) (mCon (.int 0))))
  (sCons (sAsg (.nm 3) (mBin modD (mCall intD (mCons (mIx (mVar 0) (mCon (.int 2))) (mNil))) (mVar 1)))
  (sCons (sSetL (mBin divD (mIx (mVar 0) (mCon (.int 2))) (mVar 1)) (mVar 0) (mCon (.int 2)))
  (sRet (mVar 3))))
  (sNil))
  (sCons (sIf (asB (mBin gtD (mIx (mVar 0) (mCon (.int 4))) (mCon (.int 0))))
  (sSetL (mBin subD (mIx (mVar 0) (mCon (.int 4))) (mCon (.int 1))) (mVar 0) (mCon (.int 4)))
  (sNil))
  (sRet (mBin modD (mCall intD (mCons (mApp 2 f_law_mixed (mCons (mIx (mVar 0) (mCon (.int 3))) (mCons (mIx (mVar 0) (mCon (.int 5))) (mNil)))) (mNil))) (mVar 1)))))))
noncomputable def f_law_draw : List D → Sto → Res D := mFun true 4 b_law_draw
noncomputable def b_law_pick : En → Sto → Out :=
  sRet (mIx (mVar 1) (mApp 2 f_law_draw (mCons (mVar 0) (mCons (mCall lenD (mCons (mVar 1) (mNil))) (mNil)))))
noncomputable def f_law_pick : List D → Sto → Res D := mFun true 2 b_law_pick
noncomputable def b_law_p10_number : En → Sto → Out :=
  sCons (sAsg (.nm 1) (mApp 2 f_law_draw (mCons (mVar 0) (mCons (mCon (.int 8)) (mNil)))))
  (sCons (sAsg (.nm 2) (mApp 2 f_law_draw (mCons (mVar 0) (mCons (mCon (.int 12)) (mNil)))))
  (sCons (sIf (asB (mBin eqD (mVar 1) (mCon (.int 1))))
  (sAsg (.nm 2) (mApp 2 f_law_draw (mCons (mVar 0) (mCons (mBin powD (mCon (.int 10)) (mCon (.int 40))) (mNil)))))
  (sNil))
  (sCons (sIf (asB (mBin eqD (mVar 1) (mCon (.int 2))))
  (sAsg (.nm 2) (mCall intD (mCons (mBin addD (mCall strD (mCons (mBin addD (mCon (.int 1)) (mApp 2 f_law_draw (mCons (mVar 0) (mCons (mCon (.int 999)) (mNil))))) (mNil))) (mBin mulD (mCall strD (mCons (mApp 2 f_law_draw (mCons (mVar 0) (mCons (mCon (.int 10)) (mNil)))) (mNil))) (mApp 2 f_law_draw (mCons (mVar 0) (mCons (mCon (.int 40)) (mNil)))))) (mNil))))
  (sNil))
  (sCons (sIf (tAnd2 (asB (mBin eqD (mVar 1) (mCon (.int 3)))) (asB (mBin eqD (mApp 2 f_law_draw (mCons (mVar 0) (mCons (mCon (.int 6)) (mNil)))) (mCon (.int 5)))))
  (sAsg (.nm 2) (mCall intD (mCons (mBin addD (mCall strD (mCons (mBin addD (mCon (.int 1)) (mApp 2 f_law_draw (mCons (mVar 0) (mCons (mCon (.int 9)) (mNil))))) (mNil))) (mBin mulD (mCall strD (mCons (mApp 2 f_law_draw (mCons (mVar 0) (mCons (mCon (.int 10)) (mNil)))) (mNil))) (mApp 2 f_law_pick (mCons (mVar 0) (mCons (mVal (lDisp (mCons (mCon (.int 399)) (mCons (mCon (.int 400)) (mCons (mCon (.int 3998)) (mCons (mCon (.int 3999)) (mNil))))))) (mNil)))))) (mNil))))
  (sNil))
  (sCons (sIf (asB (mBin eqD (mApp 2 f_law_draw (mCons (mVar 0) (mCons (mCon (.int 3)) (mNil)))) (mCon (.int 1))))
  (sRet (mUn negD (mVar 2)))
  (sNil))
  (sRet (mVar 2)))))))
noncomputable def f_law_p10_number : List D → Sto → Res D := mFun true 3 b_law_p10_number
noncomputable def b_law_p10_word : En → Sto → Out :=
  sCons (sAsg (.nm 1) (mCon (.str "abcdefghijklmnopqrstuvwxyz")))
  (sCons (sAsg (.nm 2) (mApp 2 f_law_pick (mCons (mVar 0) (mCons (mVal (lDisp (mCons (mCon (.int 1)) (mCons (mCon (.int 2)) (mCons (mCon (.int 3)) (mCons (mCon (.int 4)) (mCons (mBin addD (mCon (.int 5)) (mApp 2 f_law_draw (mCons (mVar 0) (mCons (mCon (.int 8)) (mNil))))) (mCons (mCon (.int 12)) (mNil))))))))) (mNil)))))
  (sCons (sAsg (.nm 3) (mIx (mVar 1) (mApp 2 f_law_draw (mCons (mVar 0) (mCons (mCon (.int 26)) (mNil))))))
  (sCons (sFor (.nm 4) (iRng1m (mBin subD (mVar 2) (mCon (.int 1))))
  (sAsg (.nm 3) (mBin addD (mVar 3) (mIx (mBin addD (mVar 1) (mCon (.str "0123456789"))) (mApp 2 f_law_draw (mCons (mVar 0) (mCons (mCon (.int 36)) (mNil))))))))
  (sCons (sIf (asB (mBin eqD (mApp 2 f_law_draw (mCons (mVar 0) (mCons (mCon (.int 9)) (mNil)))) (mCon (.int 4))))
  (sAsg (.nm 3) (mApp 2 f_law_pick (mCons (mVar 0) (mCons (mVal (lDisp (mCons (mCon (.str "y")) (mCons (mCon (.str "n")) (mCons (mCon (.str "ye")) (mCons (mCon (.str "yess")) (mCons (mCon (.str "yes1")) (mCons (mCon (.str "non")) (mCons (mCon (.str "nones")) (mCons (mCon (.str "no1")) (mCons (mCon (.str "noneyesno")) (mCons (mCon (.str "z9")) (mCons (mCon (.str "a")) (mCons (mCon (.str "none0")) (mNil))))))))))))))) (mNil)))))
  (sNil))
  (sCons (sIf (asB (mBin inD (mVar 3) (mVal (lDisp (mCons (mCon (.str "yes")) (mCons (mCon (.str "no")) (mCons (mCon (.str "none")) (mNil))))))))
  (sRet (mBin addD (mVar 3) (mCon (.str "x"))))
  (sNil))
  (sRet (mVar 3)))))))
noncomputable def f_law_p10_word : List D → Sto → Res D := mFun true 5 b_law_p10_word
noncomputable def b_law_p10_atom : En → Sto → Out :=
  sCons (sAsg (.nm 1) (mApp 2 f_law_draw (mCons (mVar 0) (mCons (mCon (.int 9)) (mNil)))))
  (sCons (sIf (asB (mBin ltD (mVar 1) (mCon (.int 3))))
  (sRet (mApp 1 f_law_p10_word (mCons (mVar 0) (mNil))))
  (sNil))
  (sCons (sIf (asB (mBin eqD (mVar 1) (mCon (.int 3))))
  (sRet (mCon (.str "")))
  (sNil))
  (sCons (sIf (asB (mBin eqD (mVar 1) (mCon (.int 4))))
  (sRet (mCon .non))
  (sNil))
  (sCons (sIf (asB (mBin eqD (mVar 1) (mCon (.int 5))))
  (sRet (mBin eqD (mApp 2 f_law_draw (mCons (mVar 0) (mCons (mCon (.int 2)) (mNil)))) (mCon (.int 1))))
  (sNil))
  (sRet (mApp 1 f_law_p10_number (mCons (mVar 0) (mNil))))))))
noncomputable def f_law_p10_atom : List D → Sto → Res D := mFun true 2 b_law_p10_atom
noncomputable def b_law_p10_value (r_law_p10_value : List D → Sto → Res D) : En → Sto → Out :=
  sCons (sIf (tOr2 (asB (mBin eqD (mVar 1) (mCon (.int 0)))) (asB (mBin eqD (mApp 2 f_law_draw (mCons (mVar 0) (mCons (mCon (.int 4)) (mNil)))) (mCon (.int 3)))))
  (sRet (mApp 1 f_law_p10_atom (mCons (mVar 0) (mNil))))
  (sNil))
  (sRet (mCall tupD (mCons (mVal (lComp (.nm 2) (iRng1m (mApp 2 f_law_draw (mCons (mVar 0) (mCons (mCon (.int 5)) (mNil))))) (tYesM) (mApp 2 r_law_p10_value (mCons (mVar 0) (mCons (mBin subD (mVar 1) (mCon (.int 1))) (mNil)))) [2])) (mNil))))
noncomputable def f_law_p10_value : Nat → List D → Sto → Res D
  | 0 => fun _ _ => .bad
  | n + 1 => mFun true 3 (b_law_p10_value (f_law_p10_value n))
noncomputable def b_law_p10_wrapped : En → Sto → Out :=
  sCons (sAsg (.nm 3) (mApp 2 f_law_pick (mCons (mVar 0) (mCons (mVal (lDisp (mCons (mCon (.int 0)) (mCons (mCon (.int 0)) (mCons (mCall minD (mCons (mVar 2) (mCons (mBin addD (mCon (.int 1)) (mApp 2 f_law_draw (mCons (mVar 0) (mCons (mCon (.int 8)) (mNil))))) (mNil)))) (mCons (mApp 2 f_law_draw (mCons (mVar 0) (mCons (mBin addD (mVar 2) (mCon (.int 1))) (mNil)))) (mCons (mVar 2) (mNil)))))))) (mNil)))))
  (sCons (sFor (.nm 4) (iRng1m (mVar 3))
  (sCons (sAsg (.nm 5) (mApp 2 f_law_draw (mCons (mVar 0) (mCons (mCon (.int 4)) (mNil)))))
  (sIf (asB (mBin ltD (mVar 5) (mCon (.int 2))))
  (sAsg (.nm 1) (mTup (mCons (mVar 1) (mNil))))
  (sIf (asB (mBin eqD (mVar 5) (mCon (.int 2))))
  (sAsg (.nm 1) (mTup (mCons (mApp 2 f_law_pick (mCons (mVar 0) (mCons (mVal (lDisp (mCons (mCon (.str "")) (mCons (mCon (.str "a")) (mCons (mCon (.int 0)) (mCons (mCon .non) (mCons (mCon (.bl true)) (mCons (mTup (mNil)) (mNil))))))))) (mNil)))) (mCons (mVar 1) (mNil)))))
  (sAsg (.nm 1) (mTup (mCons (mVar 1) (mCons (mApp 2 f_law_pick (mCons (mVar 0) (mCons (mVal (lDisp (mCons (mCon (.int 7)) (mCons (mCon (.str "no1")) (mCons (mCon (.bl false)) (mCons (mCon (.str "")) (mCons (mUn negD (mCon (.int 1))) (mNil)))))))) (mNil)))) (mNil)))))))))
  (sRet (mVar 1)))
noncomputable def f_law_p10_wrapped : List D → Sto → Res D := mFun true 6 b_law_p10_wrapped
noncomputable def b_is_at : En → Sto → Out :=
  sRet (mAnd (mBin ltD (mVar 1) (mCall lenD (mCons (mVar 0) (mNil)))) (mBin eqD (mIx (mVar 0) (mVar 1)) (mVar 2)))
noncomputable def f_is_at : List D → Sto → Res D := mFun true 3 b_is_at
noncomputable def b_end_of : En → Sto → Out :=
  sCons (sAsg (.nm 4) (mVar 1))
  (sCons (sWhile (tAnd2 (asB (mBin ltD (mVar 4) (mCall lenD (mCons (mVar 0) (mNil))))) (tAnd2 (asB (mBin ltD (mBin subD (mVar 4) (mVar 1)) (mVar 3))) (asB (mBin inD (mIx (mVar 0) (mVar 4)) (mVar 2)))))
  (sAsg (.nm 4) (mBin addD (mVar 4) (mCon (.int 1)))))
  (sRet (mVar 4)))
noncomputable def f_end_of : List D → Sto → Res D := mFun true 5 b_end_of
noncomputable def b_read_number : En → Sto → Out :=
  sCons (sIf (asB (mBin eqD (mIx (mVar 0) (mVar 1)) (mCon (.str "0"))))
  (sRet (mTup (mCons (mCon (.int 0)) (mCons (mBin addD (mVar 1) (mCon (.int 1))) (mNil)))))
  (sNil))
  (sCons (sAsg (.nm 2) (mApp 4 f_end_of (mCons (mVar 0) (mCons (mVar 1) (mCons (mCon c_DIGITS) (mCons (mCon c_MOST_DIGITS) (mNil)))))))
  (sRet (mTup (mCons (mCall intD (mCons (mSl (mVar 0) (mPart (some (mVar 1))) (mPart (some (mVar 2)))) (mNil))) (mCons (mVar 2) (mNil))))))
noncomputable def f_read_number : List D → Sto → Res D := mFun true 3 b_read_number
noncomputable def b_read_sign : En → Sto → Out :=
  sCons (sIf (tAnd2 (asB (mBin ltD (mBin addD (mVar 1) (mCon (.int 1))) (mCall lenD (mCons (mVar 0) (mNil))))) (asB (mBin inD (mIx (mVar 0) (mBin addD (mVar 1) (mCon (.int 1)))) (mCon (.str "123456789")))))
  (sCons (sAsg (.tp [2, 3]) (mApp 2 f_read_number (mCons (mVar 0) (mCons (mBin addD (mVar 1) (mCon (.int 1))) (mNil)))))
  (sRet (mTup (mCons (mUn negD (mVar 2)) (mCons (mVar 3) (mNil))))))
  (sNil))
  (sRet (mTup (mCons (mCon (.str "")) (mCons (mBin addD (mVar 1) (mCon (.int 1))) (mNil)))))
noncomputable def f_read_sign : List D → Sto → Res D := mFun true 4 b_read_sign
noncomputable def b_read_word : En → Sto → Out :=
  sCons (sAsg (.nm 2) (mApp 4 f_end_of (mCons (mVar 0) (mCons (mVar 1) (mCons (mCon c_SIGNS) (mCons (mCon c_MOST_SIGNS) (mNil)))))))
  (sCons (sAsg (.nm 3) (mSl (mVar 0) (mPart (some (mVar 1))) (mPart (some (mVar 2)))))
  (sCons (sIf (asB (mTab tabIn t_SPECIAL (mVar 3)))
  (sRet (mTup (mCons (mTab tabIx t_SPECIAL (mVar 3)) (mCons (mVar 2) (mNil)))))
  (sNil))
  (sRet (mTup (mCons (mVar 3) (mCons (mVar 2) (mNil)))))))
noncomputable def f_read_word : List D → Sto → Res D := mFun true 4 b_read_word
noncomputable def b_read_piece : En → Sto → Out :=
  sCons (sIf (asB (mBin geD (mVar 1) (mCall lenD (mCons (mVar 0) (mNil)))))
  (sBad)
  (sNil))
  (sCons (sIf (asB (mBin inD (mIx (mVar 0) (mVar 1)) (mCon c_LETTERS)))
  (sRet (mApp 2 f_read_word (mCons (mVar 0) (mCons (mVar 1) (mNil)))))
  (sNil))
  (sCons (sIf (asB (mBin inD (mIx (mVar 0) (mVar 1)) (mCon c_DIGITS)))
  (sRet (mApp 2 f_read_number (mCons (mVar 0) (mCons (mVar 1) (mNil)))))
  (sNil))
  (sCons (sIf (asB (mBin eqD (mIx (mVar 0) (mVar 1)) (mCon (.str "-"))))
  (sRet (mApp 2 f_read_sign (mCons (mVar 0) (mCons (mVar 1) (mNil)))))
  (sNil))
  (sBad))))
noncomputable def f_read_piece : List D → Sto → Res D := mFun true 2 b_read_piece
noncomputable def b_read_plain : En → Sto → Out :=
  sCons (sAsg (.nm 1) (mMut (lDisp (mNil))))
  (sCons (sAsg (.nm 2) (mCon (.int 0)))
  (sWhile (asB (mCon (.bl true)))
  (sCons (sIf (tAnd2 (asB (mApp 3 f_is_at (mCons (mVar 0) (mCons (mVar 2) (mCons (mCon (.str "(")) (mNil)))))) (asB (mBin ltD (mCall lenD (mCons (mVar 1) (mNil))) (mCon c_MOST_LEVELS))))
  (sCons (sExpr (mAppend (mVar 1) (mMut (lDisp (mNil)))))
  (sCons (sAsg (.nm 2) (mBin addD (mVar 2) (mCon (.int 1))))
  (sCons (sIf (tNot2 (asB (mApp 3 f_is_at (mCons (mVar 0) (mCons (mVar 2) (mCons (mCon (.str ")")) (mNil)))))))
  (sCnt)
  (sNil))
  (sCons (sExpr (mPop (mVar 1)))
  (sCons (sAsg (.nm 3) (mTup (mNil)))
  (sAsg (.nm 2) (mBin addD (mVar 2) (mCon (.int 1)))))))))
  (sAsg (.tp [3, 2]) (mApp 2 f_read_piece (mCons (mVar 0) (mCons (mVar 2) (mNil))))))
  (sCons (sWhile (tAnd2 (asB (mBin gtD (mCall lenD (mCons (mVar 1) (mNil))) (mCon (.int 0)))) (asB (mApp 3 f_is_at (mCons (mVar 0) (mCons (mVar 2) (mCons (mCon (.str ")")) (mNil)))))))
  (sCons (sAsg (.nm 3) (mCall tupD (mCons (mBin addD (mPop (mVar 1)) (mVal (lDisp (mCons (mVar 3) (mNil))))) (mNil))))
  (sAsg (.nm 2) (mBin addD (mVar 2) (mCon (.int 1))))))
  (sCons (sIf (asB (mBin eqD (mCall lenD (mCons (mVar 1) (mNil))) (mCon (.int 0))))
  (sCons (sIf (asB (mBin ltD (mVar 2) (mCall lenD (mCons (mVar 0) (mNil)))))
  (sBad)
  (sNil))
  (sRet (mVar 3)))
  (sNil))
  (sCons (sIf (tNot2 (asB (mApp 3 f_is_at (mCons (mVar 0) (mCons (mVar 2) (mCons (mCon (.str " ")) (mNil)))))))
  (sBad)
  (sNil))
  (sCons (sExpr (mAppend (mIx (mVar 1) (mUn negD (mCon (.int 1)))) (mVar 3)))
  (sAsg (.nm 2) (mBin addD (mVar 2) (mCon (.int 1)))))))))))
noncomputable def f_read_plain : List D → Sto → Res D := mFun true 4 b_read_plain
noncomputable def b_write_plain (r_write_plain : List D → Sto → Res D) : En → Sto → Out :=
  sCons (sIf (asB (mCall isiD (mCons (mVar 0) (mCons (mCon (.ty .tuple)) (mNil)))))
  (sRet (mBin addD (mBin addD (mCon (.str "(")) (mJoin (mCon (.str " ")) (mVal (lComp (.nm 1) (iSeq (mVar 0)) (tYesM) (mApp 1 r_write_plain (mCons (mVar 1) (mNil))) [1])))) (mCon (.str ")"))))
  (sNil))
  (sCons (sIf (asB (mBin isD (mVar 0) (mCon .non)))
  (sRet (mCon (.str "none")))
  (sNil))
  (sCons (sIf (asB (mBin isD (mVar 0) (mCon (.bl true))))
  (sRet (mCon (.str "yes")))
  (sNil))
  (sCons (sIf (asB (mBin isD (mVar 0) (mCon (.bl false))))
  (sRet (mCon (.str "no")))
  (sNil))
  (sCons (sIf (asB (mCall isiD (mCons (mVar 0) (mCons (mCon (.ty .int)) (mNil)))))
  (sRet (mCall strD (mCons (mVar 0) (mNil))))
  (sNil))
  (sCons (sIf (asB (mBin eqD (mVar 0) (mCon (.str ""))))
  (sRet (mCon (.str "-")))
  (sNil))
  (sRet (mVar 0)))))))
noncomputable def f_write_plain : Nat → List D → Sto → Res D
  | 0 => fun _ _ => .bad
  | n + 1 => mFun true 2 (b_write_plain (f_write_plain n))
noncomputable def b_law : En → Sto → Out :=
  sCons (sAsg (.nm 1) (mApp 1 f_law_bag (mCons (mVar 0) (mNil))))
  (sCons (sAsg (.nm 2) (if false then mMut (lComp (.nm 4) (iRng1m (mCon (.int 3))) (tYesM) (mApp 3 f_law_p10_wrapped (mCons (mVar 1) (mCons (mApp 2 (f_law_p10_value 4) (mCons (mVar 1) (mCons (mCon (.int 3)) (mNil)))) (mCons (mCon (.int 57)) (mNil))))) [4]) else mVal (lComp (.nm 4) (iRng1m (mCon (.int 3))) (tYesM) (mApp 3 f_law_p10_wrapped (mCons (mVar 1) (mCons (mApp 2 (f_law_p10_value 4) (mCons (mVar 1) (mCons (mCon (.int 3)) (mNil)))) (mCons (mCon (.int 57)) (mNil))))) [4])))
  (sCons (sAsg (.nm 3) (if false then mMut (lComp (.nm 7) (iSeq (mVar 2)) (tYesM) (mApp 1 (f_law_p10_text 64) (mCons (mVar 7) (mNil))) [7]) else mVal (lComp (.nm 7) (iSeq (mVar 2)) (tYesM) (mApp 1 (f_law_p10_text 64) (mCons (mVar 7) (mNil))) [7])))
  (sCons (sFor (.nm 4) (iSeq (mVal (lDisp (mCons (mCon (.int 0)) (mCons (mCon (.int 1)) (mCons (mCon (.int 2)) (mCons (mCon (.int 0)) (mCons (mCon (.int 2)) (mCons (mCon (.int 1)) (mNil))))))))))
  (sCons (sAsg (.nm 5) (mApp 1 (f_write_plain 64) (mCons (mIx (mVar 2) (mVar 4)) (mNil))))
  (sCons (sIf (tOr2 (tNot2 (asB (mCall isiD (mCons (mVar 5) (mCons (mCon (.ty .str)) (mNil)))))) (asB (mBin neD (mVar 5) (mIx (mVar 3) (mVar 4)))))
  (sRet (mCon (.bl false)))
  (sNil))
  (sCons (sAsg (.nm 6) (mApp 1 f_read_plain (mCons (mIx (mVar 3) (mVar 4)) (mNil))))
  (sIf (tOr2 (tNot2 (asB (mApp 2 (f_law_p10_same 64) (mCons (mVar 6) (mCons (mIx (mVar 2) (mVar 4)) (mNil)))))) (asB (mBin neD (mApp 1 (f_write_plain 64) (mCons (mVar 6) (mNil))) (mIx (mVar 3) (mVar 4)))))
  (sRet (mCon (.bl false)))
  (sNil))))))
  (sRet (mCon (.bl true))))))
noncomputable def f_law : List D → Sto → Res D := mFun true 8 b_law
def FR : List Str := ["sum", "int", "list", "isinstance", "bool", "tuple", "len", "range", "str", "abs", "min"]
def CO : List (Str × D) := [("MOST_DIGITS", c_MOST_DIGITS), ("DIGITS", c_DIGITS), ("MOST_SIGNS", c_MOST_SIGNS), ("SIGNS", c_SIGNS), ("LETTERS", c_LETTERS), ("MOST_LEVELS", c_MOST_LEVELS)]
def TB : List (Str × List (Str × D)) := [("SPECIAL", t_SPECIAL)]
structure Gb (w : World) (T : Wp) (mg : Str → Option Value) : Prop where
  fr : ∀ x ∈ FR, mg x = none
  co : ∀ q ∈ CO, GlG mg T q.1 q.2
  tb : ∀ q ∈ TB, TabG mg T w q.1 q.2
  dg : DgOk T.K
  fd_law_bag : ∃ (f : Addr) (fd : FuncData), FunD T.K "_law_bag" "_law_bag" (defArgs (top 20)) (defBody (top 20)) (defScope (top 20)) [] [] f fd ∧ mg "_law_bag" = some (.ref f)
  fd_law_is_int : ∃ (f : Addr) (fd : FuncData), FunD T.K "_law_is_int" "_law_is_int" (defArgs (top 24)) (defBody (top 24)) (defScope (top 24)) [] [] f fd ∧ mg "_law_is_int" = some (.ref f)
  fd_law_p10_same : ∃ (f : Addr) (fd : FuncData), FunD T.K "_law_p10_same" "_law_p10_same" (defArgs (top 31)) (defBody (top 31)) (defScope (top 31)) [] [] f fd ∧ mg "_law_p10_same" = some (.ref f)
  fd_law_p10_text : ∃ (f : Addr) (fd : FuncData), FunD T.K "_law_p10_text" "_law_p10_text" (defArgs (top 30)) (defBody (top 30)) (defScope (top 30)) [] [] f fd ∧ mg "_law_p10_text" = some (.ref f)
  fd_law_mixed : ∃ (f : Addr) (fd : FuncData), FunD T.K "_law_mixed" "_law_mixed" (defArgs (top 21)) (defBody (top 21)) (defScope (top 21)) [] [] f fd ∧ mg "_law_mixed" = some (.ref f)
  fd_law_draw : ∃ (f : Addr) (fd : FuncData), FunD T.K "_law_draw" "_law_draw" (defArgs (top 22)) (defBody (top 22)) (defScope (top 22)) [] [] f fd ∧ mg "_law_draw" = some (.ref f)
  fd_law_pick : ∃ (f : Addr) (fd : FuncData), FunD T.K "_law_pick" "_law_pick" (defArgs (top 23)) (defBody (top 23)) (defScope (top 23)) [] [] f fd ∧ mg "_law_pick" = some (.ref f)
  fd_law_p10_number : ∃ (f : Addr) (fd : FuncData), FunD T.K "_law_p10_number" "_law_p10_number" (defArgs (top 26)) (defBody (top 26)) (defScope (top 26)) [] [] f fd ∧ mg "_law_p10_number" = some (.ref f)
  fd_law_p10_word : ∃ (f : Addr) (fd : FuncData), FunD T.K "_law_p10_word" "_law_p10_word" (defArgs (top 25)) (defBody (top 25)) (defScope (top 25)) [] [] f fd ∧ mg "_law_p10_word" = some (.ref f)
  fd_law_p10_atom : ∃ (f : Addr) (fd : FuncData), FunD T.K "_law_p10_atom" "_law_p10_atom" (defArgs (top 27)) (defBody (top 27)) (defScope (top 27)) [] [] f fd ∧ mg "_law_p10_atom" = some (.ref f)
  fd_law_p10_value : ∃ (f : Addr) (fd : FuncData), FunD T.K "_law_p10_value" "_law_p10_value" (defArgs (top 28)) (defBody (top 28)) (defScope (top 28)) [] [] f fd ∧ mg "_law_p10_value" = some (.ref f)
  fd_law_p10_wrapped : ∃ (f : Addr) (fd : FuncData), FunD T.K "_law_p10_wrapped" "_law_p10_wrapped" (defArgs (top 29)) (defBody (top 29)) (defScope (top 29)) [] [] f fd ∧ mg "_law_p10_wrapped" = some (.ref f)
  fd_is_at : ∃ (f : Addr) (fd : FuncData), FunD T.K "is_at" "is_at" (defArgs (top 17)) (defBody (top 17)) (defScope (top 17)) [] [] f fd ∧ mg "is_at" = some (.ref f)
  fd_end_of : ∃ (f : Addr) (fd : FuncData), FunD T.K "end_of" "end_of" (defArgs (top 12)) (defBody (top 12)) (defScope (top 12)) [] [] f fd ∧ mg "end_of" = some (.ref f)
  fd_read_number : ∃ (f : Addr) (fd : FuncData), FunD T.K "read_number" "read_number" (defArgs (top 14)) (defBody (top 14)) (defScope (top 14)) [] [] f fd ∧ mg "read_number" = some (.ref f)
  fd_read_sign : ∃ (f : Addr) (fd : FuncData), FunD T.K "read_sign" "read_sign" (defArgs (top 15)) (defBody (top 15)) (defScope (top 15)) [] [] f fd ∧ mg "read_sign" = some (.ref f)
  fd_read_word : ∃ (f : Addr) (fd : FuncData), FunD T.K "read_word" "read_word" (defArgs (top 13)) (defBody (top 13)) (defScope (top 13)) [] [] f fd ∧ mg "read_word" = some (.ref f)
  fd_read_piece : ∃ (f : Addr) (fd : FuncData), FunD T.K "read_piece" "read_piece" (defArgs (top 16)) (defBody (top 16)) (defScope (top 16)) [] [] f fd ∧ mg "read_piece" = some (.ref f)
  fd_read_plain : ∃ (f : Addr) (fd : FuncData), FunD T.K "read_plain" "read_plain" (defArgs (top 18)) (defBody (top 18)) (defScope (top 18)) [] [] f fd ∧ mg "read_plain" = some (.ref f)
  fd_write_plain : ∃ (f : Addr) (fd : FuncData), FunD T.K "write_plain" "write_plain" (defArgs (top 11)) (defBody (top 11)) (defScope (top 11)) [] [] f fd ∧ mg "write_plain" = some (.ref f)
  fd_law : ∃ (f : Addr) (fd : FuncData), FunD T.K "law" "law" (defArgs (top 32)) (defBody (top 32)) (defScope (top 32)) [] [] f fd ∧ mg "law" = some (.ref f)
theorem sc_law_bag : FnScope ["_law_script"] ["_law_script"] (defScope (top 20)) := ⟨rfl, rfl, rfl, by decide +kernel, rfl, by decide +kernel, by decide +kernel⟩
noncomputable def ca_law_bag : Ca := ⟨["_law_script"], defScope (top 20), defScope (top 20), [], [], true, FR, CO, [], TB⟩
theorem q_law_bag : (cs 60).b (ca_law_bag) (defBody (top 20)) = some (b_law_bag) := by kernel_rfl
theorem g_law_bag {P : Program} {w : World} {mg : Str → Option Value} {base : Heap} {T : Wp} (G : Gb w T mg) : FnG P w mg base T 1 "_law_bag" 1 f_law_bag := by
  obtain ⟨fa, fd, F, hm⟩ := G.fd_law_bag
  exact fn_any (k := 0) F sc_law_bag rfl rfl hm (fun _ _ _ _ _ _ us hl => match us, hl with | [_], _ => rfl) (fun X W C po => (cs_ok 60).b (A := ca_law_bag) C ⟨G.fr, G.co, fnsOk_mem trivial, G.tb, G.dg⟩ po (q_law_bag))
theorem sc_law_is_int : FnScope ["_law_thing"] ["_law_thing"] (defScope (top 24)) := ⟨rfl, rfl, rfl, by decide +kernel, rfl, by decide +kernel, by decide +kernel⟩
noncomputable def ca_law_is_int : Ca := ⟨["_law_thing"], defScope (top 24), defScope (top 24), [], [], false, FR, CO, [], TB⟩
theorem q_law_is_int : (cs 60).b (ca_law_is_int) (defBody (top 24)) = some (b_law_is_int) := by kernel_rfl
theorem g_law_is_int {P : Program} {w : World} {mg : Str → Option Value} {base : Heap} {T : Wp} (G : Gb w T mg) : FnG P w mg base T 1 "_law_is_int" 1 f_law_is_int := by
  obtain ⟨fa, fd, F, hm⟩ := G.fd_law_is_int
  exact fn_any (k := 0) F sc_law_is_int rfl rfl hm (fun _ _ _ _ _ _ us hl => match us, hl with | [_], _ => rfl) (fun X W C po => (cs_ok 60).b (A := ca_law_is_int) C ⟨G.fr, G.co, fnsOk_mem trivial, G.tb, G.dg⟩ po (q_law_is_int))
theorem sc_law_p10_same : FnScope ["_law_actual", "_law_due", "_law_k"] ["_law_actual", "_law_due"] (defScope (top 31)) := ⟨rfl, rfl, rfl, by decide +kernel, rfl, by decide +kernel, by decide +kernel⟩
noncomputable def ca_law_p10_same (r_law_p10_same : List D → Sto → Res D) : Ca := ⟨["_law_actual", "_law_due", "_law_k"], defScope (top 31), defScope (top 31), [], [], false, FR, CO, [("_law_is_int", (1, f_law_is_int)), ("_law_p10_same", (2, r_law_p10_same))], TB⟩
theorem q_law_p10_same (r_law_p10_same : List D → Sto → Res D) : (cs 60).b (ca_law_p10_same r_law_p10_same) (defBody (top 31)) = some (b_law_p10_same r_law_p10_same) := by kernel_rfl
theorem gs_law_p10_same {P : Program} {w : World} {mg : Str → Option Value} {base : Heap} {T : Wp} (G : Gb w T mg) : ∀ n : Nat, FnG P w mg base T (1 + n) "_law_p10_same" 2 (f_law_p10_same n)
  | 0 => by
    obtain ⟨fa_law_p10_same, fd_law_p10_same, F_law_p10_same, hm_law_p10_same⟩ := G.fd_law_p10_same
    exact fn_bad (ps := ["_law_actual", "_law_due"]) F_law_p10_same rfl hm_law_p10_same (fun _ _ _ _ _ _ us hl => match us, hl with | [_, _], _ => rfl)
  | n + 1 => by
    obtain ⟨fa_law_p10_same, fd_law_p10_same, F_law_p10_same, hm_law_p10_same⟩ := G.fd_law_p10_same
    have hr_law_p10_same : FnG P w mg base T (1 + n) "_law_p10_same" 2 (f_law_p10_same n) := (gs_law_p10_same G n)
    exact fn_any (k := 1 + n) F_law_p10_same sc_law_p10_same rfl rfl hm_law_p10_same (fun _ _ _ _ _ _ us hl => match us, hl with | [_, _], _ => rfl) (fun X W C po => (cs_ok 60).b (A := ca_law_p10_same (f_law_p10_same n)) C ⟨G.fr, G.co, fnsOk_mem ⟨(g_law_is_int G).mono (by omega), hr_law_p10_same, trivial⟩, G.tb, G.dg⟩ po (q_law_p10_same (f_law_p10_same n)))
theorem g_law_p10_same {P : Program} {w : World} {mg : Str → Option Value} {base : Heap} {T : Wp} (G : Gb w T mg) (n : Nat) : FnG P w mg base T (1 + n) "_law_p10_same" 2 (f_law_p10_same n) := (gs_law_p10_same G n)
theorem sc_law_p10_text : FnScope ["_law_value", "_law_text", "_law_part"] ["_law_value"] (defScope (top 30)) := ⟨rfl, rfl, rfl, by decide +kernel, rfl, by decide +kernel, by decide +kernel⟩
noncomputable def ca_law_p10_text (r_law_p10_text : List D → Sto → Res D) : Ca := ⟨["_law_value", "_law_text", "_law_part"], defScope (top 30), defScope (top 30), [], [], false, FR, CO, [("_law_p10_text", (1, r_law_p10_text))], TB⟩
theorem q_law_p10_text (r_law_p10_text : List D → Sto → Res D) : (cs 60).b (ca_law_p10_text r_law_p10_text) (defBody (top 30)) = some (b_law_p10_text r_law_p10_text) := by kernel_rfl
theorem gs_law_p10_text {P : Program} {w : World} {mg : Str → Option Value} {base : Heap} {T : Wp} (G : Gb w T mg) : ∀ n : Nat, FnG P w mg base T (0 + n) "_law_p10_text" 1 (f_law_p10_text n)
  | 0 => by
    obtain ⟨fa_law_p10_text, fd_law_p10_text, F_law_p10_text, hm_law_p10_text⟩ := G.fd_law_p10_text
    exact fn_bad (ps := ["_law_value"]) F_law_p10_text rfl hm_law_p10_text (fun _ _ _ _ _ _ us hl => match us, hl with | [_], _ => rfl)
  | n + 1 => by
    obtain ⟨fa_law_p10_text, fd_law_p10_text, F_law_p10_text, hm_law_p10_text⟩ := G.fd_law_p10_text
    have hr_law_p10_text : FnG P w mg base T (0 + n) "_law_p10_text" 1 (f_law_p10_text n) := (gs_law_p10_text G n)
    exact fn_any (k := 0 + n) F_law_p10_text sc_law_p10_text rfl rfl hm_law_p10_text (fun _ _ _ _ _ _ us hl => match us, hl with | [_], _ => rfl) (fun X W C po => (cs_ok 60).b (A := ca_law_p10_text (f_law_p10_text n)) C ⟨G.fr, G.co, fnsOk_mem ⟨hr_law_p10_text, trivial⟩, G.tb, G.dg⟩ po (q_law_p10_text (f_law_p10_text n)))
theorem g_law_p10_text {P : Program} {w : World} {mg : Str → Option Value} {base : Heap} {T : Wp} (G : Gb w T mg) (n : Nat) : FnG P w mg base T (0 + n) "_law_p10_text" 1 (f_law_p10_text n) := (gs_law_p10_text G n)
theorem sc_law_mixed : FnScope ["_law_seed", "_law_turn", "_law_first"] ["_law_seed", "_law_turn"] (defScope (top 21)) := ⟨rfl, rfl, rfl, by decide +kernel, rfl, by decide +kernel, by decide +kernel⟩
noncomputable def ca_law_mixed : Ca := ⟨["_law_seed", "_law_turn", "_law_first"], defScope (top 21), defScope (top 21), [], [], false, FR, CO, [], TB⟩
theorem q_law_mixed : (cs 60).b (ca_law_mixed) (defBody (top 21)) = some (b_law_mixed) := by kernel_rfl
theorem g_law_mixed {P : Program} {w : World} {mg : Str → Option Value} {base : Heap} {T : Wp} (G : Gb w T mg) : FnG P w mg base T 1 "_law_mixed" 2 f_law_mixed := by
  obtain ⟨fa, fd, F, hm⟩ := G.fd_law_mixed
  exact fn_any (k := 0) F sc_law_mixed rfl rfl hm (fun _ _ _ _ _ _ us hl => match us, hl with | [_, _], _ => rfl) (fun X W C po => (cs_ok 60).b (A := ca_law_mixed) C ⟨G.fr, G.co, fnsOk_mem trivial, G.tb, G.dg⟩ po (q_law_mixed))
theorem sc_law_draw : FnScope ["_law_bag_here", "_law_many", "_law_cell", "_law_value"] ["_law_bag_here", "_law_many"] (defScope (top 22)) := ⟨rfl, rfl, rfl, by decide +kernel, rfl, by decide +kernel, by decide +kernel⟩
noncomputable def ca_law_draw : Ca := ⟨["_law_bag_here", "_law_many", "_law_cell", "_law_value"], defScope (top 22), defScope (top 22), [], [], false, FR, CO, [("_law_mixed", (2, f_law_mixed))], TB⟩
theorem q_law_draw : (cs 60).b (ca_law_draw) (defBody (top 22)) = some (b_law_draw) := by kernel_rfl
theorem g_law_draw {P : Program} {w : World} {mg : Str → Option Value} {base : Heap} {T : Wp} (G : Gb w T mg) : FnG P w mg base T 2 "_law_draw" 2 f_law_draw := by
  obtain ⟨fa, fd, F, hm⟩ := G.fd_law_draw
  exact fn_any (k := 1) F sc_law_draw rfl rfl hm (fun _ _ _ _ _ _ us hl => match us, hl with | [_, _], _ => rfl) (fun X W C po => (cs_ok 60).b (A := ca_law_draw) C ⟨G.fr, G.co, fnsOk_mem ⟨(g_law_mixed G).mono (by omega), trivial⟩, G.tb, G.dg⟩ po (q_law_draw))
theorem sc_law_pick : FnScope ["_law_bag_here", "_law_row"] ["_law_bag_here", "_law_row"] (defScope (top 23)) := ⟨rfl, rfl, rfl, by decide +kernel, rfl, by decide +kernel, by decide +kernel⟩
noncomputable def ca_law_pick : Ca := ⟨["_law_bag_here", "_law_row"], defScope (top 23), defScope (top 23), [], [], false, FR, CO, [("_law_draw", (2, f_law_draw))], TB⟩
theorem q_law_pick : (cs 60).b (ca_law_pick) (defBody (top 23)) = some (b_law_pick) := by kernel_rfl
theorem g_law_pick {P : Program} {w : World} {mg : Str → Option Value} {base : Heap} {T : Wp} (G : Gb w T mg) : FnG P w mg base T 3 "_law_pick" 2 f_law_pick := by
  obtain ⟨fa, fd, F, hm⟩ := G.fd_law_pick
  exact fn_any (k := 2) F sc_law_pick rfl rfl hm (fun _ _ _ _ _ _ us hl => match us, hl with | [_, _], _ => rfl) (fun X W C po => (cs_ok 60).b (A := ca_law_pick) C ⟨G.fr, G.co, fnsOk_mem ⟨(g_law_draw G).mono (by omega), trivial⟩, G.tb, G.dg⟩ po (q_law_pick))
theorem sc_law_p10_number : FnScope ["_law_bag_here", "_law_way", "_law_number"] ["_law_bag_here"] (defScope (top 26)) := ⟨rfl, rfl, rfl, by decide +kernel, rfl, by decide +kernel, by decide +kernel⟩
noncomputable def ca_law_p10_number : Ca := ⟨["_law_bag_here", "_law_way", "_law_number"], defScope (top 26), defScope (top 26), [], [], false, FR, CO, [("_law_draw", (2, f_law_draw)), ("_law_pick", (2, f_law_pick))], TB⟩
theorem q_law_p10_number : (cs 60).b (ca_law_p10_number) (defBody (top 26)) = some (b_law_p10_number) := by kernel_rfl
theorem g_law_p10_number {P : Program} {w : World} {mg : Str → Option Value} {base : Heap} {T : Wp} (G : Gb w T mg) : FnG P w mg base T 4 "_law_p10_number" 1 f_law_p10_number := by
  obtain ⟨fa, fd, F, hm⟩ := G.fd_law_p10_number
  exact fn_any (k := 3) F sc_law_p10_number rfl rfl hm (fun _ _ _ _ _ _ us hl => match us, hl with | [_], _ => rfl) (fun X W C po => (cs_ok 60).b (A := ca_law_p10_number) C ⟨G.fr, G.co, fnsOk_mem ⟨(g_law_draw G).mono (by omega), (g_law_pick G).mono (by omega), trivial⟩, G.tb, G.dg⟩ po (q_law_p10_number))
theorem sc_law_p10_word : FnScope ["_law_bag_here", "_law_signs", "_law_size", "_law_word", "_law_k"] ["_law_bag_here"] (defScope (top 25)) := ⟨rfl, rfl, rfl, by decide +kernel, rfl, by decide +kernel, by decide +kernel⟩
noncomputable def ca_law_p10_word : Ca := ⟨["_law_bag_here", "_law_signs", "_law_size", "_law_word", "_law_k"], defScope (top 25), defScope (top 25), [], [], false, FR, CO, [("_law_draw", (2, f_law_draw)), ("_law_pick", (2, f_law_pick))], TB⟩
theorem q_law_p10_word : (cs 60).b (ca_law_p10_word) (defBody (top 25)) = some (b_law_p10_word) := by kernel_rfl
theorem g_law_p10_word {P : Program} {w : World} {mg : Str → Option Value} {base : Heap} {T : Wp} (G : Gb w T mg) : FnG P w mg base T 4 "_law_p10_word" 1 f_law_p10_word := by
  obtain ⟨fa, fd, F, hm⟩ := G.fd_law_p10_word
  exact fn_any (k := 3) F sc_law_p10_word rfl rfl hm (fun _ _ _ _ _ _ us hl => match us, hl with | [_], _ => rfl) (fun X W C po => (cs_ok 60).b (A := ca_law_p10_word) C ⟨G.fr, G.co, fnsOk_mem ⟨(g_law_draw G).mono (by omega), (g_law_pick G).mono (by omega), trivial⟩, G.tb, G.dg⟩ po (q_law_p10_word))
theorem sc_law_p10_atom : FnScope ["_law_bag_here", "_law_way"] ["_law_bag_here"] (defScope (top 27)) := ⟨rfl, rfl, rfl, by decide +kernel, rfl, by decide +kernel, by decide +kernel⟩
noncomputable def ca_law_p10_atom : Ca := ⟨["_law_bag_here", "_law_way"], defScope (top 27), defScope (top 27), [], [], false, FR, CO, [("_law_draw", (2, f_law_draw)), ("_law_p10_number", (1, f_law_p10_number)), ("_law_p10_word", (1, f_law_p10_word))], TB⟩
theorem q_law_p10_atom : (cs 60).b (ca_law_p10_atom) (defBody (top 27)) = some (b_law_p10_atom) := by kernel_rfl
theorem g_law_p10_atom {P : Program} {w : World} {mg : Str → Option Value} {base : Heap} {T : Wp} (G : Gb w T mg) : FnG P w mg base T 5 "_law_p10_atom" 1 f_law_p10_atom := by
  obtain ⟨fa, fd, F, hm⟩ := G.fd_law_p10_atom
  exact fn_any (k := 4) F sc_law_p10_atom rfl rfl hm (fun _ _ _ _ _ _ us hl => match us, hl with | [_], _ => rfl) (fun X W C po => (cs_ok 60).b (A := ca_law_p10_atom) C ⟨G.fr, G.co, fnsOk_mem ⟨(g_law_draw G).mono (by omega), (g_law_p10_number G).mono (by omega), (g_law_p10_word G).mono (by omega), trivial⟩, G.tb, G.dg⟩ po (q_law_p10_atom))
theorem sc_law_p10_value : FnScope ["_law_bag_here", "_law_levels", "_law_k"] ["_law_bag_here", "_law_levels"] (defScope (top 28)) := ⟨rfl, rfl, rfl, by decide +kernel, rfl, by decide +kernel, by decide +kernel⟩
noncomputable def ca_law_p10_value (r_law_p10_value : List D → Sto → Res D) : Ca := ⟨["_law_bag_here", "_law_levels", "_law_k"], defScope (top 28), defScope (top 28), [], [], false, FR, CO, [("_law_draw", (2, f_law_draw)), ("_law_p10_atom", (1, f_law_p10_atom)), ("_law_p10_value", (2, r_law_p10_value))], TB⟩
theorem q_law_p10_value (r_law_p10_value : List D → Sto → Res D) : (cs 60).b (ca_law_p10_value r_law_p10_value) (defBody (top 28)) = some (b_law_p10_value r_law_p10_value) := by kernel_rfl
theorem gs_law_p10_value {P : Program} {w : World} {mg : Str → Option Value} {base : Heap} {T : Wp} (G : Gb w T mg) : ∀ n : Nat, FnG P w mg base T (5 + n) "_law_p10_value" 2 (f_law_p10_value n)
  | 0 => by
    obtain ⟨fa_law_p10_value, fd_law_p10_value, F_law_p10_value, hm_law_p10_value⟩ := G.fd_law_p10_value
    exact fn_bad (ps := ["_law_bag_here", "_law_levels"]) F_law_p10_value rfl hm_law_p10_value (fun _ _ _ _ _ _ us hl => match us, hl with | [_, _], _ => rfl)
  | n + 1 => by
    obtain ⟨fa_law_p10_value, fd_law_p10_value, F_law_p10_value, hm_law_p10_value⟩ := G.fd_law_p10_value
    have hr_law_p10_value : FnG P w mg base T (5 + n) "_law_p10_value" 2 (f_law_p10_value n) := (gs_law_p10_value G n)
    exact fn_any (k := 5 + n) F_law_p10_value sc_law_p10_value rfl rfl hm_law_p10_value (fun _ _ _ _ _ _ us hl => match us, hl with | [_, _], _ => rfl) (fun X W C po => (cs_ok 60).b (A := ca_law_p10_value (f_law_p10_value n)) C ⟨G.fr, G.co, fnsOk_mem ⟨(g_law_draw G).mono (by omega), (g_law_p10_atom G).mono (by omega), hr_law_p10_value, trivial⟩, G.tb, G.dg⟩ po (q_law_p10_value (f_law_p10_value n)))
theorem g_law_p10_value {P : Program} {w : World} {mg : Str → Option Value} {base : Heap} {T : Wp} (G : Gb w T mg) (n : Nat) : FnG P w mg base T (5 + n) "_law_p10_value" 2 (f_law_p10_value n) := (gs_law_p10_value G n)
theorem sc_law_p10_wrapped : FnScope ["_law_bag_here", "_law_value", "_law_most", "_law_many", "_law_k", "_law_way"] ["_law_bag_here", "_law_value", "_law_most"] (defScope (top 29)) := ⟨rfl, rfl, rfl, by decide +kernel, rfl, by decide +kernel, by decide +kernel⟩
noncomputable def ca_law_p10_wrapped : Ca := ⟨["_law_bag_here", "_law_value", "_law_most", "_law_many", "_law_k", "_law_way"], defScope (top 29), defScope (top 29), [], [], false, FR, CO, [("_law_draw", (2, f_law_draw)), ("_law_pick", (2, f_law_pick))], TB⟩
theorem q_law_p10_wrapped : (cs 60).b (ca_law_p10_wrapped) (defBody (top 29)) = some (b_law_p10_wrapped) := by kernel_rfl
theorem g_law_p10_wrapped {P : Program} {w : World} {mg : Str → Option Value} {base : Heap} {T : Wp} (G : Gb w T mg) : FnG P w mg base T 4 "_law_p10_wrapped" 3 f_law_p10_wrapped := by
  obtain ⟨fa, fd, F, hm⟩ := G.fd_law_p10_wrapped
  exact fn_any (k := 3) F sc_law_p10_wrapped rfl rfl hm (fun _ _ _ _ _ _ us hl => match us, hl with | [_, _, _], _ => rfl) (fun X W C po => (cs_ok 60).b (A := ca_law_p10_wrapped) C ⟨G.fr, G.co, fnsOk_mem ⟨(g_law_draw G).mono (by omega), (g_law_pick G).mono (by omega), trivial⟩, G.tb, G.dg⟩ po (q_law_p10_wrapped))
theorem sc_is_at : FnScope ["text", "place", "sign"] ["text", "place", "sign"] (defScope (top 17)) := ⟨rfl, rfl, rfl, by decide +kernel, rfl, by decide +kernel, by decide +kernel⟩
noncomputable def ca_is_at : Ca := ⟨["text", "place", "sign"], defScope (top 17), defScope (top 17), [], [], false, FR, CO, [], TB⟩
theorem q_is_at : (cs 60).b (ca_is_at) (defBody (top 17)) = some (b_is_at) := by kernel_rfl
theorem g_is_at {P : Program} {w : World} {mg : Str → Option Value} {base : Heap} {T : Wp} (G : Gb w T mg) : FnG P w mg base T 1 "is_at" 3 f_is_at := by
  obtain ⟨fa, fd, F, hm⟩ := G.fd_is_at
  exact fn_any (k := 0) F sc_is_at rfl rfl hm (fun _ _ _ _ _ _ us hl => match us, hl with | [_, _, _], _ => rfl) (fun X W C po => (cs_ok 60).b (A := ca_is_at) C ⟨G.fr, G.co, fnsOk_mem trivial, G.tb, G.dg⟩ po (q_is_at))
theorem sc_end_of : FnScope ["text", "place", "signs", "most", "end"] ["text", "place", "signs", "most"] (defScope (top 12)) := ⟨rfl, rfl, rfl, by decide +kernel, rfl, by decide +kernel, by decide +kernel⟩
noncomputable def ca_end_of : Ca := ⟨["text", "place", "signs", "most", "end"], defScope (top 12), defScope (top 12), [], [], false, FR, CO, [], TB⟩
theorem q_end_of : (cs 60).b (ca_end_of) (defBody (top 12)) = some (b_end_of) := by kernel_rfl
theorem g_end_of {P : Program} {w : World} {mg : Str → Option Value} {base : Heap} {T : Wp} (G : Gb w T mg) : FnG P w mg base T 1 "end_of" 4 f_end_of := by
  obtain ⟨fa, fd, F, hm⟩ := G.fd_end_of
  exact fn_any (k := 0) F sc_end_of rfl rfl hm (fun _ _ _ _ _ _ us hl => match us, hl with | [_, _, _, _], _ => rfl) (fun X W C po => (cs_ok 60).b (A := ca_end_of) C ⟨G.fr, G.co, fnsOk_mem trivial, G.tb, G.dg⟩ po (q_end_of))
theorem sc_read_number : FnScope ["text", "place", "end"] ["text", "place"] (defScope (top 14)) := ⟨rfl, rfl, rfl, by decide +kernel, rfl, by decide +kernel, by decide +kernel⟩
noncomputable def ca_read_number : Ca := ⟨["text", "place", "end"], defScope (top 14), defScope (top 14), [], [], false, FR, CO, [("end_of", (4, f_end_of))], TB⟩
theorem q_read_number : (cs 60).b (ca_read_number) (defBody (top 14)) = some (b_read_number) := by kernel_rfl
theorem g_read_number {P : Program} {w : World} {mg : Str → Option Value} {base : Heap} {T : Wp} (G : Gb w T mg) : FnG P w mg base T 2 "read_number" 2 f_read_number := by
  obtain ⟨fa, fd, F, hm⟩ := G.fd_read_number
  exact fn_any (k := 1) F sc_read_number rfl rfl hm (fun _ _ _ _ _ _ us hl => match us, hl with | [_, _], _ => rfl) (fun X W C po => (cs_ok 60).b (A := ca_read_number) C ⟨G.fr, G.co, fnsOk_mem ⟨(g_end_of G).mono (by omega), trivial⟩, G.tb, G.dg⟩ po (q_read_number))
theorem sc_read_sign : FnScope ["text", "place", "number", "end"] ["text", "place"] (defScope (top 15)) := ⟨rfl, rfl, rfl, by decide +kernel, rfl, by decide +kernel, by decide +kernel⟩
noncomputable def ca_read_sign : Ca := ⟨["text", "place", "number", "end"], defScope (top 15), defScope (top 15), [], [], false, FR, CO, [("read_number", (2, f_read_number))], TB⟩
theorem q_read_sign : (cs 60).b (ca_read_sign) (defBody (top 15)) = some (b_read_sign) := by kernel_rfl
theorem g_read_sign {P : Program} {w : World} {mg : Str → Option Value} {base : Heap} {T : Wp} (G : Gb w T mg) : FnG P w mg base T 3 "read_sign" 2 f_read_sign := by
  obtain ⟨fa, fd, F, hm⟩ := G.fd_read_sign
  exact fn_any (k := 2) F sc_read_sign rfl rfl hm (fun _ _ _ _ _ _ us hl => match us, hl with | [_, _], _ => rfl) (fun X W C po => (cs_ok 60).b (A := ca_read_sign) C ⟨G.fr, G.co, fnsOk_mem ⟨(g_read_number G).mono (by omega), trivial⟩, G.tb, G.dg⟩ po (q_read_sign))
theorem sc_read_word : FnScope ["text", "place", "end", "word"] ["text", "place"] (defScope (top 13)) := ⟨rfl, rfl, rfl, by decide +kernel, rfl, by decide +kernel, by decide +kernel⟩
noncomputable def ca_read_word : Ca := ⟨["text", "place", "end", "word"], defScope (top 13), defScope (top 13), [], [], false, FR, CO, [("end_of", (4, f_end_of))], TB⟩
theorem q_read_word : (cs 60).b (ca_read_word) (defBody (top 13)) = some (b_read_word) := by kernel_rfl
theorem g_read_word {P : Program} {w : World} {mg : Str → Option Value} {base : Heap} {T : Wp} (G : Gb w T mg) : FnG P w mg base T 2 "read_word" 2 f_read_word := by
  obtain ⟨fa, fd, F, hm⟩ := G.fd_read_word
  exact fn_any (k := 1) F sc_read_word rfl rfl hm (fun _ _ _ _ _ _ us hl => match us, hl with | [_, _], _ => rfl) (fun X W C po => (cs_ok 60).b (A := ca_read_word) C ⟨G.fr, G.co, fnsOk_mem ⟨(g_end_of G).mono (by omega), trivial⟩, G.tb, G.dg⟩ po (q_read_word))
theorem sc_read_piece : FnScope ["text", "place"] ["text", "place"] (defScope (top 16)) := ⟨rfl, rfl, rfl, by decide +kernel, rfl, by decide +kernel, by decide +kernel⟩
noncomputable def ca_read_piece : Ca := ⟨["text", "place"], defScope (top 16), defScope (top 16), [], [], false, FR, CO, [("read_number", (2, f_read_number)), ("read_sign", (2, f_read_sign)), ("read_word", (2, f_read_word))], TB⟩
theorem q_read_piece : (cs 60).b (ca_read_piece) (defBody (top 16)) = some (b_read_piece) := by kernel_rfl
theorem g_read_piece {P : Program} {w : World} {mg : Str → Option Value} {base : Heap} {T : Wp} (G : Gb w T mg) : FnG P w mg base T 4 "read_piece" 2 f_read_piece := by
  obtain ⟨fa, fd, F, hm⟩ := G.fd_read_piece
  exact fn_any (k := 3) F sc_read_piece rfl rfl hm (fun _ _ _ _ _ _ us hl => match us, hl with | [_, _], _ => rfl) (fun X W C po => (cs_ok 60).b (A := ca_read_piece) C ⟨G.fr, G.co, fnsOk_mem ⟨(g_read_number G).mono (by omega), (g_read_sign G).mono (by omega), (g_read_word G).mono (by omega), trivial⟩, G.tb, G.dg⟩ po (q_read_piece))
theorem sc_read_plain : FnScope ["text", "rows", "place", "value"] ["text"] (defScope (top 18)) := ⟨rfl, rfl, rfl, by decide +kernel, rfl, by decide +kernel, by decide +kernel⟩
noncomputable def ca_read_plain : Ca := ⟨["text", "rows", "place", "value"], defScope (top 18), defScope (top 18), [1], [1], false, FR, CO, [("is_at", (3, f_is_at)), ("read_piece", (2, f_read_piece))], TB⟩
theorem q_read_plain : (cs 60).b (ca_read_plain) (defBody (top 18)) = some (b_read_plain) := by kernel_rfl
theorem g_read_plain {P : Program} {w : World} {mg : Str → Option Value} {base : Heap} {T : Wp} (G : Gb w T mg) : FnG P w mg base T 5 "read_plain" 1 f_read_plain := by
  obtain ⟨fa, fd, F, hm⟩ := G.fd_read_plain
  exact fn_any (k := 4) F sc_read_plain rfl rfl hm (fun _ _ _ _ _ _ us hl => match us, hl with | [_], _ => rfl) (fun X W C po => (cs_ok 60).b (A := ca_read_plain) C ⟨G.fr, G.co, fnsOk_mem ⟨(g_is_at G).mono (by omega), (g_read_piece G).mono (by omega), trivial⟩, G.tb, G.dg⟩ po (q_read_plain))
theorem sc_write_plain : FnScope ["value", "piece"] ["value"] (defScope (top 11)) := ⟨rfl, rfl, rfl, by decide +kernel, rfl, by decide +kernel, by decide +kernel⟩
noncomputable def ca_write_plain (r_write_plain : List D → Sto → Res D) : Ca := ⟨["value", "piece"], defScope (top 11), defScope (top 11), [], [], false, FR, CO, [("write_plain", (1, r_write_plain))], TB⟩
theorem q_write_plain (r_write_plain : List D → Sto → Res D) : (cs 60).b (ca_write_plain r_write_plain) (defBody (top 11)) = some (b_write_plain r_write_plain) := by kernel_rfl
theorem gs_write_plain {P : Program} {w : World} {mg : Str → Option Value} {base : Heap} {T : Wp} (G : Gb w T mg) : ∀ n : Nat, FnG P w mg base T (0 + n) "write_plain" 1 (f_write_plain n)
  | 0 => by
    obtain ⟨fa_write_plain, fd_write_plain, F_write_plain, hm_write_plain⟩ := G.fd_write_plain
    exact fn_bad (ps := ["value"]) F_write_plain rfl hm_write_plain (fun _ _ _ _ _ _ us hl => match us, hl with | [_], _ => rfl)
  | n + 1 => by
    obtain ⟨fa_write_plain, fd_write_plain, F_write_plain, hm_write_plain⟩ := G.fd_write_plain
    have hr_write_plain : FnG P w mg base T (0 + n) "write_plain" 1 (f_write_plain n) := (gs_write_plain G n)
    exact fn_any (k := 0 + n) F_write_plain sc_write_plain rfl rfl hm_write_plain (fun _ _ _ _ _ _ us hl => match us, hl with | [_], _ => rfl) (fun X W C po => (cs_ok 60).b (A := ca_write_plain (f_write_plain n)) C ⟨G.fr, G.co, fnsOk_mem ⟨hr_write_plain, trivial⟩, G.tb, G.dg⟩ po (q_write_plain (f_write_plain n)))
theorem g_write_plain {P : Program} {w : World} {mg : Str → Option Value} {base : Heap} {T : Wp} (G : Gb w T mg) (n : Nat) : FnG P w mg base T (0 + n) "write_plain" 1 (f_write_plain n) := (gs_write_plain G n)
theorem sc_law : FnScope ["_law_script", "_law_bag_here", "_law_values", "_law_due", "_law_k", "_law_text", "_law_back", "_law_value"] ["_law_script"] (defScope (top 32)) := ⟨rfl, rfl, rfl, by decide +kernel, rfl, by decide +kernel, by decide +kernel⟩
noncomputable def ca_law : Ca := ⟨["_law_script", "_law_bag_here", "_law_values", "_law_due", "_law_k", "_law_text", "_law_back", "_law_value"], defScope (top 32), defScope (top 32), [1], [], false, FR, CO, [("_law_bag", (1, f_law_bag)), ("_law_p10_same", (2, (f_law_p10_same 64))), ("_law_p10_text", (1, (f_law_p10_text 64))), ("_law_p10_value", (2, (f_law_p10_value 4))), ("_law_p10_wrapped", (3, f_law_p10_wrapped)), ("read_plain", (1, f_read_plain)), ("write_plain", (1, (f_write_plain 64)))], TB⟩
theorem q_law : (cs 60).b (ca_law) (defBody (top 32)) = some (b_law) := by kernel_rfl
theorem g_law {P : Program} {w : World} {mg : Str → Option Value} {base : Heap} {T : Wp} (G : Gb w T mg) : FnG P w mg base T 66 "law" 1 f_law := by
  obtain ⟨fa, fd, F, hm⟩ := G.fd_law
  exact fn_any (k := 65) F sc_law rfl rfl hm (fun _ _ _ _ _ _ us hl => match us, hl with | [_], _ => rfl) (fun X W C po => (cs_ok 60).b (A := ca_law) C ⟨G.fr, G.co, fnsOk_mem ⟨(g_law_bag G).mono (by omega), (g_law_p10_same G 64).mono (by omega), (g_law_p10_text G 64).mono (by omega), (g_law_p10_value G 4).mono (by omega), (g_law_p10_wrapped G).mono (by omega), (g_read_plain G).mono (by omega), (g_write_plain G 64).mono (by omega), trivial⟩, G.tb, G.dg⟩ po (q_law))
end ZP

set_option Elab.async false
set_option linter.all false
set_option maxRecDepth 100000
set_option maxHeartbeats 0
namespace ZP
open PySem PySem.Spec PyProof.Rows L2 Z
def dd_law_bag : He.DefD := ⟨("_law_bag", none), "_law_bag", "_law_bag", defArgs (top 20), defBody (top 20), defScope (top 20), [], []⟩
def dd_law_is_int : He.DefD := ⟨("_law_is_int", none), "_law_is_int", "_law_is_int", defArgs (top 24), defBody (top 24), defScope (top 24), [], []⟩
def dd_law_p10_same : He.DefD := ⟨("_law_p10_same", none), "_law_p10_same", "_law_p10_same", defArgs (top 31), defBody (top 31), defScope (top 31), [], []⟩
def dd_law_p10_text : He.DefD := ⟨("_law_p10_text", none), "_law_p10_text", "_law_p10_text", defArgs (top 30), defBody (top 30), defScope (top 30), [], []⟩
def dd_law_mixed : He.DefD := ⟨("_law_mixed", none), "_law_mixed", "_law_mixed", defArgs (top 21), defBody (top 21), defScope (top 21), [], []⟩
def dd_law_draw : He.DefD := ⟨("_law_draw", none), "_law_draw", "_law_draw", defArgs (top 22), defBody (top 22), defScope (top 22), [], []⟩
def dd_law_pick : He.DefD := ⟨("_law_pick", none), "_law_pick", "_law_pick", defArgs (top 23), defBody (top 23), defScope (top 23), [], []⟩
def dd_law_p10_number : He.DefD := ⟨("_law_p10_number", none), "_law_p10_number", "_law_p10_number", defArgs (top 26), defBody (top 26), defScope (top 26), [], []⟩
def dd_law_p10_word : He.DefD := ⟨("_law_p10_word", none), "_law_p10_word", "_law_p10_word", defArgs (top 25), defBody (top 25), defScope (top 25), [], []⟩
def dd_law_p10_atom : He.DefD := ⟨("_law_p10_atom", none), "_law_p10_atom", "_law_p10_atom", defArgs (top 27), defBody (top 27), defScope (top 27), [], []⟩
def dd_law_p10_value : He.DefD := ⟨("_law_p10_value", none), "_law_p10_value", "_law_p10_value", defArgs (top 28), defBody (top 28), defScope (top 28), [], []⟩
def dd_law_p10_wrapped : He.DefD := ⟨("_law_p10_wrapped", none), "_law_p10_wrapped", "_law_p10_wrapped", defArgs (top 29), defBody (top 29), defScope (top 29), [], []⟩
def dd_is_at : He.DefD := ⟨("is_at", none), "is_at", "is_at", defArgs (top 17), defBody (top 17), defScope (top 17), [], []⟩
def dd_end_of : He.DefD := ⟨("end_of", none), "end_of", "end_of", defArgs (top 12), defBody (top 12), defScope (top 12), [], []⟩
def dd_read_number : He.DefD := ⟨("read_number", none), "read_number", "read_number", defArgs (top 14), defBody (top 14), defScope (top 14), [], []⟩
def dd_read_sign : He.DefD := ⟨("read_sign", none), "read_sign", "read_sign", defArgs (top 15), defBody (top 15), defScope (top 15), [], []⟩
def dd_read_word : He.DefD := ⟨("read_word", none), "read_word", "read_word", defArgs (top 13), defBody (top 13), defScope (top 13), [], []⟩
def dd_read_piece : He.DefD := ⟨("read_piece", none), "read_piece", "read_piece", defArgs (top 16), defBody (top 16), defScope (top 16), [], []⟩
def dd_read_plain : He.DefD := ⟨("read_plain", none), "read_plain", "read_plain", defArgs (top 18), defBody (top 18), defScope (top 18), [], []⟩
def dd_write_plain : He.DefD := ⟨("write_plain", none), "write_plain", "write_plain", defArgs (top 11), defBody (top 11), defScope (top 11), [], []⟩
def dd_law : He.DefD := ⟨("law", none), "law", "law", defArgs (top 32), defBody (top 32), defScope (top 32), [], []⟩
def fnL : List He.DefD := [dd_law_bag, dd_law_is_int, dd_law_p10_same, dd_law_p10_text, dd_law_mixed, dd_law_draw, dd_law_pick, dd_law_p10_number, dd_law_p10_word, dd_law_p10_atom, dd_law_p10_value, dd_law_p10_wrapped, dd_is_at, dd_end_of, dd_read_number, dd_read_sign, dd_read_word, dd_read_piece, dd_read_plain, dd_write_plain, dd_law]
def faL : List He.Fa := (["_law_bag", "_law_is_int", "_law_p10_same", "_law_p10_text", "_law_mixed", "_law_draw", "_law_pick", "_law_p10_number", "_law_p10_word", "_law_p10_atom", "_law_p10_value", "_law_p10_wrapped", "is_at", "end_of", "read_number", "read_sign", "read_word", "read_piece", "read_plain", "write_plain", "law"] : List Str).map He.Fa.glo ++ FR.map He.Fa.free ++ [.int "MOST_DIGITS" 4000, .str "DIGITS" "0123456789", .int "MOST_SIGNS" 12, .str "SIGNS" "abcdefghijklmnopqrstuvwxyz0123456789", .str "LETTERS" "abcdefghijklmnopqrstuvwxyz", .int "MOST_LEVELS" 60, .glo "SPECIAL"]
def tsL : List He.Tab := [(fun K => He.ga K "SPECIAL", t_SPECIAL.map (·.1))]
def exL : PySem.W.Frag → Bool := fun K => He.eqO (PySem.W.nsIn K cStatics "sys.int_max_str_digits") (some none) && He.valsB K (He.ga K "SPECIAL") (t_SPECIAL.map fun q => (q.1, dvOf q.2))
abbrev Rw : PySem.W.OpenRow := PySem.W.OpenLaw.row PySem.Challenge.rw_swornlots_k74_plain_texts
abbrev hkL : PySem.W.Hook := hookZ 4 faL fnL tsL exL
def obL (s : PySem.W.SharedT) : AlZ := obsZ 4 faL fnL tsL exL (HandSHeadRun.getT s)
theorem obL_eq (s : PySem.W.SharedT) : obL s = hkL.obs s.abs := obsZ_eq (HandSHeadRun.getT_eq s)
def looseL : List Str := ["LotError", "BadText", "LETTERS", "SIGNS", "MOST_LEVELS", "MOST_DIGITS", "MOST_SIGNS", "DIGITS", "SPECIAL", "write_plain", "end_of", "read_word", "read_number", "read_sign", "read_piece", "is_at", "read_plain", "_law_bag", "_law_mixed", "_law_draw", "_law_pick", "_law_is_int", "_law_p10_word", "_law_p10_number", "_law_p10_atom", "_law_p10_value", "_law_p10_wrapped", "_law_p10_text", "_law_p10_same"]
abbrev RunL (w : World) : Prop := HandSHeadRun.RunEq Rw (PySem.W.view Rw.prog [32]) hkL obL 6000 looseL w
theorem runL (w : World) : RunL w := PySem.W.byRow2 "special-get-raises" (P := RunL) (fun w => by intro os; kernel_rfl) (fun w => by intro os; kernel_rfl) w
theorem gbL {w : World} {K : PySem.W.Frag} {h : Heap} {mg : Str → Option Value} (KX : K.In h) (Gn : h.Ns mainGlobals mg) (c : He.SaysT faL fnL tsL w K ∧ exL K = true) : Gb w (⟨K, fun _ => 0, fun _ => ""⟩ : Wp) mg where
    fr := fun x hx => He.free_ok KX Gn (c.1.d.facts (f := .free x) (List.mem_append.mpr (.inl (List.mem_append.mpr (.inr (List.mem_map.mpr ⟨x, hx, rfl⟩))))))
    co := gls_mem ⟨gl_int KX Gn (c.1.d.fact 32 (f := .int "MOST_DIGITS" 4000) (by kernel_rfl)), gl_str KX Gn (c.1.d.fact 33 (f := .str "DIGITS" "0123456789") (by kernel_rfl)), gl_int KX Gn (c.1.d.fact 34 (f := .int "MOST_SIGNS" 12) (by kernel_rfl)), gl_str KX Gn (c.1.d.fact 35 (f := .str "SIGNS" "abcdefghijklmnopqrstuvwxyz0123456789") (by kernel_rfl)), gl_str KX Gn (c.1.d.fact 36 (f := .str "LETTERS" "abcdefghijklmnopqrstuvwxyz") (by kernel_rfl)), gl_int KX Gn (c.1.d.fact 37 (f := .int "MOST_LEVELS" 60) (by kernel_rfl)), trivial⟩
    tb := tbs_mem ⟨tabG_of rfl KX Gn (c.1.d.fact 38 (f := .glo "SPECIAL") (by kernel_rfl)) (tab_dic c.1 0 rfl) (by kernel_rfl) (Bool.and_eq_true_iff.mp c.2).2, trivial⟩
    dg := He.eqO_ok (Bool.and_eq_true_iff.mp c.2).1
    fd_law_bag := by
      obtain ⟨fd, F⟩ := c.1.d.def_ 0 (d := dd_law_bag) (by kernel_rfl)
      exact ⟨_, fd, F, He.glo_ok KX Gn (c.1.d.fact 0 (f := .glo "_law_bag") (by kernel_rfl))⟩
    fd_law_is_int := by
      obtain ⟨fd, F⟩ := c.1.d.def_ 1 (d := dd_law_is_int) (by kernel_rfl)
      exact ⟨_, fd, F, He.glo_ok KX Gn (c.1.d.fact 1 (f := .glo "_law_is_int") (by kernel_rfl))⟩
    fd_law_p10_same := by
      obtain ⟨fd, F⟩ := c.1.d.def_ 2 (d := dd_law_p10_same) (by kernel_rfl)
      exact ⟨_, fd, F, He.glo_ok KX Gn (c.1.d.fact 2 (f := .glo "_law_p10_same") (by kernel_rfl))⟩
    fd_law_p10_text := by
      obtain ⟨fd, F⟩ := c.1.d.def_ 3 (d := dd_law_p10_text) (by kernel_rfl)
      exact ⟨_, fd, F, He.glo_ok KX Gn (c.1.d.fact 3 (f := .glo "_law_p10_text") (by kernel_rfl))⟩
    fd_law_mixed := by
      obtain ⟨fd, F⟩ := c.1.d.def_ 4 (d := dd_law_mixed) (by kernel_rfl)
      exact ⟨_, fd, F, He.glo_ok KX Gn (c.1.d.fact 4 (f := .glo "_law_mixed") (by kernel_rfl))⟩
    fd_law_draw := by
      obtain ⟨fd, F⟩ := c.1.d.def_ 5 (d := dd_law_draw) (by kernel_rfl)
      exact ⟨_, fd, F, He.glo_ok KX Gn (c.1.d.fact 5 (f := .glo "_law_draw") (by kernel_rfl))⟩
    fd_law_pick := by
      obtain ⟨fd, F⟩ := c.1.d.def_ 6 (d := dd_law_pick) (by kernel_rfl)
      exact ⟨_, fd, F, He.glo_ok KX Gn (c.1.d.fact 6 (f := .glo "_law_pick") (by kernel_rfl))⟩
    fd_law_p10_number := by
      obtain ⟨fd, F⟩ := c.1.d.def_ 7 (d := dd_law_p10_number) (by kernel_rfl)
      exact ⟨_, fd, F, He.glo_ok KX Gn (c.1.d.fact 7 (f := .glo "_law_p10_number") (by kernel_rfl))⟩
    fd_law_p10_word := by
      obtain ⟨fd, F⟩ := c.1.d.def_ 8 (d := dd_law_p10_word) (by kernel_rfl)
      exact ⟨_, fd, F, He.glo_ok KX Gn (c.1.d.fact 8 (f := .glo "_law_p10_word") (by kernel_rfl))⟩
    fd_law_p10_atom := by
      obtain ⟨fd, F⟩ := c.1.d.def_ 9 (d := dd_law_p10_atom) (by kernel_rfl)
      exact ⟨_, fd, F, He.glo_ok KX Gn (c.1.d.fact 9 (f := .glo "_law_p10_atom") (by kernel_rfl))⟩
    fd_law_p10_value := by
      obtain ⟨fd, F⟩ := c.1.d.def_ 10 (d := dd_law_p10_value) (by kernel_rfl)
      exact ⟨_, fd, F, He.glo_ok KX Gn (c.1.d.fact 10 (f := .glo "_law_p10_value") (by kernel_rfl))⟩
    fd_law_p10_wrapped := by
      obtain ⟨fd, F⟩ := c.1.d.def_ 11 (d := dd_law_p10_wrapped) (by kernel_rfl)
      exact ⟨_, fd, F, He.glo_ok KX Gn (c.1.d.fact 11 (f := .glo "_law_p10_wrapped") (by kernel_rfl))⟩
    fd_is_at := by
      obtain ⟨fd, F⟩ := c.1.d.def_ 12 (d := dd_is_at) (by kernel_rfl)
      exact ⟨_, fd, F, He.glo_ok KX Gn (c.1.d.fact 12 (f := .glo "is_at") (by kernel_rfl))⟩
    fd_end_of := by
      obtain ⟨fd, F⟩ := c.1.d.def_ 13 (d := dd_end_of) (by kernel_rfl)
      exact ⟨_, fd, F, He.glo_ok KX Gn (c.1.d.fact 13 (f := .glo "end_of") (by kernel_rfl))⟩
    fd_read_number := by
      obtain ⟨fd, F⟩ := c.1.d.def_ 14 (d := dd_read_number) (by kernel_rfl)
      exact ⟨_, fd, F, He.glo_ok KX Gn (c.1.d.fact 14 (f := .glo "read_number") (by kernel_rfl))⟩
    fd_read_sign := by
      obtain ⟨fd, F⟩ := c.1.d.def_ 15 (d := dd_read_sign) (by kernel_rfl)
      exact ⟨_, fd, F, He.glo_ok KX Gn (c.1.d.fact 15 (f := .glo "read_sign") (by kernel_rfl))⟩
    fd_read_word := by
      obtain ⟨fd, F⟩ := c.1.d.def_ 16 (d := dd_read_word) (by kernel_rfl)
      exact ⟨_, fd, F, He.glo_ok KX Gn (c.1.d.fact 16 (f := .glo "read_word") (by kernel_rfl))⟩
    fd_read_piece := by
      obtain ⟨fd, F⟩ := c.1.d.def_ 17 (d := dd_read_piece) (by kernel_rfl)
      exact ⟨_, fd, F, He.glo_ok KX Gn (c.1.d.fact 17 (f := .glo "read_piece") (by kernel_rfl))⟩
    fd_read_plain := by
      obtain ⟨fd, F⟩ := c.1.d.def_ 18 (d := dd_read_plain) (by kernel_rfl)
      exact ⟨_, fd, F, He.glo_ok KX Gn (c.1.d.fact 18 (f := .glo "read_plain") (by kernel_rfl))⟩
    fd_write_plain := by
      obtain ⟨fd, F⟩ := c.1.d.def_ 19 (d := dd_write_plain) (by kernel_rfl)
      exact ⟨_, fd, F, He.glo_ok KX Gn (c.1.d.fact 19 (f := .glo "write_plain") (by kernel_rfl))⟩
    fd_law := by
      obtain ⟨fd, F⟩ := c.1.d.def_ 20 (d := dd_law) (by kernel_rfl)
      exact ⟨_, fd, F, He.glo_ok KX Gn (c.1.d.fact 20 (f := .glo "law") (by kernel_rfl))⟩

theorem finL (hlaw : ∀ ns : List Int, ns.length ≤ 63 → ∃ S', f_law [.scr (ns.map D.int)] [] = .ok (.bl true) S') : PySem.Challenge.rw_swornlots_k74_plain_texts.Holds := by
  w_on; o_law
  refine HandSHeadRun.head_any (r := Rw) (q := PySem.W.view Rw.prog [32]) (H := hkL) (ob := obL) (M := 6000) (loose := looseL) (d := HandSHeadRun.topDef Rw.prog 32) (kwd := []) obL_eq
    (by kernel_rfl) (fun s => by kernel_rfl) runL (by kernel_rfl) (by kernel_rfl) (by kernel_rfl) (by rfl) (by first | assumption | decide +kernel) (by decide +kernel) ⟨rfl, rfl, rfl, rfl, rfl, by decide +kernel⟩ ?hw ?hc
  case hw => w_witness2
  case hc =>
    refine walkZ (l := PySem.Challenge.rw_swornlots_k74_plain_texts) (n := 63) (k := 66) (x := "_law_script") rfl (by decide) (by kernel_rfl) ⟨rfl, by decide, by decide⟩ ?F
    intro w mg fa h Y Gn hmg0
    obtain ⟨K, KX, c⟩ := Y
    have hmg : mg ("law" : PySem.Str) = some (.ref fa) := by
      have e : (HandSHeadRun.topDef Rw.prog 32).name = ("law" : PySem.Str) := by kernel_rfl
      rw [← e]
      exact hmg0
    have G := gbL (w := w) KX Gn c
    obtain ⟨f, fd, F, hm⟩ := G.fd_law
    have ef := hmg.symm.trans hm
    cases ef
    have hb := FunD.bindsA (ps := ["_law_script"]) F (fun _ _ _ _ _ _ us hl => match us, hl with | [_], _ => rfl)
    refine ⟨K, fd, spM _ 1 f_law, KX, fun s v => hb s [v] rfl, fun H a ns hl _ hS => law_sp (T := (⟨K, fun _ => 0, fun _ => ""⟩ : Wp)) hS (hlaw ns hl), fun base _ _ => ?_⟩
    exact fn_law (k := 65) F sc_law rfl rfl (fun X W C po => (cs_ok 60).b (A := ca_law) C ⟨G.fr, G.co, fnsOk_mem ⟨(g_law_bag G).mono (by omega), (g_law_p10_same G 64).mono (by omega), (g_law_p10_text G 64).mono (by omega), (g_law_p10_value G 4).mono (by omega), (g_law_p10_wrapped G).mono (by omega), (g_read_plain G).mono (by omega), (g_write_plain G 64).mono (by omega), trivial⟩, G.tb, G.dg⟩ po q_law)
end ZP

set_option Elab.async false
set_option linter.all false
set_option maxRecDepth 100000
set_option maxHeartbeats 4000000
/-! k74 in plain Lean. -/
namespace ZP
open PySem PySem.Spec PyProof.Rows L2 Z ZT
theorem e_draw : ZP.f_law_draw = ZT.f_law_draw := rfl
theorem e_pick : ZP.f_law_pick = ZT.f_law_pick := rfl
theorem e_bag : ZP.f_law_bag = ZT.f_law_bag := rfl
/-! ### texts -/
theorem eqS (x y : Str) (S : Sto) : eqD (.str x) (.str y) S = .ok (.bl (decide (x = y))) S := rfl
@[simp] theorem len_str (z : Str) (S : Sto) (h : z.length ≤ sizeLine) : lenD [.str z] S = .ok (.int z.length) S := by
  unfold lenD
  exact if_pos h
theorem ix_str (z : Str) (S : Sto) (h : z.length ≤ sizeLine) {j c : Nat} (hc : z.cps.toList[j]? = some c) : ixD (.str z) (.int (j : Int)) S = .ok (.str ⟨#[c]⟩) S := by
  unfold ixD
  dsimp only
  rw [atI_nat hc]
  exact if_pos h
theorem len_cps (z : Str) : z.cps.toList.length = z.length := Array.length_toList
theorem in_str (c : Nat) (y : Str) (S : Sto) : inD (.str ⟨#[c]⟩) (.str y) S = .ok (.bl (decide (c ∈ y.cps.toList))) S := rfl
theorem is_at (z : Str) (S : Sto) (h : z.length ≤ sizeLine) (j c : Nat) : f_is_at [.str z, .int (j : Int), .str ⟨#[c]⟩] S = .ok (.bl (decide (z.cps.toList[j]? = some c))) S := by
  unfold f_is_at mFun b_is_at
  by_cases hj : j < z.length
  · have hj' : j < z.cps.toList.length := by rw [len_cps]; exact hj
    have e := List.getElem?_eq_getElem hj'
    have hl : (j : Int) < z.length := by omega
    have hd : ∀ a : Nat, decide (({ cps := #[a] } : Str) = { cps := #[c] }) = decide (a = c) := fun a => by
      by_cases q : a = c
      · subst q; simp
      · rw [decide_eq_false q, decide_eq_false]
        intro w
        have : (#[a] : Array Nat) = #[c] := congrArg Str.cps w
        simp at this
        exact q this
    simp [startE, mAnd, h, hl, ix_str z S h e, eqS, hd]
    rw [gcR_self rfl]
    have hz : j < z.cps.size := hj
    simp [hz]
  · have hl : ¬ (j : Int) < z.length := by omega
    have e : z.cps.toList[j]? = none := List.getElem?_eq_none (by rw [len_cps]; omega)
    simp [startE, mAnd, h, hl]
    rw [gcR_self rfl]
    have : ¬ j < z.cps.size := hj
    simp [this]
/-- how many signs from j on, at most m, are of l -/
def run (l : List Nat) : List Nat → Nat → Nat
  | [], _ => 0
  | _, 0 => 0
  | c :: cs, m + 1 => if c ∈ l then run l cs m + 1 else 0
theorem end_loop (z y : Str) (S : Sto) (h : z.length ≤ sizeLine) (p m : Nat) : ∀ (k r fuel j : Nat), (z.cps.toList.drop j).length ≤ k → p ≤ j → j ≤ z.length → j - p + r = m → k < fuel →
    whileF (tAnd2 (asB (mBin ltD (mVar 4) (mCall lenD (mCons (mVar 0) (mNil))))) (tAnd2 (asB (mBin ltD (mBin subD (mVar 4) (mVar 1)) (mVar 3))) (asB (mBin inD (mIx (mVar 0) (mVar 4)) (mVar 2)))))
      (sAsg (.nm 4) (mBin addD (mVar 4) (mCon (.int 1)))) fuel [some (.str z), some (.int (p : Int)), some (.str y), some (.int (m : Int)), some (.int (j : Int))] S =
    .nx [some (.str z), some (.int (p : Int)), some (.str y), some (.int (m : Int)), some (.int ((j + run y.cps.toList (z.cps.toList.drop j) r : Nat) : Int))] S := by
  intro k
  induction k with
  | zero =>
    intro r fuel j hk hp hj hr hf
    obtain ⟨f, rfl⟩ : ∃ f, fuel = f + 1 := ⟨fuel - 1, by omega⟩
    have h0 : z.cps.toList.drop j = [] := List.length_eq_zero_iff.mp (by omega)
    have hl : ¬ (j : Int) < z.length := by
      have := congrArg List.length h0
      rw [List.length_drop, len_cps] at this
      simp at this
      omega
    unfold whileF
    simp [h, hl, h0, run]
  | succ k ih =>
    intro r fuel j hk hp hj hr hf
    obtain ⟨f, rfl⟩ : ∃ f, fuel = f + 1 := ⟨fuel - 1, by omega⟩
    unfold whileF
    by_cases hjl : j < z.length
    · have hj' : j < z.cps.toList.length := by rw [len_cps]; exact hjl
      have e := List.getElem?_eq_getElem hj'
      have hd := List.drop_eq_getElem_cons hj'
      generalize z.cps.toList[j] = c at e hd
      have hl : (j : Int) < z.length := by omega
      cases r with
      | zero =>
        have h3 : ¬ (j : Int) - p < m := by omega
        simp [h, hl, h3, hd, run]
      | succ r =>
        have h3 : (j : Int) - p < m := by omega
        by_cases hc : c ∈ y.cps.toList
        · have ih' := ih r f (j + 1) (by rw [List.length_drop] at hk ⊢; omega) (by omega) (by omega) (by omega) (by omega)
          have hc' : c ∈ y.cps := by simpa using hc
          have e2 : ((j : Int) + 1) = ((j + 1 : Nat) : Int) := by push_cast; rfl
          simp only [tAnd2_, asB_, mBin_, mCall_, mCons_, mNil_, mIx_, varS, var0, Res.bind_ok, calm_ok, len_str z S h, ltI, subI, hl, h3, ix_str z S h e, in_str, hc, decide_true, if_true, toOut_ok, sAsg_nm, mCon_, addI, List.set_cons_succ, List.set_cons_zero]
          rw [e2, ih', hd]
          have e3 : run y.cps.toList (c :: z.cps.toList.drop (j + 1)) (r + 1) = run y.cps.toList (z.cps.toList.drop (j + 1)) r + 1 := if_pos hc
          rw [e3]
          congr 8
          omega
        · have hc' : c ∉ y.cps := by simpa using hc
          simp [h, hl, h3, ix_str z S h e, in_str, hc', hd, run]
    · have hl : ¬ (j : Int) < z.length := by omega
      have h0 : z.cps.toList.drop j = [] := List.drop_eq_nil_of_le (by rw [len_cps]; omega)
      simp [h, hl, h0, run]
end ZP

set_option Elab.async false
set_option linter.all false
set_option maxRecDepth 100000
set_option maxHeartbeats 4000000
/-! k74 in plain Lean: one piece is read. -/
namespace ZP
open PySem PySem.Spec PyProof.Rows L2 Z ZT PySem.NumText PySem.W
theorem end_of (z y : Str) (S : Sto) (h : z.length ≤ sizeLine) (p m : Nat) (hp : p ≤ z.length) : f_end_of [.str z, .int (p : Int), .str y, .int (m : Int)] S = .ok (.int ((p + run y.cps.toList (z.cps.toList.drop p) m : Nat) : Int)) S := by
  unfold f_end_of mFun b_end_of
  have e := end_loop z y S h p m (z.cps.toList.drop p).length m wfuel p (Nat.le_refl _) (Nat.le_refl _) hp (by omega) (by
    rw [List.length_drop, len_cps]
    rw [sizeLine_eq] at h
    unfold wfuel
    omega)
  simp only [startE, List.map_cons, List.map_nil, List.length_cons, List.length_nil, sCons_, sAsg_nm, varS, var0, toOut_ok, seq_nx, List.cons_append, List.nil_append, List.set_cons_succ, List.set_cons_zero]
  unfold sWhile
  have e0 : List.replicate (5 - (0 + 1 + 1 + 1 + 1)) (none : Option D) = [none] := rfl
  rw [e0]
  simp only [List.set_cons_zero]
  rw [e]
  simp only [seq_nx, sRet_, varS, var0, toOut_ok, endR_rt]
  exact gcR_self rfl
theorem run_all {l : List Nat} : ∀ {w rest : List Nat} {m : Nat}, (∀ c ∈ w, c ∈ l) → w.length ≤ m → (∀ c r, rest = c :: r → c ∉ l) → run l (w ++ rest) m = w.length
  | [], rest, m, _, _, hr => by
    cases rest with
    | nil => cases m <;> rfl
    | cons c r =>
      cases m with
      | zero => rfl
      | succ m => exact if_neg (hr c r rfl)
  | c :: w, rest, m, hw, hm, hr => by
    cases m with
    | zero => simp at hm
    | succ m =>
      have h1 := run_all (l := l) (w := w) (rest := rest) (m := m) (fun d hd => hw d (List.mem_cons_of_mem _ hd)) (by simpa using hm) hr
      show (if c ∈ l then run l (w ++ rest) m + 1 else 0) = _
      rw [if_pos (hw c (List.mem_cons_self)), h1]; rfl
/-- a part of a text -/
theorem cut_part {z : Str} {p : Nat} {w rest : List Nat} (h : z.cps.toList.drop p = w ++ rest) (hp : p ≤ z.length) : (cutS z (some (p : Int)) (some ((p + w.length : Nat) : Int))).cps.toList = w := by
  have hl : p + w.length ≤ z.length := by
    have := congrArg List.length h
    rw [List.length_drop, len_cps, List.length_append] at this
    omega
  unfold cutS HT.sIx
  simp only [List.toList_toArray]
  rw [if_neg (by omega), if_neg (by omega)]
  have e1 : min (p : Int).toNat z.length = p := by omega
  have e2 : min ((p + w.length : Nat) : Int).toNat z.length = p + w.length := by omega
  rw [e1, e2, h, Nat.add_sub_cancel_left, List.take_left]
/-! ### numerals -/
def tn (m : Nat) : List Nat := (Nat.toDigits 10 m).map Char.toNat
theorem tn_digits (m : Nat) : AllDigits (tn m) := by
  intro c hc
  obtain ⟨ch, hch, e⟩ := List.mem_map.mp hc
  have r := digit_range (Nat.isDigit_of_mem_toDigits (by decide) (by decide) hch)
  rw [← e]
  exact r
theorem tn_ne (m : Nat) : tn m ≠ [] := by
  intro e
  have h := toDigits_len_ge 10 m
  rw [List.map_eq_nil_iff.mp e] at h
  exact absurd h (by decide)
theorem tn_zero : tn 0 = [48] := by decide
theorem tn_step {m : Nat} (h : 10 ≤ m) : tn m = tn (m / 10) ++ [48 + m % 10] := by
  have hm : m % 10 < 10 := Nat.mod_lt m (by decide)
  have t : Nat.toDigits 10 (m / 10) ++ Nat.toDigits 10 (m % 10) = Nat.toDigits 10 (10 * (m / 10) + m % 10) := Nat.toDigits_append_toDigits (by decide) (by omega) hm
  rw [Nat.div_add_mod] at t
  unfold tn
  rw [← t, List.map_append, Nat.toDigits_of_lt_base hm]
  have d : ∀ d : Nat, d < 10 → (Nat.digitChar d).toNat = 48 + d := by decide
  rw [List.map_singleton, d _ hm]
theorem tn_small {m : Nat} (h : m < 10) : tn m = [48 + m] := by
  have d : ∀ d : Nat, d < 10 → (Nat.digitChar d).toNat = 48 + d := by decide
  unfold tn
  rw [Nat.toDigits_of_lt_base h, List.map_singleton, d _ h]
theorem tn_head (m : Nat) (h : 0 < m) : ∃ c r, tn m = c :: r ∧ 49 ≤ c ∧ c ≤ 57 := by
  induction m using Nat.strongRecOn with
  | _ m ih =>
    by_cases h10 : m < 10
    · exact ⟨48 + m, [], tn_small h10, by omega, by omega⟩
    · obtain ⟨c, r, e, h1, h2⟩ := ih (m / 10) (by omega) (by omega)
      exact ⟨c, r ++ [48 + m % 10], by rw [tn_step (by omega), e]; rfl, h1, h2⟩
theorem tn_len {m k : Nat} (hk : 0 < k) (h : m < 10 ^ k) : (tn m).length ≤ k := by
  unfold tn
  rw [List.length_map]
  exact digits10_le hk h
theorem tn_read {x : Str} {m : Nat} (hx : x.cps.toList = tn m) (h : m < 10 ^ 4000) : PySem.intText? x = some (m : Int) ∧ x.length ≤ 4000 := by
  have hl : x.length ≤ 4000 := by
    rw [← len_cps, hx]
    exact tn_len (by decide) h
  have e := intText_digits (x := x) (by rw [hx]; exact tn_digits m) (by rw [hx]; exact tn_ne m) (by omega)
  rw [hx] at e
  have v : digitsVal (tn m) = m := KIN.val_back m
  rw [v] at e
  exact ⟨e, hl⟩
theorem seen_digits {x : Str} (h : AllDigits x.cps.toList) : (numSeenOf x).length = x.length := by
  have h1 : x.cps.all (· < 128) = true := by
    rw [← Array.all_toList, List.all_eq_true]
    intro c hc
    have := h c hc
    exact decide_eq_true (by omega)
  have h2 : numSeenOf x = x.cps.toList := by
    unfold numSeenOf numTextOf
    rw [if_pos h1]
    have : ∀ l : List Nat, AllDigits l → l.takeWhile (· != 0) = l := fun l => by
      induction l with
      | nil => intro _; rfl
      | cons c l ih =>
        intro hl
        have hc := hl c (List.mem_cons_self)
        have : (c != 0) = true := by simp; omega
        rw [List.takeWhile_cons, this, if_pos rfl, ih hl.tail]
    exact this _ h
  rw [h2, len_cps]
theorem int_tn {x : Str} {m : Nat} (S : Sto) (hx : x.cps.toList = tn m) (h : m < 10 ^ 4000) : intD [.str x] S = .ok (.int m) S := by
  obtain ⟨h1, h2⟩ := tn_read hx h
  unfold Z.intD
  dsimp only
  rw [h1]
  refine if_pos ⟨by rw [sizeLine_eq]; omega, ?_⟩
  rw [seen_digits (by rw [hx]; exact tn_digits m)]
  omega
theorem cps_dig : (Str.ofString "0123456789").cps.toList = [48, 49, 50, 51, 52, 53, 54, 55, 56, 57] := by decide +kernel
theorem mem_dig {c : Nat} : c ∈ (Str.ofString "0123456789").cps.toList ↔ 48 ≤ c ∧ c ≤ 57 := by
  rw [cps_dig]; simp; omega
theorem cps_let : (Str.ofString "abcdefghijklmnopqrstuvwxyz").cps.toList = (List.range 26).map (97 + ·) := by decide +kernel
theorem mem_let {c : Nat} : c ∈ (Str.ofString "abcdefghijklmnopqrstuvwxyz").cps.toList ↔ 97 ≤ c ∧ c ≤ 122 := by
  rw [cps_let, List.mem_map]
  constructor
  · rintro ⟨k, hk, rfl⟩
    have := List.mem_range.mp hk
    omega
  · intro h
    exact ⟨c - 97, List.mem_range.mpr (by omega), by omega⟩
theorem cps_sig : (Str.ofString "abcdefghijklmnopqrstuvwxyz0123456789").cps.toList = (Str.ofString "abcdefghijklmnopqrstuvwxyz").cps.toList ++ (Str.ofString "0123456789").cps.toList := by decide +kernel
theorem mem_sig {c : Nat} : c ∈ (Str.ofString "abcdefghijklmnopqrstuvwxyz0123456789").cps.toList ↔ (97 ≤ c ∧ c ≤ 122) ∨ (48 ≤ c ∧ c ≤ 57) := by
  rw [cps_sig, List.mem_append, mem_let, mem_dig]
/-- 0 or a numeral, at p -/
theorem read_number {z : Str} (S : Sto) (h : z.length ≤ sizeLine) {p m : Nat} {rest : List Nat} (hm : m < 10 ^ 4000) (hz : z.cps.toList.drop p = tn m ++ rest) (hr : ∀ c r, rest = c :: r → ¬ (48 ≤ c ∧ c ≤ 57)) :
    f_read_number [.str z, .int (p : Int)] S = .ok (.tup [.int m, .int ((p + (tn m).length : Nat) : Int)]) S := by
  obtain ⟨c, r, ec⟩ : ∃ c r, tn m = c :: r := by
    cases q : tn m with
    | nil => exact absurd q (tn_ne m)
    | cons c r => exact ⟨c, r, rfl⟩
  have hp : p < z.length := by
    have := congrArg List.length hz
    rw [List.length_drop, len_cps, ec] at this
    simp at this
    omega
  have hat : z.cps.toList[p]? = some c := by
    have : (z.cps.toList.drop p)[0]? = some c := by rw [hz, ec]; rfl
    rwa [List.getElem?_drop] at this
  have hsl : (2 : Nat) ≤ sizeLine := by rw [sizeLine_eq]; omega
  unfold f_read_number mFun b_read_number
  by_cases h0 : m = 0
  · subst h0
    have ec' : c = 48 := by rw [tn_zero] at ec; cases ec; rfl
    subst ec'
    have e1 : ({ cps := #[48] } : Str) = Str.ofString "0" := by decide +kernel
    simp [startE, ix_str z S h hat, eqS, e1, mTup, hsl, tn_zero]
    exact gcR_self rfl
  · obtain ⟨c', r', e', h1, h2⟩ := tn_head m (by omega)
    have ecc : c = c' := by rw [ec] at e'; cases e'; rfl
    subst ecc
    have e1 : ¬ ({ cps := #[c] } : Str) = Str.ofString "0" := fun w => by
      have : ({ cps := #[c] } : Str) = ⟨#[48]⟩ := w.trans (by decide +kernel)
      have : (#[c] : Array Nat) = #[48] := congrArg Str.cps this
      simp at this
      omega
    have hrun : run (Str.ofString "0123456789").cps.toList (z.cps.toList.drop p) 4000 = (tn m).length := by
      rw [hz]
      exact run_all (fun d hd => mem_dig.mpr (tn_digits m d hd)) (tn_len (by decide) hm) fun d r e => fun q => hr d r e (mem_dig.mp q)
    have he := end_of z (Str.ofString "0123456789") S h p 4000 (by omega)
    rw [hrun] at he
    have hcut := cut_part (z := z) (p := p) hz (by omega)
    have hint := int_tn (x := cutS z (some (p : Int)) (some ((p + (tn m).length : Nat) : Int))) S hcut hm
    have he' : f_end_of [.str z, .int (p : Int), .str "0123456789", .int 4000] S = .ok (.int ((p + (tn m).length : Nat) : Int)) S := he
    simp [startE, ix_str z S h hat, eqS, e1, mTup, hsl, c_DIGITS, c_MOST_DIGITS, he', mSl, mPart, slD, h]
    have hint' : Z.intD [D.str (cutS z (some (p : Int)) (some ((p : Int) + ((tn m).length : Int))))] S = .ok (.int m) S := by
      have e : ((p + (tn m).length : Nat) : Int) = (p : Int) + ((tn m).length : Int) := by push_cast; rfl
      rw [← e]; exact hint
    simp [hint', hsl]
    exact gcR_self rfl
def Sig (c : Nat) : Prop := (97 ≤ c ∧ c ≤ 122) ∨ (48 ≤ c ∧ c ≤ 57)
theorem read_word {z : Str} (S : Sto) (h : z.length ≤ sizeLine) {p : Nat} {w rest : List Nat} (hw : ∀ c ∈ w, Sig c) (hl : w.length ≤ 12) (hp : p ≤ z.length) (hz : z.cps.toList.drop p = w ++ rest) (hr : ∀ c r, rest = c :: r → ¬ Sig c) :
    f_read_word [.str z, .int (p : Int)] S = .ok (.tup [(findS ⟨w.toArray⟩ t_SPECIAL).getD (.str ⟨w.toArray⟩), .int ((p + w.length : Nat) : Int)]) S := by
  have hsl : (2 : Nat) ≤ sizeLine := by rw [sizeLine_eq]; omega
  have hrun : run (Str.ofString "abcdefghijklmnopqrstuvwxyz0123456789").cps.toList (z.cps.toList.drop p) 12 = w.length := by
    rw [hz]
    exact run_all (fun d hd => mem_sig.mpr (hw d hd)) hl fun d r e => fun q => hr d r e (mem_sig.mp q)
  have he := end_of z (Str.ofString "abcdefghijklmnopqrstuvwxyz0123456789") S h p 12 hp
  rw [hrun] at he
  have he' : f_end_of [.str z, .int (p : Int), .str "abcdefghijklmnopqrstuvwxyz0123456789", .int 12] S = .ok (.int ((p + w.length : Nat) : Int)) S := he
  have e : ((p + w.length : Nat) : Int) = (p : Int) + (w.length : Int) := by push_cast; rfl
  have hcut : cutS z (some (p : Int)) (some ((p : Int) + (w.length : Int))) = ⟨w.toArray⟩ := by
    apply Str.ext'
    apply Array.toList_inj.mp
    rw [← e, cut_part (z := z) (p := p) hz hp]
  unfold f_read_word mFun b_read_word
  cases q : findS ⟨w.toArray⟩ t_SPECIAL with
  | none =>
    simp [startE, mTup, hsl, c_SIGNS, c_MOST_SIGNS, he', mSl, mPart, slD, h, hcut, mTab, Z.tabIn, q]
    exact gcR_self rfl
  | some d =>
    simp [startE, mTup, hsl, c_SIGNS, c_MOST_SIGNS, he', mSl, mPart, slD, h, hcut, mTab, Z.tabIn, Z.tabIx, q]
    have hd : noRef (.tup [d, .int ((p : Int) + (w.length : Int))]) = true := rfl
    exact gcR_self rfl
/-- a word that is not one of the special ones -/
structure Wd (x : Str) : Prop where
  hd : ∃ c r, x.cps.toList = c :: r ∧ (97 ≤ c ∧ c ≤ 122) ∧ (∀ d ∈ r, Sig d) ∧ r.length ≤ 11
  no : findS x t_SPECIAL = none
/-- an atom and its text -/
inductive Atom : D → List Nat → Prop
  | non : Atom .non [110, 111, 110, 101]
  | yes : Atom (.bl true) [121, 101, 115]
  | no : Atom (.bl false) [110, 111]
  | dash : Atom (.str "") [45]
  | word {x : Str} : Wd x → Atom (.str x) x.cps.toList
  | nat {m : Nat} : m < 10 ^ 4000 → Atom (.int (m : Int)) (tn m)
  | neg {m : Nat} : 0 < m → m < 10 ^ 4000 → Atom (.int (-(m : Int))) (45 :: tn m)
theorem read_sign_neg {z : Str} (S : Sto) (h : z.length ≤ sizeLine) {p m : Nat} {rest : List Nat} (h0 : 0 < m) (hm : m < 10 ^ 4000) (hz : z.cps.toList.drop p = 45 :: tn m ++ rest) (hr : ∀ c r, rest = c :: r → ¬ Sig c) :
    f_read_sign [.str z, .int (p : Int)] S = .ok (.tup [.int (-(m : Int)), .int ((p + (45 :: tn m).length : Nat) : Int)]) S := by
  have hsl : (2 : Nat) ≤ sizeLine := by rw [sizeLine_eq]; omega
  obtain ⟨c, r, ec, h1, h2⟩ := tn_head m h0
  have hz2 : z.cps.toList.drop (p + 1) = tn m ++ rest := by
    rw [← List.drop_drop, hz]; rfl
  have hat : z.cps.toList[p + 1]? = some c := by
    have : (z.cps.toList.drop (p + 1))[0]? = some c := by rw [hz2, ec]; rfl
    rwa [List.getElem?_drop] at this
  have hp : p + 1 < z.length := by
    have := (List.getElem?_eq_some_iff.mp hat).1
    rwa [len_cps] at this
  have hn := read_number S h hm hz2 (fun c r e q => hr c r e (.inr q))
  have e : ((p + 1 : Nat) : Int) = (p : Int) + 1 := by push_cast; rfl
  have hat' := ix_str z S h hat
  rw [e] at hn hat'
  have hl : (p : Int) + 1 < z.length := by omega
  have e9 : (Str.ofString "123456789").cps.toList = [49, 50, 51, 52, 53, 54, 55, 56, 57] := by decide +kernel
  have hc9 : c ∈ (Str.ofString "123456789").cps.toList := by rw [e9]; simp; omega
  have hin : inD (.str ⟨#[c]⟩) (.str "123456789") S = .ok (.bl true) S := by
    rw [in_str, decide_eq_true hc9]
  unfold f_read_sign mFun b_read_sign
  simp [startE, h, hl, hat', hin, hn, mTup, hsl, sAsg, Tg.put, setAll]
  rw [gcR_self rfl]
  have e5 : (p : Int) + 1 + ((tn m).length : Int) = (p : Int) + (((tn m).length : Int) + 1) := by omega
  first | rw [e5] | simp [e5] | trace_state
theorem read_sign_dash {z : Str} (S : Sto) (h : z.length ≤ sizeLine) {p : Nat} {rest : List Nat} (hz : z.cps.toList.drop p = [45] ++ rest) (hr : ∀ c r, rest = c :: r → ¬ Sig c) :
    f_read_sign [.str z, .int (p : Int)] S = .ok (.tup [.str "", .int ((p + [45].length : Nat) : Int)]) S := by
  have hsl : (2 : Nat) ≤ sizeLine := by rw [sizeLine_eq]; omega
  have hz2 : z.cps.toList.drop (p + 1) = rest := by
    rw [← List.drop_drop, hz]; rfl
  have e : ((p + 1 : Nat) : Int) = (p : Int) + 1 := by push_cast; rfl
  unfold f_read_sign mFun b_read_sign
  by_cases hp : p + 1 < z.length
  · have hp' : p + 1 < z.cps.toList.length := by rw [len_cps]; exact hp
    have hat := List.getElem?_eq_getElem hp'
    generalize z.cps.toList[p + 1] = c at hat
    have hc : ¬ Sig c := by
      cases rest with
      | nil =>
        have := congrArg List.length hz2
        rw [List.length_drop, len_cps] at this
        simp at this
        omega
      | cons d r =>
        have : (z.cps.toList.drop (p + 1))[0]? = some d := by rw [hz2]; rfl
        rw [List.getElem?_drop] at this
        have ed : c = d := by
          have q : z.cps.toList[p + 1]? = some d := this
          rw [hat] at q; exact Option.some.inj q
        rw [ed]; exact hr d r rfl
    have hat' := ix_str z S h hat
    rw [e] at hat'
    have hl : (p : Int) + 1 < z.length := by omega
    have e9 : (Str.ofString "123456789").cps.toList = [49, 50, 51, 52, 53, 54, 55, 56, 57] := by decide +kernel
    have hc9 : c ∉ (Str.ofString "123456789").cps.toList := by
      rw [e9]; intro q
      refine hc (.inr ?_)
      simp at q; omega
    have hin : inD (.str ⟨#[c]⟩) (.str "123456789") S = .ok (.bl false) S := by
      rw [in_str, decide_eq_false hc9]
    simp [startE, h, hl, hat', hin, mTup, hsl]
    exact gcR_self rfl
  · have hl : ¬ (p : Int) + 1 < z.length := by omega
    simp [startE, h, hl, mTup, hsl]
    exact gcR_self rfl
end ZP

set_option Elab.async false
set_option linter.all false
set_option maxRecDepth 100000
set_option maxHeartbeats 4000000
/-! k74 in plain Lean: a piece; the texts. -/
namespace ZP
open PySem PySem.Spec PyProof.Rows L2 Z ZT PySem.NumText
theorem at_drop {z : Str} {p c : Nat} {l : List Nat} (h : z.cps.toList.drop p = c :: l) : z.cps.toList[p]? = some c ∧ p < z.length := by
  have h1 : z.cps.toList[p]? = some c := by
    have : (z.cps.toList.drop p)[0]? = some c := by rw [h]; rfl
    rwa [List.getElem?_drop] at this
  refine ⟨h1, ?_⟩
  have := (List.getElem?_eq_some_iff.mp h1).1
  rwa [len_cps] at this
theorem word_special : findS (⟨#[110, 111, 110, 101]⟩ : Str) t_SPECIAL = some .non ∧ findS (⟨#[121, 101, 115]⟩ : Str) t_SPECIAL = some (.bl true) ∧ findS (⟨#[110, 111]⟩ : Str) t_SPECIAL = some (.bl false) := by
  have e1 : (⟨#[110, 111, 110, 101]⟩ : Str) = Str.ofString "none" := by decide +kernel
  have e2 : (⟨#[121, 101, 115]⟩ : Str) = Str.ofString "yes" := by decide +kernel
  have e3 : (⟨#[110, 111]⟩ : Str) = Str.ofString "no" := by decide +kernel
  have n1 : ¬ Str.ofString "yes" = Str.ofString "none" := by decide +kernel
  have n2 : ¬ Str.ofString "no" = Str.ofString "none" := by decide +kernel
  have n3 : ¬ Str.ofString "yes" = Str.ofString "no" := by decide +kernel
  rw [e1, e2, e3]
  unfold t_SPECIAL
  simp [findS, n1, n2, n3]
theorem piece_word {z : Str} (S : Sto) (h : z.length ≤ sizeLine) {p c : Nat} {w rest : List Nat} {d : D} (hc : 97 ≤ c ∧ c ≤ 122) (hw : ∀ c ∈ w, Sig c) (hl : w.length ≤ 11) (hz : z.cps.toList.drop p = c :: w ++ rest) (hr : ∀ c r, rest = c :: r → ¬ Sig c) (hd : (findS ⟨(c :: w).toArray⟩ t_SPECIAL).getD (.str ⟨(c :: w).toArray⟩) = d) :
    f_read_piece [.str z, .int (p : Int)] S = .ok (.tup [d, .int ((p + (c :: w).length : Nat) : Int)]) S := by
  obtain ⟨hat, hp⟩ := at_drop hz
  have hn := read_word S h (p := p) (w := c :: w) (fun x hx => by
    rcases List.mem_cons.mp hx with e | hx
    · rw [e]; exact .inl hc
    · exact hw x hx) (by simpa using hl) (by omega) hz hr
  rw [hd] at hn
  have hge : ¬ (z.length : Int) ≤ p := by omega
  have hin : inD (.str ⟨#[c]⟩) (.str "abcdefghijklmnopqrstuvwxyz") S = .ok (.bl true) S := by
    rw [in_str, decide_eq_true (mem_let.mpr hc)]
  unfold f_read_piece mFun b_read_piece
  simp [startE, h, hge, ix_str z S h hat, c_LETTERS, hin, hn]
  exact gcR_self rfl
theorem piece_num {z : Str} (S : Sto) (h : z.length ≤ sizeLine) {p m : Nat} {rest : List Nat} (hm : m < 10 ^ 4000) (hz : z.cps.toList.drop p = tn m ++ rest) (hr : ∀ c r, rest = c :: r → ¬ Sig c) :
    f_read_piece [.str z, .int (p : Int)] S = .ok (.tup [.int m, .int ((p + (tn m).length : Nat) : Int)]) S := by
  obtain ⟨c, r, ec⟩ : ∃ c r, tn m = c :: r := by
    cases q : tn m with
    | nil => exact absurd q (tn_ne m)
    | cons c r => exact ⟨c, r, rfl⟩
  have hcd : 48 ≤ c ∧ c ≤ 57 := tn_digits m c (by rw [ec]; exact List.mem_cons_self)
  have hz' := hz
  rw [ec] at hz'
  obtain ⟨hat, hp⟩ := at_drop hz'
  have hn := read_number S h hm hz (fun c r e q => hr c r e (.inr q))
  have hge : ¬ (z.length : Int) ≤ p := by omega
  have hin : inD (.str ⟨#[c]⟩) (.str "abcdefghijklmnopqrstuvwxyz") S = .ok (.bl false) S := by
    rw [in_str, decide_eq_false (fun q => by have := mem_let.mp q; omega)]
  have hin2 : inD (.str ⟨#[c]⟩) (.str "0123456789") S = .ok (.bl true) S := by
    rw [in_str, decide_eq_true (mem_dig.mpr hcd)]
  unfold f_read_piece mFun b_read_piece
  simp [startE, h, hge, ix_str z S h hat, c_LETTERS, c_DIGITS, hin, hin2, hn]
  exact gcR_self rfl
theorem piece_sign {z : Str} (S : Sto) (h : z.length ≤ sizeLine) {p : Nat} {l : List Nat} {d : D} {k : Int} (hz : z.cps.toList.drop p = 45 :: l) (hn : f_read_sign [.str z, .int (p : Int)] S = .ok (.tup [d, .int k]) S) :
    f_read_piece [.str z, .int (p : Int)] S = .ok (.tup [d, .int k]) S := by
  obtain ⟨hat, hp⟩ := at_drop hz
  have hge : ¬ (z.length : Int) ≤ p := by omega
  have hin : inD (.str ⟨#[45]⟩) (.str "abcdefghijklmnopqrstuvwxyz") S = .ok (.bl false) S := by
    rw [in_str, decide_eq_false (fun q => by have := mem_let.mp q; omega)]
  have hin2 : inD (.str ⟨#[45]⟩) (.str "0123456789") S = .ok (.bl false) S := by
    rw [in_str, decide_eq_false (fun q => by have := mem_dig.mp q; omega)]
  have e1 : ({ cps := #[45] } : Str) = Str.ofString "-" := by decide +kernel
  rw [e1] at hin hin2
  unfold f_read_piece mFun b_read_piece
  simp [startE, h, hge, ix_str z S h hat, c_LETTERS, c_DIGITS, hin, hin2, eqS, e1, hn]
  exact gcR_self (d := .tup [d, .int k]) rfl
theorem read_atom {z : Str} (S : Sto) (h : z.length ≤ sizeLine) {p : Nat} {w rest : List Nat} {d : D} (A : Atom d w) (hz : z.cps.toList.drop p = w ++ rest) (hr : ∀ c r, rest = c :: r → ¬ Sig c) :
    f_read_piece [.str z, .int (p : Int)] S = .ok (.tup [d, .int ((p + w.length : Nat) : Int)]) S := by
  obtain ⟨s1, s2, s3⟩ := word_special
  cases A with
  | non => exact piece_word S h (c := 110) (w := [111, 110, 101]) (by omega) (by simp [Sig]) (by simp) hz hr (by show (findS (⟨#[110, 111, 110, 101]⟩ : Str) t_SPECIAL).getD _ = _; rw [s1]; rfl)
  | yes => exact piece_word S h (c := 121) (w := [101, 115]) (by omega) (by simp [Sig]) (by simp) hz hr (by show (findS (⟨#[121, 101, 115]⟩ : Str) t_SPECIAL).getD _ = _; rw [s2]; rfl)
  | no => exact piece_word S h (c := 110) (w := [111]) (by omega) (by simp [Sig]) (by simp) hz hr (by show (findS (⟨#[110, 111]⟩ : Str) t_SPECIAL).getD _ = _; rw [s3]; rfl)
  | dash => exact piece_sign S h hz (read_sign_dash S h hz hr)
  | word W =>
    rename_i x
    obtain ⟨⟨c, r, e, h1, h2, h3⟩, hno⟩ := W
    rw [e] at hz ⊢
    refine piece_word S h h1 h2 h3 hz hr ?_
    have : (⟨(c :: r).toArray⟩ : Str) = x := by
      apply Str.ext'
      apply Array.toList_inj.mp
      rw [e]
    rw [this, hno]; rfl
  | nat hm => exact piece_num S h hm hz hr
  | neg h0 hm => exact piece_sign S h hz (read_sign_neg S h h0 hm hz hr)
end ZP

set_option Elab.async false
set_option linter.all false
set_option maxRecDepth 100000
set_option maxHeartbeats 4000000
/-! k74 in plain Lean: the rows of the reader. -/
namespace ZP
open PySem PySem.Spec PyProof.Rows L2 Z ZT
/-- the store above S0: the rows, and things that nobody holds any more -/
structure Pst (S0 S : Sto) (rows : List (List D)) : Prop where
  base : ∀ m, m < S0.length → look S m = look S0 m
  len : S0.length < S.length
  rs : ∃ rs : List Nat, look S S0.length = some (.lst (rs.map D.ref)) ∧ rs.length = rows.length ∧ rs.Nodup ∧ ∀ (i r : Nat), rs[i]? = some r → S0.length < r ∧ ∃ row, rows[i]? = some row ∧ look S r = some (.lst row)
theorem look_cons_lt {α : Type} {x : α} {xs : List α} {m : Nat} (h : m < xs.length) : look (x :: xs) m = look xs m := if_neg (by omega)
section
variable {S0 S : Sto} {rows : List (List D)}
theorem Pst.start : Pst S0 (.lst [] :: S0) [] := by
  refine ⟨fun m h => look_cons_lt h, by simp, [], look_top, rfl, List.nodup_nil, fun i r h => ?_⟩
  simp at h
theorem Pst.rows_len (P : Pst S0 S rows) : lenD [.ref S0.length] S = .ok (.int rows.length) S := by
  obtain ⟨rs, h1, h2, _⟩ := P.rs
  unfold lenD asQ asL
  dsimp only
  rw [h1]
  dsimp only
  rw [List.length_map, h2]
/-- rows.append([]) -/
theorem Pst.push (P : Pst S0 S rows) : ∃ S', appAt (.ref S0.length) (.ref S.length) (.lst [] :: S) = (if rows.length < sizeLine then .ok .non S' else .bad) ∧ Pst S0 S' (rows ++ [[]]) := by
  obtain ⟨rs, h1, h2, h3, h4⟩ := P.rs
  have hl := P.len
  have e1 : look (O.lst [] :: S) S0.length = some (.lst (rs.map D.ref)) := by rw [look_cons_lt hl]; exact h1
  refine ⟨put (.lst [] :: S) S0.length (.lst (rs.map D.ref ++ [.ref S.length])), ?_, ?_⟩
  · unfold appAt
    dsimp only
    rw [e1]
    dsimp only
    rw [List.length_map, h2]
  · refine ⟨fun m hm => ?_, by rw [put_length]; simp; omega, rs ++ [S.length], ?_, by simp [h2], ?_, fun i r hi => ?_⟩
    · rw [look_put_ne (by omega), look_cons_lt (by omega)]; exact P.base m hm
    · rw [look_put_same (by simp; omega)]; simp
    · rw [List.nodup_append]
      refine ⟨h3, by simp, fun a ha b hb => ?_⟩
      obtain ⟨i, hi⟩ := List.getElem?_of_mem ha
      obtain ⟨_, row, _, q⟩ := h4 i a hi
      have := look_lt q
      simp at hb
      omega
    · by_cases hlt : i < rs.length
      · rw [List.getElem?_append_left hlt] at hi
        obtain ⟨q1, row, q2, q3⟩ := h4 i r hi
        have := look_lt q3
        refine ⟨q1, row, by rw [List.getElem?_append_left (by rw [← h2]; exact hlt)]; exact q2, ?_⟩
        rw [look_put_ne (by omega), look_cons_lt this]; exact q3
      · rw [List.getElem?_append_right (by omega)] at hi
        have e0 : i - rs.length = 0 := by
          by_cases q : i - rs.length = 0
          · exact q
          · rw [List.getElem?_eq_none (by simp; omega)] at hi; cases hi
        rw [e0] at hi
        have er : S.length = r := by simpa using hi
        subst er
        refine ⟨hl, [], ?_, ?_⟩
        · rw [List.getElem?_append_right (by omega), show i - rows.length = 0 by omega]; rfl
        · rw [look_put_ne (by omega)]; exact look_top
/-- the last row -/
theorem Pst.last {row : List D} (P : Pst S0 S (rows ++ [row])) : ∃ r, S0.length < r ∧ look S r = some (.lst row) ∧ ixD (.ref S0.length) (.int (-1)) S = .ok (.ref r) S ∧
    (∃ S', popAt (.ref S0.length) S = .ok (.ref r) S' ∧ Pst S0 S' rows ∧ look S' r = some (.lst row)) ∧
    ∀ x : D, row.length < sizeLine → ∃ S', appAt (.ref r) x S = .ok .non S' ∧ Pst S0 S' (rows ++ [row ++ [x]]) := by
  obtain ⟨rs, h1, h2, h3, h4⟩ := P.rs
  rw [List.length_append, List.length_singleton] at h2
  obtain ⟨rs', r, rfl⟩ : ∃ rs' r, rs = rs' ++ [r] := by
    have hne : rs ≠ [] := by intro e; rw [e] at h2; simp at h2
    exact ⟨rs.dropLast, rs.getLast hne, (List.dropLast_concat_getLast hne).symm⟩
  have hl' : rs'.length = rows.length := by simpa using h2
  obtain ⟨q1, row', q2, q3⟩ := h4 rs'.length r (by rw [List.getElem?_append_right (Nat.le_refl _)]; simp)
  have er : row' = row := by
    rw [hl', List.getElem?_append_right (Nat.le_refl _)] at q2
    simpa using q2.symm
  subst er
  have hr : r ∉ rs' := fun hm => by
    rw [List.nodup_append] at h3
    exact h3.2.2 r hm r (by simp) rfl
  have hlen := P.len
  have hrl := look_lt q3
  refine ⟨r, q1, q3, ?_, ⟨put S S0.length (.lst (rs'.map D.ref)), ?_, ?_, ?_⟩, fun x hx => ⟨put S r (.lst (row' ++ [x])), ?_, ?_⟩⟩
  · unfold ixD asL
    dsimp only
    rw [h1]
    dsimp only
    rw [List.map_append, List.map_singleton, atI_last]
  · unfold popAt
    dsimp only
    rw [h1]
    simp
  · refine ⟨fun m hm => by rw [look_put_ne (by omega)]; exact P.base m hm, by rw [put_length]; exact hlen, rs', look_put_same hlen, hl', (List.nodup_append.mp h3).1, fun i s hi => ?_⟩
    have hlt := (List.getElem?_eq_some_iff.mp hi).1
    obtain ⟨w1, w, w2, w3⟩ := h4 i s (by rw [List.getElem?_append_left hlt]; exact hi)
    refine ⟨w1, w, by rw [List.getElem?_append_left (by omega)] at w2; exact w2, by rw [look_put_ne (by omega)]; exact w3⟩
  · rw [look_put_ne (by omega)]; exact q3
  · unfold appAt
    dsimp only
    rw [q3]
    exact if_pos hx
  · refine ⟨fun m hm => by rw [look_put_ne (by omega)]; exact P.base m hm, by rw [put_length]; exact hlen, rs' ++ [r], by rw [look_put_ne (by omega)]; exact h1, by simp [hl'], h3, fun i s hi => ?_⟩
    by_cases hlt : i < rs'.length
    · have hi' := hi
      rw [List.getElem?_append_left hlt] at hi'
      obtain ⟨w1, w, w2, w3⟩ := h4 i s hi
      have hne : s ≠ r := fun e => hr (e ▸ List.mem_of_getElem? hi')
      refine ⟨w1, w, by rw [List.getElem?_append_left (by omega)] at w2 ⊢; exact w2, by rw [look_put_ne hne]; exact w3⟩
    · have e0 : i = rs'.length := by
        have := (List.getElem?_eq_some_iff.mp hi).1
        simp at this
        omega
      subst e0
      have es : s = r := by
        rw [List.getElem?_append_right (Nat.le_refl _)] at hi
        simpa using hi.symm
      subst es
      refine ⟨q1, row' ++ [x], by rw [hl', List.getElem?_append_right (Nat.le_refl _)]; simp, look_put_same hrl⟩
end
end ZP

set_option Elab.async false
set_option linter.all false
set_option maxRecDepth 100000
set_option maxHeartbeats 4000000
/-! k74 in plain Lean: the reader's turns. -/
namespace ZP
open PySem PySem.Spec PyProof.Rows L2 Z ZT
noncomputable def itt : MT := tAnd2 (asB (mBin gtD (mCall lenD (mCons (mVar 1) (mNil))) (mCon (.int 0)))) (asB (mApp 3 f_is_at (mCons (mVar 0) (mCons (mVar 2) (mCons (mCon (.str ")")) (mNil))))))
noncomputable def itb : MS := sCons (sAsg (.nm 3) (mCall tupD (mCons (mBin addD (mPop (mVar 1)) (mVal (lDisp (mCons (mVar 3) (mNil))))) (mNil))))
  (sAsg (.nm 2) (mBin addD (mVar 2) (mCon (.int 1))))
noncomputable def aft2 : MS := sCons (sIf (asB (mBin eqD (mCall lenD (mCons (mVar 1) (mNil))) (mCon (.int 0))))
  (sCons (sIf (asB (mBin ltD (mVar 2) (mCall lenD (mCons (mVar 0) (mNil)))))
  (sBad)
  (sNil))
  (sRet (mVar 3)))
  (sNil))
  (sCons (sIf (tNot2 (asB (mApp 3 f_is_at (mCons (mVar 0) (mCons (mVar 2) (mCons (mCon (.str " ")) (mNil)))))))
  (sBad)
  (sNil))
  (sCons (sExpr (mAppend (mIx (mVar 1) (mUn negD (mCon (.int 1)))) (mVar 3)))
  (sAsg (.nm 2) (mBin addD (mVar 2) (mCon (.int 1))))))
noncomputable def hd1 : MS := sIf (tAnd2 (asB (mApp 3 f_is_at (mCons (mVar 0) (mCons (mVar 2) (mCons (mCon (.str "(")) (mNil)))))) (asB (mBin ltD (mCall lenD (mCons (mVar 1) (mNil))) (mCon c_MOST_LEVELS))))
  (sCons (sExpr (mAppend (mVar 1) (mMut (lDisp (mNil)))))
  (sCons (sAsg (.nm 2) (mBin addD (mVar 2) (mCon (.int 1))))
  (sCons (sIf (tNot2 (asB (mApp 3 f_is_at (mCons (mVar 0) (mCons (mVar 2) (mCons (mCon (.str ")")) (mNil)))))))
  (sCnt)
  (sNil))
  (sCons (sExpr (mPop (mVar 1)))
  (sCons (sAsg (.nm 3) (mTup (mNil)))
  (sAsg (.nm 2) (mBin addD (mVar 2) (mCon (.int 1)))))))))
  (sAsg (.tp [3, 2]) (mApp 2 f_read_piece (mCons (mVar 0) (mCons (mVar 2) (mNil)))))
noncomputable def wb : MS := sCons hd1 (sCons (sWhile itt itb) aft2)
theorem b_read_plain_eq : b_read_plain = sCons (sAsg (.nm 1) (mMut (lDisp (mNil)))) (sCons (sAsg (.nm 2) (mCon (.int 0))) (sWhile (asB (mCon (.bl true))) wb)) := rfl
def ev (z : Str) (n p : Nat) (x : Option D) : En := [some (.str z), some (.ref n), some (.int (p : Int)), x]
theorem s40 : (Str.ofString "(") = ⟨#[40]⟩ := by decide +kernel
theorem s41 : (Str.ofString ")") = ⟨#[41]⟩ := by decide +kernel
theorem s32 : (Str.ofString " ") = ⟨#[32]⟩ := by decide +kernel
section
variable {z : Str} {S0 S : Sto} {rows : List (List D)} {p : Nat} {x : Option D}
theorem at40 (h : z.length ≤ sizeLine) : f_is_at [.str z, .int (p : Int), .str "("] S = .ok (.bl (decide (z.cps.toList[p]? = some 40))) S := by
  rw [s40]; exact is_at z S h p 40
theorem at41 (h : z.length ≤ sizeLine) : f_is_at [.str z, .int (p : Int), .str ")"] S = .ok (.bl (decide (z.cps.toList[p]? = some 41))) S := by
  rw [s41]; exact is_at z S h p 41
theorem at32 (h : z.length ≤ sizeLine) : f_is_at [.str z, .int (p : Int), .str " "] S = .ok (.bl (decide (z.cps.toList[p]? = some 32))) S := by
  rw [s32]; exact is_at z S h p 32
theorem nat1 (p : Nat) : ((p : Int) + 1) = ((p + 1 : Nat) : Int) := by push_cast; rfl
/-- an atom -/
theorem hd_atom (h : z.length ≤ sizeLine) {w rest : List Nat} {d : D} (A : Atom d w) (hz : z.cps.toList.drop p = w ++ rest) (hr : ∀ c r, rest = c :: r → ¬ Sig c) (h40 : z.cps.toList[p]? ≠ some 40) :
    hd1 (ev z S0.length p x) S = .nx (ev z S0.length (p + w.length) (some d)) S := by
  have hn := read_atom S h A hz hr
  unfold hd1 ev
  simp only [sIf_, tAnd2_, asB_, mApp_, mCons_, mNil_, varS, var0, mCon_, Res.bind_ok, List.length_cons, List.length_nil, at40 h, decide_eq_false h40, Nat.zero_add, Nat.reduceAdd, if_true, Bool.false_eq_true, if_false, toOut_ok]
  unfold sAsg
  simp only [mApp_, mCons_, mNil_, varS, var0, Res.bind_ok, List.length_cons, List.length_nil, Nat.zero_add, Nat.reduceAdd, if_true, hn, toOut_ok, Tg.put, setAll]
  rfl
/-- the inner loop ends -/
theorem in_stop (h : z.length ≤ sizeLine) (P : Pst S0 S rows) (hs : rows = [] ∨ z.cps.toList[p]? ≠ some 41) (m : Nat) : whileF itt itb (m + 1) (ev z S0.length p x) S = .nx (ev z S0.length p x) S := by
  unfold whileF itt ev
  by_cases hr : rows = []
  · subst hr
    simp [P.rows_len]
  · have h41 : z.cps.toList[p]? ≠ some 41 := hs.resolve_left hr
    have hl : 0 < rows.length := List.length_pos_iff.mpr hr
    have hl' : (0 : Int) < rows.length := by omega
    simp only [tAnd2_, asB_, mBin_, mCall_, mApp_, mCons_, mNil_, varS, var0, mCon_, Res.bind_ok, calm_ok, P.rows_len, gtI, decide_eq_true hl', if_true, List.length_cons, List.length_nil, Nat.zero_add, Nat.reduceAdd, at41 h, decide_eq_false h41, toOut_ok, Bool.false_eq_true, if_false]
theorem sz2 : (2 : Nat) ≤ sizeLine := by rw [sizeLine_eq]; omega
/-- the rows get one more -/
theorem push_env (P : Pst S0 S rows) (hr : rows.length < 60) : ∃ S', mAppend (mVar 1) (mMut (lDisp (mNil))) (ev z S0.length p x) S = .ok .non S' ∧ Pst S0 S' (rows ++ [[]]) := by
  obtain ⟨S', e, P'⟩ := P.push
  have hs : rows.length < sizeLine := by rw [sizeLine_eq]; omega
  rw [if_pos hs] at e
  obtain ⟨rs, h1, _⟩ := P.rs
  have hl : isLst S (.ref S0.length) = true := by
    unfold isLst asL
    dsimp only
    rw [h1]; rfl
  refine ⟨S', ?_, P'⟩
  unfold mAppend mMut lDisp ev
  simp [hl, e]
theorem hd_open (h : z.length ≤ sizeLine) (P : Pst S0 S rows) (hr : rows.length < 60) (h40 : z.cps.toList[p]? = some 40) (h41 : z.cps.toList[p + 1]? ≠ some 41) :
    ∃ S', hd1 (ev z S0.length p x) S = .ct (ev z S0.length (p + 1) x) S' ∧ Pst S0 S' (rows ++ [[]]) := by
  obtain ⟨S', e, P'⟩ := push_env (z := z) (p := p) (x := x) P hr
  have hl' : (rows.length : Int) < 60 := by omega
  refine ⟨S', ?_, P'⟩
  unfold ev at e
  unfold hd1 ev
  simp only [sIf_, sCons_, sExpr_, e, sAsg_nm, tAnd2_, asB_, mApp_, mBin_, mCall_, mCons_, mNil_, varS, var0, mCon_, Res.bind_ok, calm_ok, List.length_cons, List.length_nil, at40 h, decide_eq_true h40, Nat.zero_add, Nat.reduceAdd, if_true, P.rows_len, c_MOST_LEVELS, ltI, decide_eq_true hl', toOut_ok, addI, seq_nx, List.set_cons_succ, List.set_cons_zero, tNot2_, nat1, at41 h, decide_eq_false h41, Bool.not_false]
  rfl
theorem mTup0 (env : En) (S : Sto) : mTup mNil env S = .ok (.tup []) S := by
  unfold mTup
  simp
theorem hd_empty (h : z.length ≤ sizeLine) (P : Pst S0 S rows) (hr : rows.length < 60) (h40 : z.cps.toList[p]? = some 40) (h41 : z.cps.toList[p + 1]? = some 41) :
    ∃ S', hd1 (ev z S0.length p x) S = .nx (ev z S0.length (p + 2) (some (.tup []))) S' ∧ Pst S0 S' rows := by
  obtain ⟨S1, e, P1⟩ := push_env (z := z) (p := p) (x := x) P hr
  obtain ⟨r, _, _, _, ⟨S2, e2, P2, _⟩, _⟩ := P1.last
  have hl' : (rows.length : Int) < 60 := by omega
  refine ⟨S2, ?_, P2⟩
  unfold ev at e
  unfold hd1 ev mPop
  simp only [sIf_, sCons_, sExpr_, e, sAsg_nm, tAnd2_, asB_, mApp_, mBin_, mCall_, mCons_, mNil_, varS, var0, mCon_, Res.bind_ok, calm_ok, List.length_cons, List.length_nil, at40 h, decide_eq_true h40, Nat.zero_add, Nat.reduceAdd, if_true, P.rows_len, c_MOST_LEVELS, ltI, decide_eq_true hl', toOut_ok, addI, seq_nx, List.set_cons_succ, List.set_cons_zero, tNot2_, nat1, at41 h, decide_eq_true h41, Bool.not_true, Bool.false_eq_true, if_false, sNil_, e2, mTup0]
theorem whileF_succ (t : MT) (b : MS) (n : Nat) (env : En) (S : Sto) : whileF t b (n + 1) env S = toOut (t env S) env fun k S1 => if k then (match b env S1 with
    | .nx env' S' => whileF t b n env' S'
    | .ct env' S' => whileF t b n env' S'
    | .bk env' S' => .nx env' S'
    | r => r) else .nx env S1 := rfl
/-- the inner loop, one turn -/
theorem in_one (h : z.length ≤ sizeLine) {row : List D} {d : D} (P : Pst S0 S (rows ++ [row])) (h41 : z.cps.toList[p]? = some 41) (hrow : row.length + 1 ≤ sizeLine) (m : Nat) :
    ∃ S', whileF itt itb (m + 1) (ev z S0.length p (some d)) S = whileF itt itb m (ev z S0.length (p + 1) (some (.tup (row ++ [d])))) S' ∧ Pst S0 S' rows := by
  obtain ⟨r, _, _, _, ⟨S2, e2, P2, q2⟩, _⟩ := P.last
  refine ⟨S2, ?_, P2⟩
  have hl' : (0 : Int) < (rows ++ [row]).length := by simp only [List.length_append, List.length_singleton]; omega
  have hs1 : (1 : Nat) ≤ sizeLine := by rw [sizeLine_eq]; omega
  have hadd : addD (.ref r) (.lst [d]) S2 = .ok (.lst (row ++ [d])) S2 := by
    unfold addD catD asL
    dsimp only
    rw [q2]
    exact if_pos hrow
  have htup : tupD [.lst (row ++ [d])] S2 = .ok (.tup (row ++ [d])) S2 := by
    unfold tupD asR
    first | rfl | (dsimp only; rfl) | trace_state
  rw [whileF_succ]
  unfold itt itb ev
  simp only [tAnd2_, asB_, mBin_, mCall_, mApp_, mCons_, mNil_, varS, var0, mCon_, Res.bind_ok, calm_ok, P.rows_len, gtI, decide_eq_true hl', if_true, List.length_cons, List.length_nil, Nat.zero_add, Nat.reduceAdd, at41 h, decide_eq_true h41, toOut_ok, sCons_, sAsg_nm]
  unfold mPop mVal lDisp
  simp only [varS, var0, Res.bind_ok, e2, mCons_, mNil_, List.length_cons, List.length_nil, Nat.zero_add, hs1, if_true, hadd, calm_ok, htup, toOut_ok, seq_nx, List.set_cons_succ, List.set_cons_zero, addI, nat1]
  try simp only [sAsg_nm, mBin_, varS, var0, mCon_, Res.bind_ok, calm_ok, addI, toOut_ok, List.set_cons_succ, List.set_cons_zero, nat1]
end
end ZP

set_option Elab.async false
set_option linter.all false
set_option maxRecDepth 100000
set_option maxHeartbeats 4000000
/-! k74 in plain Lean: behind a value. -/
namespace ZP
open PySem PySem.Spec PyProof.Rows L2 Z ZT
section
variable {z : Str} {S0 S : Sto} {rows : List (List D)} {p : Nat} {d : D}
theorem aft_space (h : z.length ≤ sizeLine) {row : List D} (P : Pst S0 S (rows ++ [row])) (h32 : z.cps.toList[p]? = some 32) (hrow : row.length < sizeLine) :
    ∃ S', aft2 (ev z S0.length p (some d)) S = .nx (ev z S0.length (p + 1) (some d)) S' ∧ Pst S0 S' (rows ++ [row ++ [d]]) := by
  obtain ⟨r, _, hr, hix, _, hap⟩ := P.last
  obtain ⟨S', e, P'⟩ := hap d hrow
  refine ⟨S', ?_, P'⟩
  have hl' : ¬ ((rows ++ [row]).length : Int) = 0 := by simp only [List.length_append, List.length_singleton]; omega
  have hl : isLst S (.ref r) = true := by
    unfold isLst asL
    dsimp only
    rw [hr]; rfl
  unfold aft2 ev
  simp only [sCons_, sIf_, asB_, mBin_, mCall_, mApp_, mCons_, mNil_, varS, var0, mCon_, Res.bind_ok, calm_ok, P.rows_len, eqI, decide_eq_false hl', toOut_ok, Bool.false_eq_true, if_false, sNil_, seq_nx, tNot2_, List.length_cons, List.length_nil, Nat.zero_add, Nat.reduceAdd, if_true, at32 h, decide_eq_true h32, Bool.not_true, sExpr_, sAsg_nm]
  unfold mAppend
  simp only [mIx_, varS, var0, mUn_, mCon_, Res.bind_ok, calm_ok, negI, hix, hl, if_true, e, toOut_ok, seq_nx, addI, List.set_cons_succ, List.set_cons_zero, nat1]
  simp only [sAsg_nm, mBin_, varS, var0, mCon_, Res.bind_ok, calm_ok, addI, toOut_ok, List.set_cons_succ, List.set_cons_zero, nat1]
theorem aft_end (h : z.length ≤ sizeLine) (P : Pst S0 S []) (hp : ¬ p < z.length) : aft2 (ev z S0.length p (some d)) S = .rt d S := by
  have hl : ¬ (p : Int) < z.length := by omega
  have h0 : ((([] : List (List D)).length : Nat) : Int) = 0 := rfl
  unfold aft2 ev
  simp only [sCons_, sIf_, asB_, mBin_, mCall_, mCons_, mNil_, varS, var0, mCon_, Res.bind_ok, calm_ok, P.rows_len, eqI, decide_eq_true h0, toOut_ok, if_true, len_str z S h, ltI, decide_eq_false hl, Bool.false_eq_true, if_false, sNil_, seq_nx, sRet_, seq_rt]
end
end ZP

set_option Elab.async false
set_option linter.all false
set_option maxRecDepth 100000
set_option maxHeartbeats 4000000
/-! k74 in plain Lean: values are read. -/
namespace ZP
open PySem PySem.Spec PyProof.Rows L2 Z ZT
mutual
/-- a value of depth k, its text -/
inductive Val : Nat → D → List Nat → Prop
  | atom {k : Nat} {d : D} {w : List Nat} : Atom d w → Val k d w
  | nil {k : Nat} : Val (k + 1) (.tup []) [40, 41]
  | tup {k : Nat} {d : D} {w : List Nat} {ds : List D} {ws : List Nat} : ds.length ≤ 900 → Val k d w → Vals k ds ws → Val (k + 1) (.tup (d :: ds)) (40 :: (w ++ ws))
/-- the further elements, with what stands ahead of each, and the end -/
inductive Vals : Nat → List D → List Nat → Prop
  | nil {k : Nat} : Vals k [] [41]
  | cons {k : Nat} {d : D} {w : List Nat} {ds : List D} {ws : List Nat} : Val k d w → Vals k ds ws → Vals k (d :: ds) (32 :: (w ++ ws))
end
theorem atom_head {d : D} {w : List Nat} (A : Atom d w) : ∃ c r, w = c :: r ∧ c ≠ 40 ∧ c ≠ 41 ∧ c ≠ 32 := by
  cases A with
  | non => exact ⟨_, _, rfl, by decide, by decide, by decide⟩
  | yes => exact ⟨_, _, rfl, by decide, by decide, by decide⟩
  | no => exact ⟨_, _, rfl, by decide, by decide, by decide⟩
  | dash => exact ⟨_, _, rfl, by decide, by decide, by decide⟩
  | word W =>
    obtain ⟨⟨c, r, e, h1, _⟩, _⟩ := W
    exact ⟨c, r, e, by omega, by omega, by omega⟩
  | nat hm =>
    rename_i m
    cases q : tn m with
    | nil => exact absurd q (tn_ne m)
    | cons c r =>
      have := tn_digits m c (by rw [q]; exact List.mem_cons_self)
      exact ⟨c, r, rfl, by omega, by omega, by omega⟩
  | neg _ _ => exact ⟨_, _, rfl, by decide, by decide, by decide⟩
theorem val_head {k : Nat} {d : D} {w : List Nat} (V : Val k d w) : ∃ c r, w = c :: r ∧ c ≠ 41 := by
  cases V with
  | atom A => obtain ⟨c, r, e, _, h, _⟩ := atom_head A; exact ⟨c, r, e, h⟩
  | nil => exact ⟨_, _, rfl, by decide⟩
  | tup _ _ _ => exact ⟨_, _, rfl, by decide⟩
theorem vals_head {k : Nat} {ds : List D} {ws : List Nat} (V : Vals k ds ws) : ∃ c r, ws = c :: r ∧ ¬ Sig c := by
  cases V with
  | nil => exact ⟨_, _, rfl, by unfold Sig; omega⟩
  | cons _ _ => exact ⟨_, _, rfl, by unfold Sig; omega⟩
noncomputable abbrev tt1 : MT := asB (mCon (.bl true))
noncomputable def fin (F : Nat) (o : Out) : Out := match o with
  | .nx env S => whileF tt1 wb F env S
  | .ct env S => whileF tt1 wb F env S
  | .bk env S => .nx env S
  | r => r
theorem turn (F : Nat) (env : En) (S : Sto) : whileF tt1 wb (F + 1) env S = fin F (wb env S) := by
  rw [whileF_succ]
  simp only [tt1, asB_, mCon_, Res.bind_ok, toOut_ok, if_true]
  rfl
noncomputable def aftM (m : Nat) (env : En) (S : Sto) : Out := seqO (whileF itt itb m env S) aft2
theorem wb_nx {env env' : En} {S S' : Sto} (h : hd1 env S = .nx env' S') : wb env S = aftM wfuel env' S' := by
  unfold wb
  rw [sCons_, h, seq_nx, sCons_]
  rfl
theorem wb_ct {env env' : En} {S S' : Sto} (h : hd1 env S = .ct env' S') : wb env S = .ct env' S' := by
  unfold wb
  rw [sCons_, h, seq_ct]
theorem drop_at {z : Str} {p c : Nat} {l : List Nat} (h : z.cps.toList.drop p = c :: l) : z.cps.toList.drop (p + 1) = l := by
  rw [← List.drop_drop, h]; rfl
theorem drop_app {z : Str} {p : Nat} {w l : List Nat} (h : z.cps.toList.drop p = w ++ l) : z.cps.toList.drop (p + w.length) = l := by
  rw [← List.drop_drop, h, List.drop_left]
section
variable {z : Str} (h : z.length ≤ sizeLine)
include h
mutual
theorem read_val : ∀ {k : Nat} {d : D} {w : List Nat}, Val k d w → ∀ {S0 S : Sto} {rows : List (List D)} {p : Nat} {x : Option D} {F : Nat} {rest : List Nat}, Pst S0 S rows → rows.length + k ≤ 60 → z.cps.toList.drop p = w ++ rest → (∀ c r, rest = c :: r → ¬ Sig c) → w.length ≤ F →
    ∃ (S' : Sto) (F' m : Nat), Pst S0 S' rows ∧ F ≤ F' + w.length ∧ wfuel ≤ m + k ∧ whileF tt1 wb F (ev z S0.length p x) S = fin F' (aftM m (ev z S0.length (p + w.length) (some d)) S')
  | k, d, w, .atom A, S0, S, rows, p, x, F, rest, P, hk, hz, hr, hF => by
    obtain ⟨c, r, e, h40, _⟩ := atom_head A
    have hat : z.cps.toList[p]? = some c := (at_drop (l := r ++ rest) (by rw [hz, e]; rfl)).1
    obtain ⟨F0, rfl⟩ : ∃ F0, F = F0 + 1 := ⟨F - 1, by rw [e] at hF; simp at hF; omega⟩
    refine ⟨S, F0, wfuel, P, by rw [e]; simp only [List.length_cons]; omega, by omega, ?_⟩
    rw [turn, wb_nx (hd_atom h A hz hr (by rw [hat]; intro q; exact h40 (Option.some.inj q)))]
  | _, _, _, .nil (k := k), S0, S, rows, p, x, F, rest, P, hk, hz, hr, hF => by
    have h1 := (at_drop (l := 41 :: rest) hz).1
    have h2 := (at_drop (l := rest) (drop_at (l := 41 :: rest) hz)).1
    obtain ⟨F0, rfl⟩ : ∃ F0, F = F0 + 1 := ⟨F - 1, by simp at hF; omega⟩
    obtain ⟨S', e, P'⟩ := hd_empty (x := x) h P (by omega) h1 h2
    refine ⟨S', F0, wfuel, P', by simp only [List.length_cons, List.length_nil]; omega, by omega, ?_⟩
    rw [turn, wb_nx e]
    rfl
  | _, _, _, .tup (k := k) (d := d) (w := w) (ds := ds) (ws := ws) hds V Vs, S0, S, rows, p, x, F, rest, P, hk, hz, hr, hF => by
    have hz1 : z.cps.toList.drop p = 40 :: (w ++ (ws ++ rest)) := by rw [hz]; simp
    have h1 := (at_drop hz1).1
    have hz2 := drop_at hz1
    obtain ⟨c, r, ew, hc⟩ := val_head V
    have h2 : z.cps.toList[p + 1]? = some c := (at_drop (l := r ++ (ws ++ rest)) (by rw [hz2, ew]; rfl)).1
    obtain ⟨F0, rfl⟩ : ∃ F0, F = F0 + 1 := ⟨F - 1, by simp at hF; omega⟩
    have hF' : w.length + ws.length ≤ F0 := by simp at hF; omega
    obtain ⟨S1, e1, P1⟩ := hd_open (x := x) h P (by omega) h1 (by rw [h2]; intro q; exact hc (Option.some.inj q))
    obtain ⟨c', r', ews, hc'⟩ := vals_head Vs
    obtain ⟨S2, F2, m2, P2, g1, g2, e2⟩ := read_val V (x := x) (F := F0) P1 (by simp; omega) hz2 (fun c r q => by
      rw [ews] at q; cases q; exact hc') (by omega)
    obtain ⟨S3, F3, m3, P3, g3, g4, e3⟩ := read_vals Vs (done := []) (d := d) (F := F2) (m := m2) (p := p + 1 + w.length) (rest := rest) P2 (by omega) (drop_app hz2) hr (by omega) (by simp; omega) (by omega)
    refine ⟨S3, F3, m3, P3, by simp; omega, by omega, ?_⟩
    rw [turn, wb_ct e1]
    show whileF tt1 wb F0 _ _ = _
    rw [e2, e3]
    have : p + 1 + w.length + ws.length = p + (40 :: (w ++ ws)).length := by simp; omega
    rw [this]
    rfl
theorem read_vals : ∀ {k : Nat} {ds : List D} {ws : List Nat}, Vals k ds ws → ∀ {S0 S : Sto} {rows : List (List D)} {done : List D} {d : D} {p F m : Nat} {rest : List Nat}, Pst S0 S (rows ++ [done]) → rows.length + 1 + k ≤ 60 → z.cps.toList.drop p = ws ++ rest → (∀ c r, rest = c :: r → ¬ Sig c) → ws.length ≤ F + 1 → done.length + ds.length ≤ 1000 → wfuel ≤ m + k →
    ∃ (S' : Sto) (F' m' : Nat), Pst S0 S' rows ∧ F ≤ F' + ws.length ∧ wfuel ≤ m' + (k + 1) ∧ fin F (aftM m (ev z S0.length p (some d)) S) = fin F' (aftM m' (ev z S0.length (p + ws.length) (some (.tup (done ++ d :: ds)))) S')
  | _, _, _, .nil (k := k), S0, S, rows, done, d, p, F, m, rest, P, hk, hz, hr, hF, hd, hm => by
    have h1 := (at_drop (l := rest) hz).1
    obtain ⟨m0, rfl⟩ : ∃ m0, m = m0 + 1 := ⟨m - 1, by unfold wfuel at hm; omega⟩
    have hs : done.length + 1 ≤ sizeLine := by rw [sizeLine_eq]; omega
    obtain ⟨S', e, P'⟩ := in_one h (d := d) P h1 hs m0
    refine ⟨S', F, m0, P', by simp, by omega, ?_⟩
    unfold aftM
    rw [e]
    rfl
  | _, _, _, .cons (k := k) (d := d2) (w := w) (ds := ds) (ws := ws) V Vs, S0, S, rows, done, d, p, F, m, rest, P, hk, hz, hr, hF, hd, hm => by
    have hz1 : z.cps.toList.drop p = 32 :: (w ++ (ws ++ rest)) := by rw [hz]; simp
    have h1 := (at_drop hz1).1
    have hz2 := drop_at hz1
    obtain ⟨m0, rfl⟩ : ∃ m0, m = m0 + 1 := ⟨m - 1, by unfold wfuel at hm; omega⟩
    have hs : done.length < sizeLine := by rw [sizeLine_eq]; omega
    obtain ⟨S1, e1, P1⟩ := aft_space h (d := d) P h1 hs
    obtain ⟨c', r', ews, hc'⟩ := vals_head Vs
    have hF' : w.length + ws.length ≤ F := by simp at hF; omega
    obtain ⟨S2, F2, m2, P2, g1, g2, e2⟩ := read_val V (x := some d) (F := F) P1 (by simp; omega) hz2 (fun c r q => by
      rw [ews] at q; cases q; exact hc') (by omega)
    obtain ⟨S3, F3, m3, P3, g3, g4, e3⟩ := read_vals Vs (done := done ++ [d]) (d := d2) (F := F2) (m := m2) (p := p + 1 + w.length) (rest := rest) P2 (by omega) (drop_app hz2) hr (by omega) (by simp at hd ⊢; omega) (by omega)
    refine ⟨S3, F3, m3, P3, by simp; omega, by omega, ?_⟩
    unfold aftM
    rw [in_stop h P (.inr (by rw [h1]; decide)) m0, seq_nx, e1]
    show whileF tt1 wb F _ _ = _
    rw [e2, e3]
    have : p + 1 + w.length + ws.length = p + (32 :: (w ++ ws)).length := by simp; omega
    rw [this, List.append_assoc]
    rfl
end
end
end ZP

set_option Elab.async false
set_option linter.all false
set_option maxRecDepth 100000
set_option maxHeartbeats 4000000
/-! k74 in plain Lean: a whole text is read. -/
namespace ZP
open PySem PySem.Spec PyProof.Rows L2 Z ZT
theorem look_ext {α : Type} : ∀ {xs ys : List α}, xs.length = ys.length → (∀ m, m < xs.length → look xs m = look ys m) → xs = ys
  | [], [], _, _ => rfl
  | [], _ :: _, h, _ => by cases h
  | _ :: _, [], h, _ => by cases h
  | x :: xs, y :: ys, h, hl => by
    have h' : xs.length = ys.length := by simpa using h
    have e1 : look (x :: xs) xs.length = look (y :: ys) xs.length := hl _ (by simp)
    have e2 : look (x :: xs) xs.length = some x := look_top
    have e3 : look (y :: ys) xs.length = some y := by rw [h']; exact look_top
    have ex : x = y := by rw [e2, e3] at e1; exact Option.some.inj e1
    rw [ex, look_ext h' fun m hm => by
      have := hl m (by simp; omega)
      rwa [look_cons_lt hm, look_cons_lt (by omega)] at this]
theorem atom_nr {d : D} {w : List Nat} (A : Atom d w) (n : Nat) : nrD n d = true ∧ noRef d = true := by
  cases A <;> exact ⟨rfl, rfl⟩
mutual
theorem val_nr : ∀ {k : Nat} {d : D} {w : List Nat}, Val k d w → ∀ n : Nat, nrD n d = true ∧ noRef d = true
  | _, _, _, .atom A, n => atom_nr A n
  | _, _, _, .nil, n => ⟨rfl, rfl⟩
  | _, _, _, .tup _ V Vs, n => ⟨by
    unfold nrD nrDs
    rw [(val_nr V n).1, vals_nr Vs n]; rfl, rfl⟩
theorem vals_nr : ∀ {k : Nat} {ds : List D} {ws : List Nat}, Vals k ds ws → ∀ n : Nat, nrDs n ds = true
  | _, _, _, .nil, n => rfl
  | _, _, _, .cons V Vs, n => by
    unfold nrDs
    rw [(val_nr V n).1, vals_nr Vs n]; rfl
end
/-- the end of a def behind which only the old objects count -/
theorem gcR_base {S S' : Sto} {d : D} (hn : nrD S.length d = true) (h0 : noRef d = true) (hl : S.length ≤ S'.length) (hb : ∀ m, m < S.length → look S' m = look S m) : gcR true S (.ok d S') = .ok d S := by
  show Res.ok (frzTop S.length d S').1 (gcD S (frzTop S.length d S').1 (frzTop S.length d S').2) = _
  rw [frzTop_no h0]
  have e : gcD S d S' = S := by
    unfold gcD
    rw [if_pos ⟨hn, fun m o hm ho => .inr (by rw [← hb m hm]; exact ho)⟩]
    have hlen : (ceilS S.length S').length = S.length := by unfold ceilS; rw [List.length_drop]; omega
    refine look_ext hlen fun m hm => ?_
    rw [hlen] at hm
    unfold ceilS
    rw [look_ceil hl hm]
    exact hb m hm
  rw [e]
theorem read_plain {z : Str} {k : Nat} {d : D} {w : List Nat} (V : Val k d w) (hk : k ≤ 60) (hz : z.cps.toList = w) (h : z.length ≤ sizeLine) (S : Sto) : f_read_plain [.str z] S = .ok d S := by
  have hw : w.length = z.length := by rw [← hz]; exact len_cps z
  have hF : w.length ≤ wfuel := by rw [hw]; rw [sizeLine_eq] at h; unfold wfuel; omega
  obtain ⟨S', F', m, P, _, g, e⟩ := read_val h V (S0 := S) (p := 0) (x := none) (F := wfuel) (rest := []) (Pst.start) (by simp; omega) (by rw [List.drop_zero, hz, List.append_nil]) (fun c r q => by cases q) hF
  obtain ⟨m0, rfl⟩ : ∃ m0, m = m0 + 1 := ⟨m - 1, by unfold wfuel at g; omega⟩
  have e2 : aftM (m0 + 1) (ev z S.length (0 + w.length) (some d)) S' = .rt d S' := by
    unfold aftM
    rw [in_stop h P (.inl rfl) m0, seq_nx]
    exact aft_end h P (by omega)
  rw [e2] at e
  have e3 : b_read_plain (startE 4 [.str z]) S = .rt d S' := by
    rw [b_read_plain_eq]
    have q : sCons (sAsg (.nm 1) (mMut (lDisp mNil))) (sCons (sAsg (.nm 2) (mCon (.int 0))) (sWhile (asB (mCon (.bl true))) wb)) (startE 4 [.str z]) S = whileF tt1 wb wfuel (ev z S.length 0 none) (.lst [] :: S) := by
      unfold mMut lDisp startE sWhile ev
      simp
    rw [q, e]
    rfl
  unfold f_read_plain mFun
  rw [e3]
  obtain ⟨n1, n2⟩ := val_nr V S.length
  exact gcR_base n1 n2 (Nat.le_of_lt P.len) P.base
end ZP

set_option Elab.async false
set_option linter.all false
set_option maxRecDepth 100000
set_option maxHeartbeats 4000000
/-! k74 in plain Lean: texts are written. -/
namespace ZP
open PySem PySem.Spec PyProof.Rows L2 Z ZT
theorem wr_non (r : List D → Sto → Res D) (S : Sto) : mFun true 2 (b_write_plain r) [.non] S = .ok (.str "none") S := by
  unfold mFun b_write_plain
  simp [startE, isiD, tyOf, isSub, isD]
  exact gcR_self rfl
theorem wr_yes (r : List D → Sto → Res D) (S : Sto) : mFun true 2 (b_write_plain r) [.bl true] S = .ok (.str "yes") S := by
  unfold mFun b_write_plain
  simp [startE, isiD, tyOf, isSub, isD]
  exact gcR_self rfl
theorem wr_no (r : List D → Sto → Res D) (S : Sto) : mFun true 2 (b_write_plain r) [.bl false] S = .ok (.str "no") S := by
  unfold mFun b_write_plain
  simp [startE, isiD, tyOf, isSub, isD]
  exact gcR_self rfl
theorem wr_int (r : List D → Sto → Res D) (S : Sto) (i : Int) (h : i.natAbs < 10 ^ 4300) : mFun true 2 (b_write_plain r) [.int i] S = .ok (.str (Str.ofString (toString i))) S := by
  have hs : strD [.int i] S = .ok (.str (Str.ofString (toString i))) S := if_pos h
  unfold mFun b_write_plain
  simp [startE, isiD, tyOf, isSub, isD, hs]
  exact gcR_self rfl
theorem wr_str (r : List D → Sto → Res D) (S : Sto) (x : Str) : mFun true 2 (b_write_plain r) [.str x] S = .ok (.str (if x = Str.ofString "" then Str.ofString "-" else x)) S := by
  unfold mFun b_write_plain
  by_cases e : x = Str.ofString ""
  · subst e
    simp [startE, isiD, tyOf, isSub, isD, eqS]
    exact gcR_self rfl
  · simp [startE, isiD, tyOf, isSub, isD, eqS, e]
    exact gcR_self rfl
end ZP

set_option Elab.async false
set_option linter.all false
set_option maxRecDepth 100000
set_option maxHeartbeats 4000000
/-! k74 in plain Lean: the text of a value. -/
namespace ZP
open PySem PySem.Spec PyProof.Rows L2 Z ZT TL
mutual
/-- the text of a value -/
def tx : D → List Nat
  | .non => [110, 111, 110, 101]
  | .bl true => [121, 101, 115]
  | .bl false => [110, 111]
  | .int i => (Str.ofString (toString i)).cps.toList
  | .str x => if x.cps.toList = [] then [45] else x.cps.toList
  | .tup ds => 40 :: (joinL [32] (txs ds) ++ [41])
  | _ => []
def txs : List D → List (List Nat)
  | [] => []
  | d :: ds => tx d :: txs ds
end
theorem txs_map : ∀ ds : List D, txs ds = ds.map tx
  | [] => rfl
  | d :: ds => by show tx d :: txs ds = _; rw [txs_map ds]; rfl
theorem tx_neg (m : Nat) (h : 0 < m) : (Str.ofString (toString (-(m : Int)))).cps.toList = 45 :: tn m := by
  obtain ⟨j, rfl⟩ : ∃ j, m = j + 1 := ⟨m - 1, by omega⟩
  have e : toString (-((j + 1 : Nat) : Int)) = "-" ++ Nat.repr (j + 1) := rfl
  rw [e]
  unfold tn
  have e2 := PySem.W.KIN.signs_num (j + 1)
  rw [signs_ofString] at e2 ⊢
  have e3 : toString ((j + 1 : Nat) : Int) = Nat.repr (j + 1) := rfl
  rw [e3] at e2
  rw [String.toList_append, List.map_append, e2]
  rfl
theorem atom_tx {d : D} {w : List Nat} (A : Atom d w) : w = tx d := by
  cases A with
  | non => rfl
  | yes => rfl
  | no => rfl
  | dash => rfl
  | word W =>
    rename_i x
    obtain ⟨⟨c, r, e, _⟩, _⟩ := W
    show x.cps.toList = if x.cps.toList = [] then [45] else x.cps.toList
    rw [if_neg (by rw [e]; exact List.cons_ne_nil _ _)]
  | nat hm => exact (PySem.W.KIN.signs_num _).symm
  | neg h0 hm => exact (tx_neg _ h0).symm
mutual
theorem val_tx : ∀ {k : Nat} {d : D} {w : List Nat}, Val k d w → w = tx d
  | _, _, _, .atom A => atom_tx A
  | _, _, _, .nil => rfl
  | _, _, _, .tup (d := d) (ds := ds) _ V Vs => by
    have e1 := val_tx V
    have e2 := vals_tx Vs
    unfold tx txs
    rw [e1, e2]
    cases ds with
    | nil => simp [txs, joinL]
    | cons d2 ds => simp [txs, joinL]
theorem vals_tx : ∀ {k : Nat} {ds : List D} {ws : List Nat}, Vals k ds ws → ws = (match ds with
    | [] => [41]
    | d :: ds => 32 :: (joinL [32] (txs (d :: ds)) ++ [41]))
  | _, _, _, .nil => rfl
  | _, _, _, .cons (d := d) (ds := ds) V Vs => by
    have e1 := val_tx V
    have e2 := vals_tx Vs
    rw [e1, e2]
    cases ds with
    | nil => simp [txs, joinL]
    | cons d2 ds => simp [txs, joinL]
end
end ZP

set_option Elab.async false
set_option linter.all false
set_option maxRecDepth 100000
set_option maxHeartbeats 4000000
/-! k74 in plain Lean: values are written. -/
namespace ZP
open PySem PySem.Spec PyProof.Rows L2 Z ZT TL
theorem joinL_len : ∀ {ps : List (List Nat)}, ps ≠ [] → (joinL [32] ps).length + 1 = (ps.map (·.length)).sum + ps.length
  | [], h => absurd rfl h
  | [p], _ => by simp [joinL]
  | p :: q :: r, _ => by
    have ih := joinL_len (ps := q :: r) (List.cons_ne_nil _ _)
    have e : joinL [32] (p :: q :: r) = p ++ ([32] ++ joinL [32] (q :: r)) := rfl
    rw [e]
    simp only [List.length_append, List.length_cons, List.length_nil, List.map_cons, List.sum_cons] at ih ⊢
    omega
theorem asStrs_map : ∀ ds : List D, asStrs (ds.map fun d => D.str (SX.S (tx d))) = some (ds.map fun d => SX.S (tx d))
  | [] => rfl
  | d :: ds => by
    show (asStrs (ds.map fun d => D.str (SX.S (tx d)))).map (SX.S (tx d) :: ·) = _
    rw [asStrs_map ds]; rfl
/-- the elements of a value -/
theorem vals_mem : ∀ {k : Nat} {ds : List D} {ws : List Nat}, Vals k ds ws → ∀ d ∈ ds, ∃ w, Val k d w ∧ w.length ≤ ws.length
  | _, _, _, .nil, d, h => by cases h
  | _, _, _, .cons (w := w) (ws := ws) V Vs, d, h => by
    rcases List.mem_cons.mp h with e | h
    · subst e; exact ⟨w, V, by simp; omega⟩
    · obtain ⟨w', h1, h2⟩ := vals_mem Vs d h
      exact ⟨w', h1, by simp; omega⟩
theorem wr_tup (r : List D → Sto → Res D) (S : Sto) (ds : List D) (hl : ds.length ≤ sizeLine) (hj : ((txs ds).map (·.length)).sum + ds.length ≤ 16777000) (h : ∀ d ∈ ds, r [d] S = .ok (.str (SX.S (tx d))) S) :
    mFun true 2 (b_write_plain r) [.tup ds] S = .ok (.str (SX.S (tx (.tup ds)))) S := by
  have hc : compL (fun _ => True) (.nm 1) tYesM (mApp 1 r (mCons (mVar 1) mNil)) (wipeE [some (.tup ds), none] [1]) ds S = .ok (ds.map fun d => D.str (SX.S (tx d))) S := by
    refine comp_map (fun d => D.str (SX.S (tx d))) trivial ds fun d hd => ?_
    have e : (wipeE [some (D.tup ds), none] [1]).set 1 (some d) = [some (D.tup ds), some d] := rfl
    rw [e]
    simp [h d hd]
  have hjl : (((ds.map fun d => SX.S (tx d)).map (·.length)).sum + (ds.map fun d => SX.S (tx d)).length * (Str.ofString " ").length ≤ 16777216) := by
    have e1 : ((ds.map fun d => SX.S (tx d)).map (·.length)) = (txs ds).map (·.length) := by
      rw [txs_map, List.map_map, List.map_map]
      refine List.map_congr_left fun d _ => ?_
      exact SX.S_len _
    have e2 : (Str.ofString " ").length = 1 := by decide +kernel
    rw [e1, e2, List.length_map]
    omega
  have hjoin : Txt.join (Str.ofString " ") (ds.map fun d => SX.S (tx d)) = SX.S (joinL [32] (txs ds)) := by
    have e : Str.ofString " " = SX.S [32] := by decide +kernel
    rw [e, txs_map, show (ds.map fun d => SX.S (tx d)) = (ds.map tx).map SX.S by rw [List.map_map]; rfl]
    exact SX.join_S [32] (ds.map tx)
  have hjd : joinD (.str (Str.ofString " ")) (.lst (ds.map fun d => D.str (SX.S (tx d)))) S = .ok (.str (SX.S (joinL [32] (txs ds)))) S := by
    unfold joinD asQ asL
    dsimp only
    rw [asStrs_map]
    dsimp only
    rw [if_pos hjl, hjoin]
  have hjlen : (joinL [32] (txs ds)).length ≤ 16777000 := by
    by_cases hd : ds = []
    · subst hd; simp [txs, joinL]
    · have := joinL_len (ps := txs ds) (by rw [txs_map]; simpa using hd)
      rw [txs_map, List.length_map, ← txs_map] at this
      omega
  have e40 : Str.ofString "(" = SX.S [40] := by decide +kernel
  have e41 : Str.ofString ")" = SX.S [41] := by decide +kernel
  have ha1 : addD (.str (Str.ofString "(")) (.str (SX.S (joinL [32] (txs ds)))) S = .ok (.str (SX.S (40 :: joinL [32] (txs ds)))) S := by
    unfold addD
    dsimp only
    rw [e40, if_pos (by rw [SX.S_len, SX.S_len, sizeLine_eq]; simp; omega), SX.S_cat]
    rfl
  have ha2 : addD (.str (SX.S (40 :: joinL [32] (txs ds)))) (.str (Str.ofString ")")) S = .ok (.str (SX.S (tx (.tup ds)))) S := by
    unfold addD
    dsimp only
    rw [e41, if_pos (by rw [SX.S_len, SX.S_len, sizeLine_eq]; simp; omega), SX.S_cat]
    rfl
  unfold mFun b_write_plain
  simp [startE, isiD, tyOf, isSub, mJoin, mVal, lComp, iSeq, hl, hc, hjd, ha1, ha2]
  exact gcR_self rfl
theorem wr_atom {d : D} {w : List Nat} (A : Atom d w) (r : List D → Sto → Res D) (S : Sto) : mFun true 2 (b_write_plain r) [d] S = .ok (.str (SX.S (tx d))) S := by
  cases A with
  | non => rw [wr_non, show Str.ofString "none" = SX.S (tx .non) by decide +kernel]
  | yes => rw [wr_yes, show Str.ofString "yes" = SX.S (tx (.bl true)) by decide +kernel]
  | no => rw [wr_no, show Str.ofString "no" = SX.S (tx (.bl false)) by decide +kernel]
  | dash =>
    rw [wr_str, if_pos rfl]
    rfl
  | word W =>
    rename_i x
    obtain ⟨⟨c, l, e, _⟩, _⟩ := W
    have hne : x ≠ Str.ofString "" := fun h => by
      have : (Str.ofString "").cps.toList = [] := by decide +kernel
      rw [h, this] at e; cases e
    rw [wr_str, if_neg hne]
    have : tx (.str x) = x.cps.toList := by
      show (if x.cps.toList = [] then [45] else x.cps.toList) = _
      rw [if_neg (by rw [e]; exact List.cons_ne_nil _ _)]
    rw [this, SX.S_tl]
  | nat hm =>
    rename_i m
    rw [wr_int r S m (by
      have : (10 : Nat) ^ 4000 ≤ 10 ^ 4300 := Nat.pow_le_pow_right (by decide) (by decide)
      omega)]
    exact congrArg (fun x => Res.ok (D.str x) S) (SX.S_tl _).symm
  | neg h0 hm =>
    rename_i m
    rw [wr_int r S (-(m : Int)) (by
      have : (10 : Nat) ^ 4000 ≤ 10 ^ 4300 := Nat.pow_le_pow_right (by decide) (by decide)
      omega)]
    exact congrArg (fun x => Res.ok (D.str x) S) (SX.S_tl _).symm
theorem wr_val : ∀ (n k : Nat) (d : D) (w : List Nat), Val k d w → k ≤ n → w.length ≤ 16777000 → ∀ S : Sto, f_write_plain (n + 1) [d] S = .ok (.str (SX.S (tx d))) S := by
  intro n
  induction n with
  | zero =>
    intro k d w V hk hw S
    have hk0 : k = 0 := by omega
    subst hk0
    cases V with
    | atom A => exact wr_atom A _ S
  | succ n ih =>
    intro k d w V hk hw S
    have hwx := val_tx V
    cases V with
    | atom A => exact wr_atom A _ S
    | nil => exact wr_tup _ S [] (by simp) (by simp [txs]) (fun d h => by cases h)
    | tup hds V Vs =>
      rename_i k d w ds ws
      have hall : ∀ e ∈ d :: ds, ∃ w', Val k e w' ∧ w'.length ≤ 16777000 := by
        intro e he
        simp at hw
        rcases List.mem_cons.mp he with e' | he
        · subst e'; exact ⟨w, V, by omega⟩
        · obtain ⟨w', h1, h2⟩ := vals_mem Vs e he
          exact ⟨w', h1, by omega⟩
      refine wr_tup _ S (d :: ds) (by rw [sizeLine_eq]; simp; omega) ?_ fun e he => ?_
      · have hj := joinL_len (ps := txs (d :: ds)) (List.cons_ne_nil _ _)
        have hl := congrArg List.length hwx
        unfold tx at hl
        rw [txs_map, List.length_map, ← txs_map] at hj
        simp only [List.length_cons, List.length_append, List.length_nil] at hl hw hj ⊢
        omega
      · obtain ⟨w', h1, h2⟩ := hall e he
        exact ih k e w' h1 (by omega) h2 S
end ZP

set_option Elab.async false
set_option linter.all false
set_option maxRecDepth 100000
set_option maxHeartbeats 4000000
/-! k74 in plain Lean: the law's own texts, its own comparison. -/
namespace ZP
open PySem PySem.Spec PyProof.Rows L2 Z ZT TL
/-- a loop by what is done -/
theorem for_done {chk : Sto → Prop} {b : MS} {i : Nat} {ds : List D} (I : List D → En → Sto → Prop) (hchk : ∀ l env S, I l env S → chk S)
    (hs : ∀ done d rest env S, ds = done ++ d :: rest → I done env S → ∃ env' S', b (env.set i (some d)) S = .nx env' S' ∧ I (done ++ [d]) env' S') :
    ∀ env S, I [] env S → ∃ env' S', forL chk (.nm i) b ds env S = .nx env' S' ∧ I ds env' S' := by
  have key : ∀ (rest done : List D), ds = done ++ rest → ∀ env S, I done env S → ∃ env' S', forL chk (.nm i) b rest env S = .nx env' S' ∧ I ds env' S' := by
    intro rest
    induction rest with
    | nil =>
      intro done e env S h
      rw [List.append_nil] at e
      subst e
      exact ⟨env, S, rfl, h⟩
    | cons d rest ih =>
      intro done e env S h
      obtain ⟨env1, S1, e1, h1⟩ := hs done d rest env S e h
      obtain ⟨env2, S2, e2, h2⟩ := ih (done ++ [d]) (by rw [e]; simp) env1 S1 h1
      refine ⟨env2, S2, ?_, h2⟩
      unfold forL
      simp [Tg.put, e1, hchk _ _ _ h1, e2]
  exact key ds [] rfl
def flat (ds : List D) : List Nat := ds.flatMap fun d => 32 :: tx d
theorem flat_app (ds es : List D) : flat (ds ++ es) = flat ds ++ flat es := List.flatMap_append
theorem joinL_flat : ∀ ds : List D, (flat ds).drop 1 = joinL [32] (txs ds)
  | [] => rfl
  | [d] => by simp [flat, txs, joinL]
  | d :: e :: ds => by
    have ih := joinL_flat (e :: ds)
    have e1 : joinL [32] (txs (d :: e :: ds)) = tx d ++ ([32] ++ joinL [32] (txs (e :: ds))) := rfl
    rw [e1, ← ih]
    simp [flat]
theorem cut1 (l : List Nat) : cutS (SX.S l) (some 1) none = SX.S (l.drop 1) := by
  unfold cutS HT.sIx
  apply Str.ext'
  rw [SX.S_len]
  cases l with
  | nil => simp
  | cons c l =>
    simp
theorem tx_tup_text (r : List D → Sto → Res D) (S : Sto) (ds : List D) (hf : (flat ds).length ≤ 16777000) (h : ∀ d ∈ ds, r [d] S = .ok (.str (SX.S (tx d))) S) :
    mFun true 3 (b_law_p10_text r) [.tup ds] S = .ok (.str (SX.S (tx (.tup ds)))) S := by
  have e32 : Str.ofString " " = SX.S [32] := by decide +kernel
  have e40 : Str.ofString "(" = SX.S [40] := by decide +kernel
  have e41 : Str.ofString ")" = SX.S [41] := by decide +kernel
  have hadd : ∀ (a b : List Nat), a.length + b.length ≤ 16777216 → addD (.str (SX.S a)) (.str (SX.S b)) S = .ok (.str (SX.S (a ++ b))) S := fun a b hl => by
    unfold addD
    dsimp only
    rw [SX.S_len, SX.S_len, if_pos (by rw [sizeLine_eq]; omega), SX.S_cat]
  obtain ⟨env', S', e, x, rfl, hS⟩ := for_done (chk := fun _ => True) (ds := ds) (i := 2)
    (b := sAsg (.nm 1) (mBin addD (mBin addD (mVar 1) (mCon (.str " "))) (mApp 1 r (mCons (mVar 2) (mNil)))))
    (fun done env S' => ∃ x, env = [some (.tup ds), some (.str (SX.S (flat done))), x] ∧ S' = S) (fun _ _ _ _ => trivial) (fun done d rest env S' ed hI => by
      obtain ⟨x, rfl, rfl⟩ := hI
      have hd : d ∈ ds := by rw [ed]; simp
      have hlen : (flat done).length + (tx d).length + 1 ≤ 16777000 := by
        have : (flat ds).length = (flat done).length + ((tx d).length + 1 + (flat rest).length) := by
          rw [ed, flat_app]; simp [flat]; omega
        omega
      refine ⟨_, _, ?_, some d, rfl, rfl⟩
      simp only [List.set_cons_succ, List.set_cons_zero, sAsg_nm, mBin_, varS, var0, mCon_, Res.bind_ok, e32]
      rw [hadd _ _ (by simp; omega)]
      simp only [calm_ok, Res.bind_ok, mApp_, mCons_, varS, var0, mNil_, List.length_cons, List.length_nil, Nat.zero_add, if_true, h d hd]
      rw [hadd _ _ (by simp; omega)]
      simp [flat_app, flat]) [some (.tup ds), some (.str (SX.S [])), none] S ⟨none, rfl, rfl⟩
  subst hS
  have e0 : Str.ofString "" = SX.S [] := by decide +kernel
  have hjl : (joinL [32] (txs ds)).length ≤ 16777000 := by
    rw [← joinL_flat, List.length_drop]; omega
  have hsl : slD (.str (SX.S (flat ds))) (some 1) none S' = .ok (.str (SX.S (joinL [32] (txs ds)))) S' := by
    unfold slD
    dsimp only
    rw [SX.S_len, if_pos (by rw [sizeLine_eq]; omega), cut1, joinL_flat]
  unfold mFun b_law_p10_text sFor iSeq
  simp [startE, isiD, tyOf, isSub, e0, e, mSl, mPart, hsl, e40, e41]
  rw [hadd _ _ (by simp; omega)]
  simp
  rw [hadd _ _ (by simp; omega)]
  simp
  exact gcR_self rfl
theorem tx_atom {d : D} {w : List Nat} (A : Atom d w) (r : List D → Sto → Res D) (S : Sto) : mFun true 3 (b_law_p10_text r) [d] S = .ok (.str (SX.S (tx d))) S := by
  unfold mFun b_law_p10_text
  cases A with
  | non =>
    simp [startE, isiD, tyOf, isSub, isD]
    rw [gcR_self rfl, show Str.ofString "none" = SX.S (tx .non) by decide +kernel]
  | yes =>
    have hx : ixD (.lst [.str "no", .str "yes"]) (.int 1) S = .ok (.str "yes") S := ix_lst [.str "no", .str "yes"] S 1 _ rfl
    simp [startE, isiD, tyOf, isSub, isD, mVal, lDisp, sizeLine_eq, hx]
    rw [gcR_self rfl, show Str.ofString "yes" = SX.S (tx (.bl true)) by decide +kernel]
  | no =>
    have hx : ixD (.lst [.str "no", .str "yes"]) (.int 0) S = .ok (.str "no") S := ix_lst [.str "no", .str "yes"] S 0 _ rfl
    simp [startE, isiD, tyOf, isSub, isD, mVal, lDisp, sizeLine_eq, hx]
    rw [gcR_self rfl, show Str.ofString "no" = SX.S (tx (.bl false)) by decide +kernel]
  | dash =>
    simp [startE, isiD, tyOf, isSub, isD, mIf, neD, strD2]
    rw [gcR_self rfl, show Str.ofString "-" = SX.S (tx (.str "")) by decide +kernel]
  | word W =>
    rename_i x
    obtain ⟨⟨c, l, e, _⟩, _⟩ := W
    have hne : x ≠ Str.ofString "" := fun h => by
      have : (Str.ofString "").cps.toList = [] := by decide +kernel
      rw [h, this] at e; cases e
    have hx : tx (.str x) = x.cps.toList := by
      show (if x.cps.toList = [] then [45] else x.cps.toList) = _
      rw [if_neg (by rw [e]; exact List.cons_ne_nil _ _)]
    simp [startE, isiD, tyOf, isSub, isD, mIf, neD, strD2, hne]
    rw [gcR_self rfl, hx, SX.S_tl]
  | nat hm =>
    rename_i m
    have hs : strD [.int (m : Int)] S = .ok (.str (Str.ofString (toString (m : Int)))) S := if_pos (by
      have : (10 : Nat) ^ 4000 ≤ 10 ^ 4300 := Nat.pow_le_pow_right (by decide) (by decide)
      omega)
    simp [startE, isiD, tyOf, isSub, isD, hs]
    rw [gcR_self rfl]
    exact congrArg (fun x => Res.ok (D.str x) S) (SX.S_tl _).symm
  | neg h0 hm =>
    rename_i m
    have hs : strD [.int (-(m : Int))] S = .ok (.str (Str.ofString (toString (-(m : Int))))) S := if_pos (by
      have : (10 : Nat) ^ 4000 ≤ 10 ^ 4300 := Nat.pow_le_pow_right (by decide) (by decide)
      omega)
    simp [startE, isiD, tyOf, isSub, isD, hs]
    rw [gcR_self rfl]
    exact congrArg (fun x => Res.ok (D.str x) S) (SX.S_tl _).symm
theorem tx_val : ∀ (n k : Nat) (d : D) (w : List Nat), Val k d w → k ≤ n → w.length ≤ 16777000 → ∀ S : Sto, f_law_p10_text (n + 1) [d] S = .ok (.str (SX.S (tx d))) S := by
  intro n
  induction n with
  | zero =>
    intro k d w V hk hw S
    have hk0 : k = 0 := by omega
    subst hk0
    cases V with
    | atom A => exact tx_atom A _ S
  | succ n ih =>
    intro k d w V hk hw S
    have hwx := val_tx V
    cases V with
    | atom A => exact tx_atom A _ S
    | nil => exact tx_tup_text _ S [] (by simp [flat]) (fun d h => by cases h)
    | tup hds V Vs =>
      rename_i k d w ds ws
      have hall : ∀ e ∈ d :: ds, ∃ w', Val k e w' ∧ w'.length ≤ 16777000 := by
        intro e he
        simp at hw
        rcases List.mem_cons.mp he with e' | he
        · subst e'; exact ⟨w, V, by omega⟩
        · obtain ⟨w', h1, h2⟩ := vals_mem Vs e he
          exact ⟨w', h1, by omega⟩
      refine tx_tup_text _ S (d :: ds) ?_ fun e he => ?_
      · have hj := congrArg List.length (joinL_flat (d :: ds))
        have hl := congrArg List.length hwx
        unfold tx at hl
        simp only [List.length_cons, List.length_append, List.length_nil, List.length_drop] at hl hw hj ⊢
        omega
      · obtain ⟨w', h1, h2⟩ := hall e he
        exact ih k e w' h1 (by omega) h2 S
/-! ### the same -/
theorem comp_none {chk : Sto → Prop} {mt : MT} {me : ME} {env : En} {i : Nat} {S : Sto} (hchk : chk S) (ds : List D) (h : ∀ d ∈ ds, mt (env.set i (some d)) S = .ok false S) : compL chk (.nm i) mt me env ds S = .ok [] S := by
  induction ds with
  | nil => rfl
  | cons d ds ih =>
    unfold compL
    simp [Tg.put, h d (List.mem_cons_self), hchk, ih fun d hd => h d (List.mem_cons_of_mem _ hd)]
@[simp] theorem len_tup (ds : List D) (S : Sto) : lenD [.tup ds] S = .ok (.int ds.length) S := rfl
theorem ix_tup (ds : List D) (S : Sto) (j : Nat) (x : D) (h : ds[j]? = some x) : ixD (.tup ds) (.int (j : Int)) S = .ok x S := by
  unfold ixD
  dsimp only
  rw [atI_nat h]
@[simp] theorem neI (i j : Int) (S : Sto) : neD (.int i) (.int j) S = .ok (.bl (!decide (i = j))) S := by
  show (if SeqAt.shaped (.int i) = true ∧ SeqAt.shaped (.int j) = true then Res.ok (D.bl (!PyData.eqv (.int i) (.int j))) S else .bad) = _
  rw [if_pos ⟨by first | rfl | decide, by first | rfl | decide⟩]
  rfl
theorem mem_range0 {n : Nat} {d : D} (h : d ∈ rangeD 0 n) : ∃ k : Nat, k < n ∧ d = .int (k : Int) := by
  unfold rangeD at h
  obtain ⟨k, hk, e⟩ := List.mem_map.mp h
  exact ⟨k, List.mem_range.mp hk, by rw [← e]; congr 1; omega⟩
theorem rng_ok {n : Nat} (h : n ≤ 10000000) : (-(2 ^ 62) ≤ (n : Int) ∧ (n : Int) < 2 ^ 62) := by
  have e : (2 : Int) ^ 62 = 4611686018427387904 := by decide +kernel
  rw [e]
  omega
theorem rng_len {n : Nat} (h : n ≤ 10000000) : (rangeD 0 n).length ≤ sizeLine := by
  have e : (rangeD 0 n).length = n := by unfold rangeD; rw [List.length_map, List.length_range]
  rw [e, sizeLine_eq]
  omega
theorem sm_turn (r : List D → Sto → Res D) (S : Sto) (ds : List D) (h : ∀ d ∈ ds, r [d, d] S = .ok (.bl true) S) : compL (fun _ => True) (.nm 2) (tNot2 (asB (mApp 2 r (mCons (mIx (mVar 0) (mVar 2)) (mCons (mIx (mVar 1) (mVar 2)) (mNil)))))) (mVar 2) (wipeE [some (.tup ds), some (.tup ds), none] [2]) (rangeD 0 ds.length) S = .ok [] S := by
  refine comp_none trivial _ fun d hd => ?_
  obtain ⟨k, hk, rfl⟩ := mem_range0 hd
  have e : (wipeE [some (D.tup ds), some (D.tup ds), none] [2]).set 2 (some (.int (k : Int))) = [some (D.tup ds), some (D.tup ds), some (.int (k : Int))] := rfl
  have e2 := List.getElem?_eq_getElem hk
  rw [e]
  simp [ix_tup ds S k _ e2, h _ (List.getElem_mem hk)]
theorem iRng1_ok (m : ME) (env : En) (S S' : Sto) (n : Nat) (e : m env S = .ok (.int (n : Int)) S') (h : n ≤ 10000000) : iRng1m m env S = .ok (rangeD 0 n, fun _ => True) S' := by
  unfold iRng1m
  rw [e, Res.bind_ok]
  dsimp only
  rw [if_pos (rng_ok h), Int.toNat_natCast]
theorem sm_comp (r : List D → Sto → Res D) (S : Sto) (ds : List D) (hl : ds.length ≤ 10000000) (h : ∀ d ∈ ds, r [d, d] S = .ok (.bl true) S) :
    lComp (.nm 2) (iRng1m (mCall lenD (mCons (mVar 1) (mNil)))) (tNot2 (asB (mApp 2 r (mCons (mIx (mVar 0) (mVar 2)) (mCons (mIx (mVar 1) (mVar 2)) (mNil)))))) (mVar 2) [2] [some (.tup ds), some (.tup ds), none] S = .ok [] S := by
  unfold lComp
  rw [iRng1_ok _ _ S S ds.length (by simp) hl, Res.bind_ok]
  dsimp only
  rw [if_pos (rng_len hl), sm_turn r S ds h]
abbrev ev2 (ds : List D) : En := [some (.tup ds), some (.tup ds), none]
theorem c1 (S : Sto) (ds : List D) : (asB (mCall isiD (mCons (mVar 1) (mCons (mCon (.ty .tuple)) (mNil))))) (ev2 ds) S = .ok true S := by
  have i1 : isiD [.tup ds, .ty .tuple] S = .ok (.bl true) S := rfl
  simp only [ev2, asB_, mCall_, mCons_, varS, var0, mCon_, mNil_, Res.bind_ok, i1, calm_ok]
theorem c2 (S : Sto) (ds : List D) : (tOr2 (tNot2 (asB (mCall isiD (mCons (mVar 0) (mCons (mCon (.ty .tuple)) (mNil)))))) (asB (mBin neD (mCall lenD (mCons (mVar 0) (mNil))) (mCall lenD (mCons (mVar 1) (mNil)))))) (ev2 ds) S = .ok false S := by
  have i1 : isiD [.tup ds, .ty .tuple] S = .ok (.bl true) S := rfl
  simp only [ev2, tOr2_, tNot2_, mBin_, asB_, mCall_, mCons_, varS, var0, mCon_, mNil_, Res.bind_ok, i1, calm_ok, Bool.not_true, Bool.false_eq_true, if_false, len_tup, neI, decide_true]
theorem c3 (S : Sto) (ds : List D) (m : ML) (hm : m (ev2 ds) S = .ok [] S) : (mBin eqD (mCall lenD (mCons (mVal m) (mNil))) (mCon (.int 0))) (ev2 ds) S = .ok (.bl true) S := by
  simp only [mBin_, mCall_, mCons_, mVal, hm, Res.bind_ok, mNil_, len_lst, calm_ok, mCon_, eqI, List.length_nil]
  rfl
theorem sm_tup (r : List D → Sto → Res D) (S : Sto) (ds : List D) (hl : ds.length ≤ 10000000) (h : ∀ d ∈ ds, r [d, d] S = .ok (.bl true) S) :
    mFun true 3 (b_law_p10_same r) [.tup ds, .tup ds] S = .ok (.bl true) S := by
  have e0 : startE 3 [.tup ds, .tup ds] = ev2 ds := rfl
  unfold mFun b_law_p10_same
  rw [e0, sCons_, sIf_, c1, toOut_ok, if_pos rfl, sCons_, sIf_, c2, toOut_ok, if_neg Bool.false_ne_true, sNil_, seq_nx, sRet_, c3 S ds _ (sm_comp r S ds hl h), toOut_ok, seq_rt, endR_rt]
  exact gcR_self rfl
theorem eqB (a b : Bool) (S : Sto) : eqD (.bl a) (.bl b) S = .ok (.bl (decide (a = b))) S := by
  cases a <;> cases b <;> rfl
theorem sm_atom {d : D} {w : List Nat} (A : Atom d w) (r : List D → Sto → Res D) (S : Sto) : mFun true 3 (b_law_p10_same r) [d, d] S = .ok (.bl true) S := by
  have hi : ∀ i : Int, f_law_is_int [.int i] S = .ok (.bl true) S := fun i => by
    unfold f_law_is_int mFun b_law_is_int
    simp [startE, isiD, tyOf, isSub, mAnd, mNot]
    exact gcR_self rfl
  unfold mFun b_law_p10_same
  cases A with
  | non =>
    simp [startE, isiD, tyOf, isSub, isD]
    exact gcR_self rfl
  | yes =>
    simp [startE, isiD, tyOf, isSub, isD, mAnd, eqB]
    exact gcR_self rfl
  | no =>
    simp [startE, isiD, tyOf, isSub, isD, mAnd, eqB]
    exact gcR_self rfl
  | dash =>
    simp [startE, isiD, tyOf, isSub, isD, mAnd, eqS]
    exact gcR_self rfl
  | word W =>
    simp [startE, isiD, tyOf, isSub, isD, mAnd, eqS]
    exact gcR_self rfl
  | nat hm =>
    simp [startE, isiD, tyOf, isSub, isD, mAnd, hi]
    exact gcR_self rfl
  | neg h0 hm =>
    simp [startE, isiD, tyOf, isSub, isD, mAnd, hi]
    exact gcR_self rfl
theorem sm_val : ∀ (n k : Nat) (d : D) (w : List Nat), Val k d w → k ≤ n → ∀ S : Sto, f_law_p10_same (n + 1) [d, d] S = .ok (.bl true) S := by
  intro n
  induction n with
  | zero =>
    intro k d w V hk S
    have hk0 : k = 0 := by omega
    subst hk0
    cases V with
    | atom A => exact sm_atom A _ S
  | succ n ih =>
    intro k d w V hk S
    cases V with
    | atom A => exact sm_atom A _ S
    | nil => exact sm_tup _ S [] (by simp) (fun d h => by cases h)
    | tup hds V Vs =>
      rename_i k d w ds ws
      refine sm_tup _ S (d :: ds) (by simp; omega) fun e he => ?_
      rcases List.mem_cons.mp he with e' | he
      · subst e'; exact ih k _ w V (by omega) S
      · obtain ⟨w', h1, h2⟩ := vals_mem Vs e he
        exact ih k e w' h1 (by omega) S
end ZP

set_option Elab.async false
set_option linter.all false
set_option maxRecDepth 100000
set_option maxHeartbeats 4000000
/-! k74 in plain Lean: what is drawn. -/
namespace ZP
open PySem PySem.Spec PyProof.Rows L2 Z ZT TL PySem.NumText PySem.W
/-- the store S with its bag moved on, t bounds the draws -/
structure Bg (S0 : Sto) (n t : Nat) (S : Sto) : Prop where
  put : ∃ o, S = put S0 n o
  ok : BOk S n t
theorem Bg.start {S : Sto} {n t : Nat} (B : BOk S n t) : Bg S n t S := ⟨same_refl B, B⟩
theorem Bg.mono {S0 S : Sto} {n t t' : Nat} (B : Bg S0 n t S) (h : t ≤ t') : Bg S0 n t' S := ⟨B.put, B.ok.mono h⟩
theorem Bg.trans {S0 S1 S2 : Sto} {n t t' : Nat} (B : Bg S0 n t S1) (C : Bg S1 n t' S2) : Bg S0 n t' S2 := ⟨same_trans B.put C.put, C.ok⟩
theorem Bg.gc {S0 S : Sto} {n t : Nat} (B : Bg S0 n t S) {d : D} (h : noRef d = true) : gcR true S0 (.ok d S) = .ok d S := by
  obtain ⟨o, rfl⟩ := B.put
  exact gcR_put h
theorem Bg.draw {S0 S : Sto} {n t : Nat} {m : Int} (B : Bg S0 n t S) (ht : t < 2 ^ 60) (hm : m.natAbs < 2 ^ 1000) : ∃ (k : Int) (S' : Sto), f_law_draw [.ref n, .int m] S = .ok (.int k) S' ∧ Bg S0 n (t + 1) S' ∧ 0 ≤ k ∧ (k < m ∨ m < 2 ∧ k = 0) := by
  obtain ⟨k, S', e, h1, h2, h3, h4⟩ := f_draw B.ok ht hm
  exact ⟨k, S', e, ⟨same_trans B.put h1, h2⟩, h3, h4⟩
theorem Bg.pick {S0 S : Sto} {n t : Nat} {ds : List D} (B : Bg S0 n t S) (ht : t < 2 ^ 60) (hd : 0 < ds.length) (hl : ds.length < 1000000) (hn : ∀ d ∈ ds, noRef d = true) : ∃ (d : D) (S' : Sto), f_law_pick [.ref n, .lst ds] S = .ok d S' ∧ Bg S0 n (t + 1) S' ∧ d ∈ ds := by
  obtain ⟨d, S', e, h1, h2, h3⟩ := f_pick B.ok ht hd hl
  obtain ⟨o, rfl⟩ := h1
  refine ⟨d, _, ?_, ⟨same_trans B.put ⟨_, rfl⟩, h2⟩, h3⟩
  rw [← gcR_put (fz := true) (hn d h3)]
  exact e
theorem dv_lt (l : List Nat) : AllDigits l → digitsVal l < 10 ^ l.length := by
  intro h
  have key : ∀ (l : List Nat) (acc k : Nat), AllDigits l → acc < 10 ^ k → l.foldl (fun acc c => acc * 10 + (c - 48)) acc < 10 ^ (k + l.length) := by
    intro l
    induction l with
    | nil => intro acc k _ h; exact h
    | cons c l ih =>
      intro acc k hl h
      have hc := hl c (List.mem_cons_self)
      have := ih (acc * 10 + (c - 48)) (k + 1) hl.tail (by rw [Nat.pow_succ]; omega)
      rw [List.length_cons, show k + (l.length + 1) = k + 1 + l.length by omega]
      exact this
  have := key l 0 0 h (by decide)
  rwa [Nat.zero_add] at this
theorem int_digits {l : List Nat} (S : Sto) (hd : AllDigits l) (hn : l ≠ []) (hl : l.length ≤ 4000) : ∃ m : Nat, m < 10 ^ 4000 ∧ intD [.str (SX.S l)] S = .ok (.int m) S := by
  have e := intText_digits (x := SX.S l) hd hn (by rw [SX.S_len]; omega)
  have hlt : digitsVal l < 10 ^ 4000 := Nat.lt_of_lt_of_le (dv_lt l hd) (Nat.pow_le_pow_right (by decide) hl)
  refine ⟨digitsVal l, hlt, ?_⟩
  unfold Z.intD
  dsimp only
  have e' : PySem.intText? (SX.S l) = some (digitsVal l : Int) := e
  rw [e']
  refine if_pos ⟨by rw [SX.S_len, sizeLine_eq]; omega, ?_⟩
  rw [seen_digits (x := SX.S l) hd, SX.S_len]
  omega
theorem str_nat (m : Nat) (S : Sto) (h : m < 10 ^ 4000) : strD [.int (m : Int)] S = .ok (.str (SX.S (tn m))) S := by
  have : (10 : Nat) ^ 4000 ≤ 10 ^ 4300 := Nat.pow_le_pow_right (by decide) (by decide)
  have e : strD [.int (m : Int)] S = .ok (.str (Str.ofString (toString (m : Int)))) S := if_pos (by omega)
  rw [e]
  congr 2
  rw [← SX.S_tl (Str.ofString (toString (m : Int)))]
  exact congrArg SX.S (PySem.W.KIN.signs_num m)
theorem rep_S (k c : Nat) : repS k (SX.S [c]) = SX.S (List.replicate k c) := by
  have key : ∀ (k : Nat) (acc : Array Nat), (List.replicate k (#[c] : Array Nat)).foldl (· ++ ·) acc = acc ++ (List.replicate k c).toArray := by
    intro k
    induction k with
    | zero => intro acc; simp
    | succ k ih =>
      intro acc
      rw [List.replicate_succ, List.foldl_cons, ih, List.replicate_succ]
      apply Array.toList_inj.mp
      simp
  unfold repS
  apply Str.ext'
  show (List.replicate k (#[c] : Array Nat)).foldl (· ++ ·) #[] = _
  rw [key]
  simp
/-- int(str(a) + str(d) * k) -/
theorem long_num (S : Sto) {a d k : Nat} (ha : 0 < a ∧ a < 1000) (hd : d < 10) (hk : (tn a).length + k ≤ 4000) :
    ∃ m : Nat, m < 10 ^ 4000 ∧ strD [.int (a : Int)] S = .ok (.str (SX.S (tn a))) S ∧ strD [.int (d : Int)] S = .ok (.str (SX.S (tn d))) S ∧ mulD (.str (SX.S (tn d))) (.int (k : Int)) S = .ok (.str (SX.S (List.replicate k (48 + d)))) S ∧
      addD (.str (SX.S (tn a))) (.str (SX.S (List.replicate k (48 + d)))) S = .ok (.str (SX.S (tn a ++ List.replicate k (48 + d)))) S ∧ intD [.str (SX.S (tn a ++ List.replicate k (48 + d)))] S = .ok (.int m) S := by
  have big : (1000 : Nat) < 10 ^ 4000 := Nat.lt_of_lt_of_le (show 1000 < 10 ^ 4 by decide) (Nat.pow_le_pow_right (by decide) (by decide))
  obtain ⟨m, hm, e⟩ := int_digits (l := tn a ++ List.replicate k (48 + d)) S (fun c hc => by
    rcases List.mem_append.mp hc with hc | hc
    · exact tn_digits a c hc
    · have := List.eq_of_mem_replicate hc
      omega) (by
    intro q
    exact tn_ne a (List.append_eq_nil_iff.mp q).1) (by simp; omega)
  refine ⟨m, hm, str_nat a S (by omega), str_nat d S (by omega), ?_, ?_, e⟩
  · unfold mulD
    dsimp only
    rw [tn_small hd, if_pos ⟨by omega, by omega, by simp [Str.length]⟩, Int.toNat_natCast, rep_S]
  · unfold addD
    dsimp only
    rw [SX.S_len, SX.S_len, if_pos (by rw [sizeLine_eq]; simp; omega), SX.S_cat]
end ZP

set_option Elab.async false
set_option linter.all false
set_option maxRecDepth 100000
set_option maxHeartbeats 4000000
/-! k74 in plain Lean: numbers and words are drawn. -/
namespace ZP
open PySem PySem.Spec PyProof.Rows L2 Z ZT TL PySem.NumText PySem.W
noncomputable def nA : MS := sIf (asB (mBin eqD (mVar 1) (mCon (.int 1))))
  (sAsg (.nm 2) (mApp 2 f_law_draw (mCons (mVar 0) (mCons (mBin powD (mCon (.int 10)) (mCon (.int 40))) (mNil)))))
  (sNil)
noncomputable def nB : MS := sIf (asB (mBin eqD (mVar 1) (mCon (.int 2))))
  (sAsg (.nm 2) (mCall intD (mCons (mBin addD (mCall strD (mCons (mBin addD (mCon (.int 1)) (mApp 2 f_law_draw (mCons (mVar 0) (mCons (mCon (.int 999)) (mNil))))) (mNil))) (mBin mulD (mCall strD (mCons (mApp 2 f_law_draw (mCons (mVar 0) (mCons (mCon (.int 10)) (mNil)))) (mNil))) (mApp 2 f_law_draw (mCons (mVar 0) (mCons (mCon (.int 40)) (mNil)))))) (mNil))))
  (sNil)
noncomputable def nC : MS := sIf (tAnd2 (asB (mBin eqD (mVar 1) (mCon (.int 3)))) (asB (mBin eqD (mApp 2 f_law_draw (mCons (mVar 0) (mCons (mCon (.int 6)) (mNil)))) (mCon (.int 5)))))
  (sAsg (.nm 2) (mCall intD (mCons (mBin addD (mCall strD (mCons (mBin addD (mCon (.int 1)) (mApp 2 f_law_draw (mCons (mVar 0) (mCons (mCon (.int 9)) (mNil))))) (mNil))) (mBin mulD (mCall strD (mCons (mApp 2 f_law_draw (mCons (mVar 0) (mCons (mCon (.int 10)) (mNil)))) (mNil))) (mApp 2 f_law_pick (mCons (mVar 0) (mCons (mVal (lDisp (mCons (mCon (.int 399)) (mCons (mCon (.int 400)) (mCons (mCon (.int 3998)) (mCons (mCon (.int 3999)) (mNil))))))) (mNil)))))) (mNil))))
  (sNil)
noncomputable def nD : MS := sCons (sIf (asB (mBin eqD (mApp 2 f_law_draw (mCons (mVar 0) (mCons (mCon (.int 3)) (mNil)))) (mCon (.int 1))))
  (sRet (mUn negD (mVar 2)))
  (sNil))
  (sRet (mVar 2))
theorem num_eq : b_law_p10_number = sCons (sAsg (.nm 1) (mApp 2 f_law_draw (mCons (mVar 0) (mCons (mCon (.int 8)) (mNil)))))
  (sCons (sAsg (.nm 2) (mApp 2 f_law_draw (mCons (mVar 0) (mCons (mCon (.int 12)) (mNil))))) (sCons nA (sCons nB (sCons nC nD)))) := rfl
abbrev nE (n : Nat) (k : Int) (m : Nat) : En := [some (.ref n), some (.int k), some (.int (m : Int))]
theorem big4 : (10 : Nat) ^ 40 < 10 ^ 4000 := Nat.pow_lt_pow_right (by decide) (by decide)
section
variable {S0 S : Sto} {n t : Nat} {k : Int} {m : Nat}
theorem nat_of {i : Int} (h : 0 ≤ i) : ∃ k : Nat, i = (k : Int) := ⟨i.toNat, by omega⟩
theorem nA_ok (B : Bg S0 n t S) (ht : t < 2 ^ 55) (hm : m < 10 ^ 4000) : ∃ (m' : Nat) (S' : Sto), nA (nE n k m) S = .nx (nE n k m') S' ∧ Bg S0 n (t + 1) S' ∧ m' < 10 ^ 4000 := by
  unfold nA nE
  by_cases h : k = 1
  · have hp : powD (.int 10) (.int 40) S = .ok (.int (10 ^ 40)) S := by
      unfold powD
      exact if_pos (by decide)
    obtain ⟨i, S1, e, B1, h1, h2⟩ := B.draw (m := 10 ^ 40) (by omega) (by decide +kernel)
    obtain ⟨j, rfl⟩ := nat_of h1
    refine ⟨j, S1, ?_, B1, ?_⟩
    · simp only [sIf_, asB_, mBin_, varS, var0, mCon_, Res.bind_ok, eqI, calm_ok, toOut_ok, h, decide_true, if_true, sAsg_nm, mApp_, mCons_, mNil_, hp, List.length_cons, List.length_nil, Nat.zero_add, Nat.reduceAdd, e, List.set_cons_succ, List.set_cons_zero]
    · have := big4
      omega
  · refine ⟨m, S, ?_, B.mono (by omega), hm⟩
    simp [h]
theorem nB_ok (B : Bg S0 n t S) (ht : t < 2 ^ 55) (hm : m < 10 ^ 4000) : ∃ (m' : Nat) (S' : Sto), nB (nE n k m) S = .nx (nE n k m') S' ∧ Bg S0 n (t + 3) S' ∧ m' < 10 ^ 4000 := by
  unfold nB nE
  by_cases h : k = 2
  · obtain ⟨i1, S1, e1, B1, h1, h1'⟩ := B.draw (m := 999) (by omega) (by decide)
    obtain ⟨a, rfl⟩ := nat_of h1
    obtain ⟨i2, S2, e2, B2, h2, h2'⟩ := B1.draw (m := 10) (by omega) (by decide)
    obtain ⟨d, rfl⟩ := nat_of h2
    obtain ⟨i3, S3, e3, B3, h3, h3'⟩ := B2.draw (m := 40) (by omega) (by decide)
    obtain ⟨r, rfl⟩ := nat_of h3
    have hl : (tn (1 + a)).length ≤ 3 := tn_len (by decide) (by omega)
    have ha : (1 : Int) + (a : Int) = ((1 + a : Nat) : Int) := by push_cast; rfl
    obtain ⟨x, hx, q1, q2, q3, q4, q5⟩ := long_num S3 (a := 1 + a) (d := d) (k := r) (by omega) (by omega) (by omega)
    have q1' : ∀ S, strD [.int ((1 + a : Nat) : Int)] S = .ok (.str (SX.S (tn (1 + a)))) S := fun S => str_nat _ S (by have := big4; omega)
    have q2' : ∀ S, strD [.int (d : Int)] S = .ok (.str (SX.S (tn d))) S := fun S => str_nat _ S (by have := big4; omega)
    refine ⟨x, S3, ?_, B3, hx⟩
    simp only [sIf_, asB_, mBin_, varS, var0, mCon_, Res.bind_ok, eqI, calm_ok, toOut_ok, h, decide_true, if_true, sAsg_nm, mApp_, mCall_, mCons_, mNil_, List.length_cons, List.length_nil, Nat.zero_add, Nat.reduceAdd, e1, e2, e3, addI, ha, q1', q2', q3, q4, q5, List.set_cons_succ, List.set_cons_zero]
  · refine ⟨m, S, ?_, B.mono (by omega), hm⟩
    simp [h]
theorem nC_ok (B : Bg S0 n t S) (ht : t < 2 ^ 55) (hm : m < 10 ^ 4000) : ∃ (m' : Nat) (S' : Sto), nC (nE n k m) S = .nx (nE n k m') S' ∧ Bg S0 n (t + 4) S' ∧ m' < 10 ^ 4000 := by
  unfold nC nE
  by_cases h : k = 3
  · obtain ⟨i0, S1, e0, B1, h0, h0'⟩ := B.draw (m := 6) (by omega) (by decide)
    by_cases h5 : i0 = 5
    · subst h5
      obtain ⟨i1, S2, e1, B2, h1, h1'⟩ := B1.draw (m := 9) (by omega) (by decide)
      obtain ⟨a, rfl⟩ := nat_of h1
      obtain ⟨i2, S3, e2, B3, h2, h2'⟩ := B2.draw (m := 10) (by omega) (by decide)
      obtain ⟨d, rfl⟩ := nat_of h2
      obtain ⟨p, S4, e3, B4, hp⟩ := B3.pick (ds := [.int 399, .int 400, .int 3998, .int 3999]) (by omega) (by decide) (by decide) (by decide +kernel)
      obtain ⟨r, rfl, hr⟩ : ∃ r : Nat, p = .int (r : Int) ∧ r ≤ 3999 := by
        simp at hp
        rcases hp with h | h | h | h
        · exact ⟨399, h, by omega⟩
        · exact ⟨400, h, by omega⟩
        · exact ⟨3998, h, by omega⟩
        · exact ⟨3999, h, by omega⟩
      have hl : (tn (1 + a)).length ≤ 1 := tn_len (by decide) (by omega)
      have ha : (1 : Int) + (a : Int) = ((1 + a : Nat) : Int) := by push_cast; rfl
      obtain ⟨x, hx, q1, q2, q3, q4, q5⟩ := long_num S4 (a := 1 + a) (d := d) (k := r) (by omega) (by omega) (by omega)
      have q1' : ∀ S, strD [.int ((1 + a : Nat) : Int)] S = .ok (.str (SX.S (tn (1 + a)))) S := fun S => str_nat _ S (by have := big4; omega)
      have q2' : ∀ S, strD [.int (d : Int)] S = .ok (.str (SX.S (tn d))) S := fun S => str_nat _ S (by have := big4; omega)
      have h4 : (4 : Nat) ≤ sizeLine := by rw [sizeLine_eq]; omega
      refine ⟨x, S4, ?_, B4, hx⟩
      unfold mVal lDisp
      simp only [sIf_, tAnd2_, asB_, mBin_, varS, var0, mCon_, Res.bind_ok, eqI, calm_ok, toOut_ok, h, decide_true, if_true, sAsg_nm, mApp_, mCall_, mCons_, mNil_, List.length_cons, List.length_nil, Nat.zero_add, Nat.reduceAdd, e0, e1, e2, e3, h4, addI, ha, q1', q2', q3, q4, q5, List.set_cons_succ, List.set_cons_zero]
    · refine ⟨m, S1, ?_, B1.mono (by omega), hm⟩
      simp [h, e0, h5]
  · refine ⟨m, S, ?_, B.mono (by omega), hm⟩
    simp [h]
theorem nD_ok (B : Bg S0 n t S) (ht : t < 2 ^ 55) (hm : m < 10 ^ 4000) : ∃ (i : Int) (S' : Sto), nD (nE n k m) S = .rt (.int i) S' ∧ Bg S0 n (t + 1) S' ∧ i.natAbs < 10 ^ 4000 := by
  unfold nD nE
  obtain ⟨i0, S1, e0, B1, h0, h0'⟩ := B.draw (m := 3) (by omega) (by decide)
  by_cases h : i0 = 1
  · refine ⟨-(m : Int), S1, ?_, B1, by omega⟩
    simp [e0, h]
  · refine ⟨m, S1, ?_, B1, by omega⟩
    simp [e0, h]
end
theorem g_number {S : Sto} {n t : Nat} (B : BOk S n t) (ht : t < 2 ^ 50) : ∃ (i : Int) (S' : Sto), f_law_p10_number [.ref n] S = .ok (.int i) S' ∧ Bg S n (t + 11) S' ∧ i.natAbs < 10 ^ 4000 := by
  obtain ⟨k, S1, e1, B1, h1, h1'⟩ := (Bg.start B).draw (m := 8) (by omega) (by decide)
  obtain ⟨i, S2, e2, B2, h2, h2'⟩ := B1.draw (m := 12) (by omega) (by decide)
  obtain ⟨m, rfl⟩ := nat_of h2
  have := big4
  obtain ⟨m3, S3, e3, B3, h3⟩ := nA_ok (k := k) (m := m) B2 (by omega) (by omega)
  obtain ⟨m4, S4, e4, B4, h4⟩ := nB_ok (k := k) (m := m3) B3 (by omega) h3
  obtain ⟨m5, S5, e5, B5, h5⟩ := nC_ok (k := k) (m := m4) B4 (by omega) h4
  obtain ⟨r, S6, e6, B6, h6⟩ := nD_ok (k := k) (m := m5) B5 (by omega) h5
  refine ⟨r, S6, ?_, B6, h6⟩
  unfold f_law_p10_number mFun
  have e : b_law_p10_number (startE 3 [.ref n]) S = .rt (.int r) S6 := by
    rw [num_eq]
    unfold nE at e3 e4 e5 e6
    simp [startE, e1, e2, e3, e4, e5, e6]
  rw [e]
  exact B6.gc rfl
end ZP

set_option Elab.async false
set_option linter.all false
set_option maxRecDepth 100000
set_option maxHeartbeats 4000000
/-! k74 in plain Lean: words are drawn. -/
namespace ZP
open PySem PySem.Spec PyProof.Rows L2 Z ZT TL PySem.NumText PySem.W
theorem in3 (x a b c : Str) (S : Sto) (hx : PyData.strOk x = true) (ha : PyData.strOk a = true) (hb : PyData.strOk b = true) (hc : PyData.strOk c = true) : inD (.str x) (.lst [.str a, .str b, .str c]) S = .ok (.bl (a == x || (b == x || c == x))) S := by
  have h1 : (PyData.str x).canLay0 = true := by simpa [PyData.canLay0] using hx
  have h2 : (PyData.list [PyData.str a, PyData.str b, PyData.str c]).canLay0 = true := by simp [PyData.canLay0, PyData.canLayAll0, ha, hb, hc]
  have h3 : (PyData.str x).depth ≤ 64 := by simp [PyData.depth]
  have h4 : (PyData.list [PyData.str a, PyData.str b, PyData.str c]).depth ≤ 64 := by simp [PyData.depth, PyData.depthAll]
  simp [inD, pyS, py, pys, SeqAt.shaped, PyData.eqv, h1, h2, h3, h4]
/-- a word's signs -/
structure WL (l : List Nat) : Prop where
  hd : ∃ c r, l = c :: r ∧ (97 ≤ c ∧ c ≤ 122) ∧ (∀ d ∈ r, Sig d) ∧ r.length ≤ 11
theorem WL.ok {l : List Nat} (h : WL l) : PyData.strOk (SX.S l) = true := by
  obtain ⟨c, r, rfl, h1, h2, _⟩ := h.hd
  unfold PyData.strOk
  rw [← Array.all_toList, List.all_eq_true]
  intro d hd
  have : Sig d := by
    rcases List.mem_cons.mp hd with e | hd
    · rw [e]; exact .inl h1
    · exact h2 d hd
  unfold Sig at this
  exact decide_eq_true (by omega)
theorem WL.len {l : List Nat} (h : WL l) : l.length ≤ 12 := by
  obtain ⟨c, r, rfl, _, _, h3⟩ := h.hd
  simp; omega
noncomputable def w1 : MS := sAsg (.nm 2) (mApp 2 f_law_pick (mCons (mVar 0) (mCons (mVal (lDisp (mCons (mCon (.int 1)) (mCons (mCon (.int 2)) (mCons (mCon (.int 3)) (mCons (mCon (.int 4)) (mCons (mBin addD (mCon (.int 5)) (mApp 2 f_law_draw (mCons (mVar 0) (mCons (mCon (.int 8)) (mNil))))) (mCons (mCon (.int 12)) (mNil))))))))) (mNil))))
noncomputable def w2 : MS := sAsg (.nm 3) (mIx (mVar 1) (mApp 2 f_law_draw (mCons (mVar 0) (mCons (mCon (.int 26)) (mNil)))))
noncomputable def w3b : MS := sAsg (.nm 3) (mBin addD (mVar 3) (mIx (mBin addD (mVar 1) (mCon (.str "0123456789"))) (mApp 2 f_law_draw (mCons (mVar 0) (mCons (mCon (.int 36)) (mNil))))))
noncomputable def w3 : MS := sFor (.nm 4) (iRng1m (mBin subD (mVar 2) (mCon (.int 1)))) w3b
noncomputable def w4 : MS := sIf (asB (mBin eqD (mApp 2 f_law_draw (mCons (mVar 0) (mCons (mCon (.int 9)) (mNil)))) (mCon (.int 4))))
  (sAsg (.nm 3) (mApp 2 f_law_pick (mCons (mVar 0) (mCons (mVal (lDisp (mCons (mCon (.str "y")) (mCons (mCon (.str "n")) (mCons (mCon (.str "ye")) (mCons (mCon (.str "yess")) (mCons (mCon (.str "yes1")) (mCons (mCon (.str "non")) (mCons (mCon (.str "nones")) (mCons (mCon (.str "no1")) (mCons (mCon (.str "noneyesno")) (mCons (mCon (.str "z9")) (mCons (mCon (.str "a")) (mCons (mCon (.str "none0")) (mNil))))))))))))))) (mNil)))))
  (sNil)
noncomputable def w5 : MS := sCons (sIf (asB (mBin inD (mVar 3) (mVal (lDisp (mCons (mCon (.str "yes")) (mCons (mCon (.str "no")) (mCons (mCon (.str "none")) (mNil))))))))
  (sRet (mBin addD (mVar 3) (mCon (.str "x"))))
  (sNil))
  (sRet (mVar 3))
theorem word_eq : b_law_p10_word = sCons (sAsg (.nm 1) (mCon (.str "abcdefghijklmnopqrstuvwxyz"))) (sCons w1 (sCons w2 (sCons w3 (sCons w4 w5)))) := rfl
def letS : Str := "abcdefghijklmnopqrstuvwxyz"
abbrev wE (n : Nat) (size : Int) (l : List Nat) (x : Option D) : En := [some (.ref n), some (.str letS), some (.int size), some (.str (SX.S l)), x]
theorem let_at {j : Nat} (h : j < 26) : letS.cps.toList[j]? = some (97 + j) := by
  show (Str.ofString "abcdefghijklmnopqrstuvwxyz").cps.toList[j]? = _
  rw [cps_let]
  simp [h]
theorem sigS (S : Sto) : ∃ z : Str, addD (.str letS) (.str "0123456789") S = .ok (.str z) S ∧ z.length ≤ sizeLine ∧ ∀ j, j < 36 → ∃ c, z.cps.toList[j]? = some c ∧ Sig c := by
  refine ⟨Str.ofString "abcdefghijklmnopqrstuvwxyz0123456789", ?_, ?_, fun j hj => ?_⟩
  · unfold addD
    dsimp only
    rw [if_pos (by rw [sizeLine_eq]; decide +kernel)]
    rfl
  · rw [sizeLine_eq]; decide +kernel
  · have hl : (Str.ofString "abcdefghijklmnopqrstuvwxyz0123456789").cps.toList.length = 36 := by decide +kernel
    have hj' : j < (Str.ofString "abcdefghijklmnopqrstuvwxyz0123456789").cps.toList.length := by rw [hl]; exact hj
    exact ⟨_, List.getElem?_eq_getElem hj', mem_sig.mp (List.getElem_mem hj')⟩
section
variable {S0 S : Sto} {n t : Nat}
theorem w1_ok {a b : Option D} (B : Bg S0 n t S) (ht : t < 2 ^ 55) : ∃ (size : Int) (S' : Sto), w1 [some (.ref n), some (.str letS), none, a, b] S = .nx [some (.ref n), some (.str letS), some (.int size), a, b] S' ∧ Bg S0 n (t + 2) S' ∧ 1 ≤ size ∧ size ≤ 12 := by
  obtain ⟨i, S1, e1, B1, h1, h1'⟩ := B.draw (m := 8) (by omega) (by decide)
  obtain ⟨p, S2, e2, B2, hp⟩ := B1.pick (ds := [.int 1, .int 2, .int 3, .int 4, .int (5 + i), .int 12]) (by omega) (by simp) (by simp) (by simp [noRef])
  obtain ⟨r, rfl, hr⟩ : ∃ r : Int, p = .int r ∧ 1 ≤ r ∧ r ≤ 12 := by
    simp at hp
    rcases hp with h | h | h | h | h | h
    all_goals exact ⟨_, h, by omega, by omega⟩
  have h6 : (6 : Nat) ≤ sizeLine := by rw [sizeLine_eq]; omega
  refine ⟨r, S2, ?_, B2, hr⟩
  unfold w1 mVal lDisp
  simp [e1, e2, h6]
theorem w2_ok {size : Int} {b : Option D} (B : Bg S0 n t S) (ht : t < 2 ^ 55) : ∃ (c : Nat) (S' : Sto), w2 [some (.ref n), some (.str letS), some (.int size), none, b] S = .nx (wE n size [c] b) S' ∧ Bg S0 n (t + 1) S' ∧ 97 ≤ c ∧ c ≤ 122 := by
  obtain ⟨i, S1, e1, B1, h1, h1'⟩ := B.draw (m := 26) (by omega) (by decide)
  obtain ⟨j, rfl⟩ := nat_of h1
  have hj : j < 26 := by omega
  have hx := ix_str letS S1 (by rw [sizeLine_eq]; decide +kernel) (let_at hj)
  refine ⟨97 + j, S1, ?_, B1, by omega, by omega⟩
  unfold w2
  simp [e1, hx]
theorem w3b_ok {size : Int} {l : List Nat} {x : Option D} (B : Bg S0 n t S) (ht : t < 2 ^ 55) (hl : l.length < 20) : ∃ (c : Nat) (S' : Sto), w3b (wE n size l x) S = .nx (wE n size (l ++ [c]) x) S' ∧ Bg S0 n (t + 1) S' ∧ Sig c := by
  obtain ⟨i, S1, e1, B1, h1, h1'⟩ := B.draw (m := 36) (by omega) (by decide)
  obtain ⟨j, rfl⟩ := nat_of h1
  obtain ⟨z, ez, hz, hat⟩ := sigS S
  obtain ⟨c, hc, hs⟩ := hat j (by omega)
  have hx := ix_str z S1 hz hc
  have ha : addD (.str (SX.S l)) (.str ⟨#[c]⟩) S1 = .ok (.str (SX.S (l ++ [c]))) S1 := by
    unfold addD
    dsimp only
    have e : (⟨#[c]⟩ : Str) = SX.S [c] := rfl
    rw [e, SX.S_len, SX.S_len, if_pos (by rw [sizeLine_eq]; simp; omega), SX.S_cat]
  refine ⟨c, S1, ?_, B1, hs⟩
  unfold w3b wE
  simp only [sAsg_nm, mBin_, mIx_, varS, var0, mCon_, Res.bind_ok, ez, calm_ok, mApp_, mCons_, mNil_, List.length_cons, List.length_nil, Nat.zero_add, Nat.reduceAdd, if_true, e1, hx, ha, toOut_ok, List.set_cons_succ, List.set_cons_zero]
theorem w3_ok {size : Int} {c : Nat} {x : Option D} (B : Bg S0 n t S) (ht : t < 2 ^ 50) (hs : 1 ≤ size ∧ size ≤ 12) (hc : 97 ≤ c ∧ c ≤ 122) : ∃ (l : List Nat) (y : Option D) (S' : Sto), w3 (wE n size [c] x) S = .nx (wE n size l y) S' ∧ Bg S0 n (t + 11) S' ∧ WL l := by
  obtain ⟨m, hm⟩ := nat_of (i := size - 1) (by omega)
  have hlen : (rangeD 0 m).length = m := by unfold rangeD; rw [List.length_map, List.length_range]
  obtain ⟨env', S', e, l, y, rfl, B', r, rfl, hr1, hr2⟩ := for_done (chk := fun _ => True) (b := w3b) (i := 4) (ds := rangeD 0 m)
    (fun done env S => ∃ l y, env = wE n size l y ∧ Bg S0 n (t + done.length) S ∧ ∃ r, l = c :: r ∧ (∀ d ∈ r, Sig d) ∧ r.length = done.length) (fun _ _ _ _ => trivial) (fun done d rest env S' ed hI => by
      obtain ⟨l, y, rfl, B1, r, rfl, h1, h2⟩ := hI
      have hd : done.length < 11 := by
        have := congrArg List.length ed
        rw [hlen] at this
        simp at this
        omega
      obtain ⟨c', S1, e1, B2, h3⟩ := w3b_ok (size := size) (x := some d) (l := c :: r) B1 (by omega) (by simp; omega)
      refine ⟨_, S1, e1, _, _, rfl, by simpa [Nat.add_assoc] using B2, r ++ [c'], rfl, fun z hz => ?_, by simp [h2]⟩
      rcases List.mem_append.mp hz with hz | hz
      · exact h1 z hz
      · rw [List.mem_singleton.mp hz]; exact h3) (wE n size [c] x) S ⟨[c], x, rfl, by simpa using B, [], rfl, (fun _ h => by cases h), rfl⟩
  rw [hlen] at hr2 B'
  refine ⟨c :: r, y, S', ?_, B'.mono (by omega), ⟨c, r, rfl, hc, hr1, by omega⟩⟩
  unfold w3 sFor
  rw [iRng1_ok _ _ S S m (by simp [wE, hm]) (by omega), toOut_ok]
  exact e
def odds : List (List Nat) := [[121], [110], [121, 101], [121, 101, 115, 115], [121, 101, 115, 49], [110, 111, 110], [110, 111, 110, 101, 115], [110, 111, 49], [110, 111, 110, 101, 121, 101, 115, 110, 111], [122, 57], [97], [110, 111, 110, 101, 48]]
theorem odds_eq : ([.str "y", .str "n", .str "ye", .str "yess", .str "yes1", .str "non", .str "nones", .str "no1", .str "noneyesno", .str "z9", .str "a", .str "none0"] : List D) = odds.map fun l => D.str (SX.S l) := by
  have e : (["y", "n", "ye", "yess", "yes1", "non", "nones", "no1", "noneyesno", "z9", "a", "none0"] : List Str) = odds.map SX.S := by decide +kernel
  exact congrArg (List.map D.str) e
instance (c : Nat) : Decidable (Sig c) := inferInstanceAs (Decidable ((97 ≤ c ∧ c ≤ 122) ∨ (48 ≤ c ∧ c ≤ 57)))
def isWL : List Nat → Bool
  | [] => false
  | c :: r => decide (97 ≤ c) && decide (c ≤ 122) && r.all (fun d => decide (Sig d)) && decide (r.length ≤ 11)
theorem isWL_ok {l : List Nat} (h : isWL l = true) : WL l := by
  cases l with
  | nil => cases h
  | cons c r =>
    simp only [isWL, Bool.and_eq_true, decide_eq_true_eq, List.all_eq_true] at h
    exact ⟨c, r, rfl, ⟨h.1.1.1, h.1.1.2⟩, h.1.2, h.2⟩
theorem odds_ok : ∀ l ∈ odds, WL l := by
  have : odds.all isWL = true := by decide +kernel
  exact fun l hl => isWL_ok (List.all_eq_true.mp this l hl)
theorem w4_ok {size : Int} {l : List Nat} {x : Option D} (B : Bg S0 n t S) (ht : t < 2 ^ 55) (W : WL l) : ∃ (l' : List Nat) (S' : Sto), w4 (wE n size l x) S = .nx (wE n size l' x) S' ∧ Bg S0 n (t + 2) S' ∧ WL l' := by
  obtain ⟨i, S1, e1, B1, h1, h1'⟩ := B.draw (m := 9) (by omega) (by decide)
  by_cases h : i = 4
  · subst h
    obtain ⟨p, S2, e2, B2, hp⟩ := B1.pick (ds := odds.map fun l => D.str (SX.S l)) (by omega) (by decide) (by decide) (fun d hd => by
      obtain ⟨l, _, rfl⟩ := List.mem_map.mp hd; rfl)
    obtain ⟨l', hl', rfl⟩ := List.mem_map.mp hp
    refine ⟨l', S2, ?_, B2, odds_ok l' hl'⟩
    rw [← odds_eq] at e2
    have h12 : (12 : Nat) ≤ sizeLine := by rw [sizeLine_eq]; omega
    unfold w4 mVal lDisp wE
    simp only [sIf_, asB_, mBin_, mApp_, mCons_, mNil_, varS, var0, mCon_, Res.bind_ok, List.length_cons, List.length_nil, Nat.zero_add, Nat.reduceAdd, if_true, e1, eqI, decide_true, calm_ok, toOut_ok, sAsg_nm, h12, e2, List.set_cons_succ, List.set_cons_zero]
  · refine ⟨l, S1, ?_, B1.mono (by omega), W⟩
    unfold w4
    simp [e1, h]
def threeS (x : Str) : Bool := Str.ofString "yes" == x || (Str.ofString "no" == x || Str.ofString "none" == x)
theorem w5_ok {size : Int} {l : List Nat} {x : Option D} (W : WL l) : ∃ z : Str, w5 (wE n size l x) S = .rt (.str z) S ∧ Wd z := by
  have hin := in3 (SX.S l) "yes" "no" "none" S W.ok (by decide +kernel) (by decide +kernel) (by decide +kernel)
  have h3l : (3 : Nat) ≤ sizeLine := by rw [sizeLine_eq]; omega
  cases hb : (Str.ofString "yes" == SX.S l || (Str.ofString "no" == SX.S l || Str.ofString "none" == SX.S l)) with
  | true =>
    rw [hb] at hin
    have hadd : ∀ (a b z : Str), a.length + b.length ≤ 100 → a ++ b = z → addD (.str a) (.str b) S = .ok (.str z) S := fun a b z h1 h2 => by
      unfold addD
      dsimp only
      rw [if_pos (by rw [sizeLine_eq]; omega), h2]
    have fin : ∀ z : Str, addD (.str (SX.S l)) (.str "x") S = .ok (.str z) S → Wd z → ∃ z : Str, w5 (wE n size l x) S = .rt (.str z) S ∧ Wd z := fun z h1 h2 => by
      refine ⟨z, ?_, h2⟩
      unfold w5 mVal lDisp wE
      simp only [sCons_, sIf_, asB_, mBin_, mCons_, mNil_, varS, var0, mCon_, Res.bind_ok, List.length_cons, List.length_nil, Nat.zero_add, Nat.reduceAdd, h3l, if_true, hin, calm_ok, toOut_ok, sRet_, h1, seq_rt]
    rw [Bool.or_eq_true, Bool.or_eq_true] at hb
    rcases hb with hb | hb | hb
    · rw [← eq_of_beq hb] at fin
      exact fin (Str.ofString "yesx") (hadd _ _ _ (by decide +kernel) (by decide +kernel)) ⟨⟨121, [101, 115, 120], by decide +kernel, by omega, by decide, by decide⟩, by decide +kernel⟩
    · rw [← eq_of_beq hb] at fin
      exact fin (Str.ofString "nox") (hadd _ _ _ (by decide +kernel) (by decide +kernel)) ⟨⟨110, [111, 120], by decide +kernel, by omega, by decide, by decide⟩, by decide +kernel⟩
    · rw [← eq_of_beq hb] at fin
      exact fin (Str.ofString "nonex") (hadd _ _ _ (by decide +kernel) (by decide +kernel)) ⟨⟨110, [111, 110, 101, 120], by decide +kernel, by omega, by decide, by decide⟩, by decide +kernel⟩
  | false =>
    rw [hb] at hin
    simp only [Bool.or_eq_false_iff, beq_eq_false_iff_ne, ne_eq] at hb
    refine ⟨SX.S l, ?_, W.hd, ?_⟩
    · unfold w5 mVal lDisp wE
      simp only [sCons_, sIf_, asB_, mBin_, mCons_, mNil_, varS, var0, mCon_, Res.bind_ok, List.length_cons, List.length_nil, Nat.zero_add, Nat.reduceAdd, h3l, if_true, hin, calm_ok, toOut_ok, sRet_, sNil_, seq_nx, Bool.false_eq_true, if_false]
    · unfold t_SPECIAL
      simp only [findS]
      rw [if_neg hb.1, if_neg hb.2.1, if_neg hb.2.2]
end
theorem g_word {S : Sto} {n t : Nat} (B : BOk S n t) (ht : t < 2 ^ 45) : ∃ (z : Str) (S' : Sto), f_law_p10_word [.ref n] S = .ok (.str z) S' ∧ Bg S n (t + 16) S' ∧ Wd z := by
  obtain ⟨size, S1, e1, B1, h1⟩ := w1_ok (a := none) (b := none) (Bg.start B) (by omega)
  obtain ⟨c, S2, e2, B2, h2⟩ := w2_ok (size := size) (b := none) B1 (by omega)
  obtain ⟨l, y, S3, e3, B3, h3⟩ := w3_ok (size := size) (x := none) B2 (by omega) h1 h2
  obtain ⟨l4, S4, e4, B4, h4⟩ := w4_ok (size := size) (x := y) B3 (by omega) h3
  obtain ⟨z, e5, h5⟩ := w5_ok (n := n) (S := S4) (size := size) (x := y) h4
  refine ⟨z, S4, ?_, B4, h5⟩
  have e : b_law_p10_word (startE 5 [.ref n]) S = .rt (.str z) S4 := by
    rw [word_eq]
    have e0 : startE 5 [.ref n] = [some (.ref n), none, none, none, none] := rfl
    rw [e0, sCons_, sAsg_nm, mCon_, toOut_ok, seq_nx]
    simp only [List.set_cons_succ, List.set_cons_zero]
    show sCons w1 _ [some (.ref n), some (.str letS), none, none, none] S = _
    rw [sCons_, e1, seq_nx, sCons_, e2, seq_nx, sCons_, e3, seq_nx, sCons_, e4, seq_nx, e5]
  unfold f_law_p10_word mFun
  rw [e, endR_rt]
  exact B4.gc rfl
end ZP

set_option Elab.async false
set_option linter.all false
set_option maxRecDepth 100000
set_option maxHeartbeats 4000000
/-! k74 in plain Lean: values are drawn. -/
namespace ZP
open PySem PySem.Spec PyProof.Rows L2 Z ZT TL PySem.NumText PySem.W
theorem g_atom {S : Sto} {n t : Nat} (B : BOk S n t) (ht : t < 2 ^ 44) : ∃ (d : D) (w : List Nat) (S' : Sto), f_law_p10_atom [.ref n] S = .ok d S' ∧ Bg S n (t + 20) S' ∧ Atom d w ∧ w.length ≤ 4001 := by
  obtain ⟨i, S1, e1, B1, h1, h1'⟩ := (Bg.start B).draw (m := 9) (by omega) (by decide)
  have fin : ∀ (d : D) (w : List Nat) (S' : Sto), b_law_p10_atom (startE 2 [.ref n]) S = .rt d S' → Bg S n (t + 20) S' → Atom d w → w.length ≤ 4001 → ∃ (d : D) (w : List Nat) (S' : Sto), f_law_p10_atom [.ref n] S = .ok d S' ∧ Bg S n (t + 20) S' ∧ Atom d w ∧ w.length ≤ 4001 := fun d w S' e B A hw => by
    refine ⟨d, w, S', ?_, B, A, hw⟩
    unfold f_law_p10_atom mFun
    rw [e, endR_rt]
    exact B.gc (atom_nr A 0).2
  by_cases c1 : i < 3
  · obtain ⟨z, S2, e2, B2, W⟩ := g_word B1.ok (by omega)
    have hl : z.cps.toList.length ≤ 12 := by
      obtain ⟨⟨c, r, e, _, _, h⟩, _⟩ := W
      rw [e]; simp; omega
    refine fin _ _ S2 ?_ (B1.trans (B2.mono (by omega))) (.word W) (by omega)
    unfold b_law_p10_atom
    simp [startE, e1, c1, e2]
  by_cases c2 : i = 3
  · refine fin _ _ S1 ?_ (B1.mono (by omega)) .dash (by simp)
    unfold b_law_p10_atom
    simp [startE, e1, c1, c2]
  by_cases c3 : i = 4
  · refine fin _ _ S1 ?_ (B1.mono (by omega)) .non (by simp)
    unfold b_law_p10_atom
    simp [startE, e1, c1, c2, c3]
  by_cases c4 : i = 5
  · obtain ⟨j, S2, e2, B2, h2, h2'⟩ := B1.draw (m := 2) (by omega) (by decide)
    have A : ∃ w, Atom (.bl (decide (j = 1))) w ∧ w.length ≤ 4001 := by
      by_cases hj : j = 1
      · rw [decide_eq_true hj]; exact ⟨_, .yes, by simp⟩
      · rw [decide_eq_false hj]; exact ⟨_, .no, by simp⟩
    obtain ⟨w, A, hw⟩ := A
    refine fin _ w S2 ?_ (B2.mono (by omega)) A hw
    unfold b_law_p10_atom
    simp [startE, e1, c1, c2, c3, c4, e2]
  · obtain ⟨v, S2, e2, B2, hv⟩ := g_number B1.ok (by omega)
    have A : ∃ w, Atom (.int v) w ∧ w.length ≤ 4001 := by
      rcases Int.lt_or_le v 0 with h | h
      · obtain ⟨m, rfl⟩ : ∃ m : Nat, v = -(m : Int) := ⟨v.natAbs, by omega⟩
        have hm : m < 10 ^ 4000 := by simpa using hv
        have := tn_len (m := m) (k := 4000) (by decide) hm
        exact ⟨_, .neg (by omega) hm, by simp; omega⟩
      · obtain ⟨m, rfl⟩ := nat_of h
        have hm : m < 10 ^ 4000 := by simpa using hv
        have := tn_len (m := m) (k := 4000) (by decide) hm
        exact ⟨_, .nat hm, by omega⟩
    obtain ⟨w, A, hw⟩ := A
    refine fin _ w S2 ?_ (B1.trans (B2.mono (by omega))) A hw
    unfold b_law_p10_atom
    simp [startE, e1, c1, c2, c3, c4, e2]
/-- how many draws a value of so many levels takes, how long its text is -/
def cst : Nat → Nat
  | 0 => 21
  | L + 1 => 30 + 5 * cst L
def lng : Nat → Nat
  | 0 => 4001
  | L + 1 => 4001 + 5 * (lng L + 1)
/-- a comprehension by what is done -/
theorem comp_done {chk : Sto → Prop} {me : ME} {env : En} {i : Nat} {ds : List D} (I : List D → List D → Sto → Prop) (hchk : ∀ l xs S, I l xs S → chk S)
    (hs : ∀ done xs d rest S, ds = done ++ d :: rest → I done xs S → ∃ x S', me (env.set i (some d)) S = .ok x S' ∧ I (done ++ [d]) (xs ++ [x]) S') :
    ∀ S, I [] [] S → ∃ xs S', compL chk (.nm i) tYesM me env ds S = .ok xs S' ∧ I ds xs S' := by
  have key : ∀ (rest done ys : List D), ds = done ++ rest → ∀ S, I done ys S → ∃ xs S', compL chk (.nm i) tYesM me env rest S = .ok xs S' ∧ I ds (ys ++ xs) S' := by
    intro rest
    induction rest with
    | nil =>
      intro done ys e S h
      rw [List.append_nil] at e
      subst e
      exact ⟨[], S, rfl, by simpa using h⟩
    | cons d rest ih =>
      intro done ys e S h
      obtain ⟨x, S1, e1, h1⟩ := hs done ys d rest S e h
      obtain ⟨xs, S2, e2, h2⟩ := ih (done ++ [d]) (ys ++ [x]) (by rw [e]; simp) S1 h1
      refine ⟨x :: xs, S2, ?_, by simpa using h2⟩
      unfold compL
      simp [Tg.put, tYesM, e1, hchk _ _ _ h1, e2]
  intro S h
  obtain ⟨xs, S', e, h'⟩ := key ds [] [] rfl S h
  exact ⟨xs, S', e, by simpa using h'⟩
/-- a list of values becomes a tuple's text -/
theorem vals_of {k M : Nat} : ∀ ds : List D, (∀ d ∈ ds, ∃ w, Val k d w ∧ w.length ≤ M) → ∃ ws, Vals k ds ws ∧ ws.length ≤ ds.length * (M + 1) + 1
  | [], _ => ⟨_, .nil, by simp⟩
  | d :: ds, h => by
    obtain ⟨w, V, hw⟩ := h d List.mem_cons_self
    obtain ⟨ws, Vs, hws⟩ := vals_of ds fun e he => h e (List.mem_cons_of_mem _ he)
    refine ⟨_, .cons V Vs, ?_⟩
    simp only [List.length_cons, List.length_append, Nat.add_mul]
    omega
theorem tup_of {k M : Nat} (ds : List D) (hl : ds.length ≤ 900) (h : ∀ d ∈ ds, ∃ w, Val k d w ∧ w.length ≤ M) : ∃ w, Val (k + 1) (.tup ds) w ∧ w.length ≤ ds.length * (M + 1) + 2 := by
  cases ds with
  | nil => exact ⟨_, .nil, by simp⟩
  | cons d ds =>
    obtain ⟨w, V, hw⟩ := h d List.mem_cons_self
    obtain ⟨ws, Vs, hws⟩ := vals_of ds fun e he => h e (List.mem_cons_of_mem _ he)
    refine ⟨_, .tup (by simp at hl; omega) V Vs, ?_⟩
    simp only [List.length_cons, List.length_append, Nat.add_mul]
    omega
mutual
theorem val_up : ∀ {k : Nat} {d : D} {w : List Nat}, Val k d w → Val (k + 1) d w
  | _, _, _, .atom A => .atom A
  | _, _, _, .nil => .nil
  | _, _, _, .tup hl V Vs => .tup hl (val_up V) (vals_up Vs)
theorem vals_up : ∀ {k : Nat} {ds : List D} {ws : List Nat}, Vals k ds ws → Vals (k + 1) ds ws
  | _, _, _, .nil => .nil
  | _, _, _, .cons V Vs => .cons (val_up V) (vals_up Vs)
end
theorem val_le {k k' : Nat} {d : D} {w : List Nat} (V : Val k d w) (h : k ≤ k') : Val k' d w := by
  induction h with
  | refl => exact V
  | step _ ih => exact val_up ih
theorem g_value : ∀ (L : Nat) {S : Sto} {n t : Nat}, L ≤ 3 → BOk S n t → t + cst L < 2 ^ 40 → ∃ (d : D) (w : List Nat) (S' : Sto), f_law_p10_value (L + 1) [.ref n, .int (L : Int)] S = .ok d S' ∧ Bg S n (t + cst L) S' ∧ Val L d w ∧ w.length ≤ lng L := by
  intro L
  induction L with
  | zero =>
    intro S n t hL B ht
    obtain ⟨d, w, S1, e1, B1, A, hw⟩ := g_atom B (by omega)
    refine ⟨d, w, S1, ?_, B1.mono (by unfold cst; omega), .atom A, hw⟩
    show mFun true 3 (b_law_p10_value (f_law_p10_value 0)) [.ref n, .int 0] S = _
    unfold mFun b_law_p10_value
    simp [startE, e1]
    exact B1.gc (atom_nr A 0).2
  | succ L ih =>
    intro S n t hL B ht
    have hc : cst (L + 1) = 30 + 5 * cst L := rfl
    have hcL : cst L ≤ 10000 := by
      have : L = 0 ∨ L = 1 ∨ L = 2 := by omega
      rcases this with h | h | h <;> subst h <;> decide
    have hne : ¬ ((L + 1 : Nat) : Int) = 0 := by omega
    have hnb : decide (((L + 1 : Nat) : Int) = 0) = false := decide_eq_false hne
    obtain ⟨i, S1, e1, B1, h1, h1'⟩ := (Bg.start B).draw (m := 4) (by omega) (by decide)
    by_cases c1 : i = 3
    · obtain ⟨d, w, S2, e2, B2, A, hw⟩ := g_atom B1.ok (by omega)
      refine ⟨d, w, S2, ?_, B1.trans (B2.mono (by omega)), .atom A, by unfold lng; omega⟩
      show mFun true 3 (b_law_p10_value (f_law_p10_value (L + 1))) [.ref n, .int ((L + 1 : Nat) : Int)] S = _
      unfold mFun b_law_p10_value
      have : b_law_p10_value (f_law_p10_value (L + 1)) (startE 3 [.ref n, .int ((L + 1 : Nat) : Int)]) S = .rt d S2 := by
        unfold b_law_p10_value startE
        simp only [List.map_cons, List.map_nil, List.cons_append, List.nil_append, sCons_, sIf_, tOr2_, asB_, mBin_, mApp_, mCons_, mNil_, varS, var0, mCon_, Res.bind_ok, List.length_cons, List.length_nil, Nat.zero_add, Nat.reduceAdd, if_true, eqI, hnb, Bool.false_eq_true, if_false, e1, c1, decide_true, calm_ok, toOut_ok, sRet_, e2, seq_rt]
      unfold b_law_p10_value at this
      rw [this, endR_rt]
      exact (B1.trans B2).gc (atom_nr A 0).2
    · obtain ⟨j, S2, e2, B2, h2, h2'⟩ := B1.draw (m := 5) (by omega) (by decide)
      obtain ⟨m, rfl⟩ := nat_of h2
      have hlen : (rangeD 0 m).length = m := by unfold rangeD; rw [List.length_map, List.length_range]
      have hsub : ∀ S, subD (.int ((L + 1 : Nat) : Int)) (.int 1) S = .ok (.int (L : Int)) S := fun S => by
        show Res.ok (D.int (((L + 1 : Nat) : Int) - 1)) S = _
        congr 2
        omega
      obtain ⟨xs, S3, e3, B3, hx, hxl⟩ := comp_done (chk := fun _ => True) (i := 2) (ds := rangeD 0 m) (me := mApp 2 (f_law_p10_value (L + 1)) (mCons (mVar 0) (mCons (mBin subD (mVar 1) (mCon (.int 1))) (mNil)))) (env := [some (.ref n), some (.int ((L + 1 : Nat) : Int)), none])
        (fun done xs S' => Bg S n (t + 2 + done.length * cst L) S' ∧ (∀ d ∈ xs, ∃ w, Val L d w ∧ w.length ≤ lng L) ∧ xs.length = done.length) (fun _ _ _ _ => trivial)
        (fun done xs d rest S' ed hI => by
          obtain ⟨B', hx, hl⟩ := hI
          have hd : done.length < 5 := by
            have := congrArg List.length ed
            rw [hlen] at this
            simp at this
            omega
          have hm : done.length * cst L ≤ 4 * cst L := Nat.mul_le_mul (by omega) (Nat.le_refl _)
          obtain ⟨x, w, S4, e4, B4, V, hw⟩ := ih (by omega) B'.ok (by omega)
          refine ⟨x, S4, ?_, ?_, ?_, by simp [hl]⟩
          · simp only [List.set_cons_succ, List.set_cons_zero, mApp_, mCons_, mNil_, mBin_, varS, var0, mCon_, Res.bind_ok, hsub, calm_ok, List.length_cons, List.length_nil, Nat.zero_add, Nat.reduceAdd, if_true, e4]
          · have := B'.trans B4
            simp only [List.length_append, List.length_singleton, Nat.add_mul]
            exact this.mono (by omega)
          · intro y hy
            rcases List.mem_append.mp hy with hy | hy
            · exact hx y hy
            · rw [List.mem_singleton.mp hy]; exact ⟨w, V, hw⟩) S2 ⟨by simpa using B2, (fun _ h => by cases h), rfl⟩
      rw [hlen] at B3 hxl
      obtain ⟨w, V, hw⟩ := tup_of xs (by omega) hx
      have hm : m * cst L ≤ 4 * cst L := Nat.mul_le_mul (by omega) (Nat.le_refl _)
      have hm2 : xs.length * (lng L + 1) ≤ 4 * (lng L + 1) := Nat.mul_le_mul (by omega) (Nat.le_refl _)
      refine ⟨.tup xs, w, S3, ?_, B3.mono (by omega), V, by unfold lng; omega⟩
      have hlc : lComp (.nm 2) (iRng1m (mApp 2 f_law_draw (mCons (mVar 0) (mCons (mCon (.int 5)) (mNil))))) (tYesM) (mApp 2 (f_law_p10_value (L + 1)) (mCons (mVar 0) (mCons (mBin subD (mVar 1) (mCon (.int 1))) (mNil)))) [2] [some (.ref n), some (.int ((L + 1 : Nat) : Int)), none] S1 = .ok xs S3 := by
        unfold lComp
        rw [iRng1_ok _ _ S1 S2 m (by simp [e2]) (by omega), Res.bind_ok]
        dsimp only
        rw [if_pos (rng_len (by omega))]
        exact e3
      have htup : tupD [.lst xs] S3 = .ok (.tup xs) S3 := by
        unfold tupD asR
        first | rfl | (dsimp only; rfl)
      have : b_law_p10_value (f_law_p10_value (L + 1)) (startE 3 [.ref n, .int ((L + 1 : Nat) : Int)]) S = .rt (.tup xs) S3 := by
        unfold b_law_p10_value startE mVal
        simp only [List.map_cons, List.map_nil, List.cons_append, List.nil_append, sCons_, sIf_, tOr2_, asB_, mBin_, mApp_, mCons_, mNil_, varS, var0, mCon_, Res.bind_ok, List.length_cons, List.length_nil, Nat.zero_add, Nat.reduceAdd, if_true, eqI, hnb, Bool.false_eq_true, if_false, e1, c1, decide_false, calm_ok, toOut_ok, sNil_, seq_nx, sRet_, mCall_, Nat.reduceSub, List.replicate_one]
        rw [hlc]
        simp only [Res.bind_ok, htup, calm_ok, toOut_ok]
      show mFun true 3 (b_law_p10_value (f_law_p10_value (L + 1))) [.ref n, .int ((L + 1 : Nat) : Int)] S = _
      unfold mFun
      rw [this, endR_rt]
      exact B3.gc rfl
end ZP

set_option Elab.async false
set_option linter.all false
set_option maxRecDepth 100000
set_option maxHeartbeats 4000000
/-! k74 in plain Lean: values within tuples; the law. -/
namespace ZP
open PySem PySem.Spec PyProof.Rows L2 Z ZT TL PySem.NumText PySem.W
noncomputable def pA : MS := sAsg (.nm 3) (mApp 2 f_law_pick (mCons (mVar 0) (mCons (mVal (lDisp (mCons (mCon (.int 0)) (mCons (mCon (.int 0)) (mCons (mCall minD (mCons (mVar 2) (mCons (mBin addD (mCon (.int 1)) (mApp 2 f_law_draw (mCons (mVar 0) (mCons (mCon (.int 8)) (mNil))))) (mNil)))) (mCons (mApp 2 f_law_draw (mCons (mVar 0) (mCons (mBin addD (mVar 2) (mCon (.int 1))) (mNil)))) (mCons (mVar 2) (mNil)))))))) (mNil))))
noncomputable def pB : MS := sCons (sAsg (.nm 5) (mApp 2 f_law_draw (mCons (mVar 0) (mCons (mCon (.int 4)) (mNil)))))
  (sIf (asB (mBin ltD (mVar 5) (mCon (.int 2))))
  (sAsg (.nm 1) (mTup (mCons (mVar 1) (mNil))))
  (sIf (asB (mBin eqD (mVar 5) (mCon (.int 2))))
  (sAsg (.nm 1) (mTup (mCons (mApp 2 f_law_pick (mCons (mVar 0) (mCons (mVal (lDisp (mCons (mCon (.str "")) (mCons (mCon (.str "a")) (mCons (mCon (.int 0)) (mCons (mCon .non) (mCons (mCon (.bl true)) (mCons (mTup (mNil)) (mNil))))))))) (mNil)))) (mCons (mVar 1) (mNil)))))
  (sAsg (.nm 1) (mTup (mCons (mVar 1) (mCons (mApp 2 f_law_pick (mCons (mVar 0) (mCons (mVal (lDisp (mCons (mCon (.int 7)) (mCons (mCon (.str "no1")) (mCons (mCon (.bl false)) (mCons (mCon (.str "")) (mCons (mUn negD (mCon (.int 1))) (mNil)))))))) (mNil)))) (mNil)))))))
theorem wrap_eq : b_law_p10_wrapped = sCons pA (sCons (sFor (.nm 4) (iRng1m (mVar 3)) pB) (sRet (mVar 1))) := rfl
abbrev pE (n : Nat) (d : D) (m : Int) (x y : Option D) : En := [some (.ref n), some d, some (.int 57), some (.int m), x, y]
section
variable {S0 S : Sto} {n t : Nat}
theorem pA_ok {d : D} (B : Bg S0 n t S) (ht : t < 2 ^ 55) : ∃ (m : Nat) (S' : Sto), pA [some (.ref n), some d, some (.int 57), none, none, none] S = .nx (pE n d m none none) S' ∧ Bg S0 n (t + 3) S' ∧ m ≤ 57 := by
  obtain ⟨i, S1, e1, B1, h1, h1'⟩ := B.draw (m := 8) (by omega) (by decide)
  obtain ⟨j, S2, e2, B2, h2, h2'⟩ := B1.draw (m := 58) (by omega) (by decide)
  have hmin : ∀ S, minD [.int 57, .int (1 + i)] S = .ok (.int (1 + i)) S := fun S => by
    show Res.ok (D.int (if 1 + i < 57 then 1 + i else 57)) S = _
    rw [if_pos (by omega)]
  obtain ⟨p, S3, e3, B3, hp⟩ := B2.pick (ds := [.int 0, .int 0, .int (1 + i), .int j, .int 57]) (by omega) (by simp) (by simp) (by simp [noRef])
  obtain ⟨r, rfl, hr⟩ : ∃ r : Nat, p = .int (r : Int) ∧ r ≤ 57 := by
    simp at hp
    rcases hp with h | h | h | h
    · exact ⟨0, h, by omega⟩
    · exact ⟨(1 + i).toNat, by rw [h]; congr 1; omega, by omega⟩
    · exact ⟨j.toNat, by rw [h]; congr 1; omega, by omega⟩
    · exact ⟨57, h, by omega⟩
  have h5 : (5 : Nat) ≤ sizeLine := by rw [sizeLine_eq]; omega
  refine ⟨r, S3, ?_, B3, hr⟩
  unfold pA mVal lDisp
  simp [e1, e2, e3, h5, hmin]
theorem small_val {d : D} (h : d ∈ ([.str "", .str "a", .int 0, .non, .bl true, .tup []] : List D) ∨ d ∈ ([.int 7, .str "no1", .bl false, .str "", .int (-1)] : List D)) : ∃ w, Val 1 d w ∧ w.length ≤ 5 := by
  have wa : Wd (Str.ofString "a") := ⟨⟨97, [], by decide +kernel, by omega, by decide, by decide⟩, by decide +kernel⟩
  have wn : Wd (Str.ofString "no1") := ⟨⟨110, [111, 49], by decide +kernel, by omega, by decide, by decide⟩, by decide +kernel⟩
  have big : (10 : Nat) < 10 ^ 4000 := Nat.lt_of_lt_of_le (show 10 < 10 ^ 4 by decide) (Nat.pow_le_pow_right (by decide) (by decide))
  rcases h with h | h
  · simp at h
    rcases h with h | h | h | h | h | h <;> subst h
    · exact ⟨_, .atom .dash, by decide⟩
    · exact ⟨_, .atom (.word wa), by decide +kernel⟩
    · exact ⟨tn 0, .atom (.nat (m := 0) (by omega)), by decide +kernel⟩
    · exact ⟨_, .atom .non, by decide⟩
    · exact ⟨_, .atom .yes, by decide⟩
    · exact ⟨_, .nil, by decide⟩
  · simp at h
    rcases h with h | h | h | h | h <;> subst h
    · exact ⟨tn 7, .atom (.nat (m := 7) (by omega)), by decide +kernel⟩
    · exact ⟨_, .atom (.word wn), by decide +kernel⟩
    · exact ⟨_, .atom .no, by decide⟩
    · exact ⟨_, .atom .dash, by decide⟩
    · exact ⟨45 :: tn 1, .atom (.neg (m := 1) (by omega) (by omega)), by decide +kernel⟩
theorem two_of {k : Nat} {a b : D} {w v : List Nat} (V : Val k a w) (U : Val k b v) : Val (k + 1) (.tup [a, b]) (40 :: (w ++ (32 :: (v ++ [41])))) := .tup (by simp) V (.cons U .nil)
theorem pB_ok {d : D} {m : Int} {x y : Option D} {k : Nat} {w : List Nat} (B : Bg S0 n t S) (ht : t < 2 ^ 55) (V : Val k d w) (hk : 1 ≤ k) : ∃ (d' : D) (w' : List Nat) (z : Option D) (S' : Sto), pB (pE n d m x y) S = .nx (pE n d' m x z) S' ∧ Bg S0 n (t + 2) S' ∧ Val (k + 1) d' w' ∧ w'.length ≤ w.length + 10 := by
  have hs1 : (1 : Nat) ≤ sizeLine := by rw [sizeLine_eq]; omega
  have hs2 : (2 : Nat) ≤ sizeLine := by rw [sizeLine_eq]; omega
  have hs5 : (5 : Nat) ≤ sizeLine := by rw [sizeLine_eq]; omega
  have hs6 : (6 : Nat) ≤ sizeLine := by rw [sizeLine_eq]; omega
  obtain ⟨i, S1, e1, B1, h1, h1'⟩ := B.draw (m := 4) (by omega) (by decide)
  by_cases c1 : i < 2
  · refine ⟨.tup [d], 40 :: (w ++ [41]), some (.int i), S1, ?_, B1.mono (by omega), .tup (by simp) V .nil, by simp⟩
    unfold pB mTup
    simp [e1, c1, hs1]
  by_cases c2 : i = 2
  · obtain ⟨p, S2, e2, B2, hp⟩ := B1.pick (ds := [.str "", .str "a", .int 0, .non, .bl true, .tup []]) (by omega) (by simp) (by simp) (by simp [noRef])
    obtain ⟨v, U, hv⟩ := small_val (.inl hp)
    refine ⟨.tup [p, d], _, some (.int i), S2, ?_, B2, two_of (val_le U hk) V, by simp; omega⟩
    unfold pB mTup mVal lDisp
    simp [e1, c1, c2, hs2, hs6, e2]
  · obtain ⟨p, S2, e2, B2, hp⟩ := B1.pick (ds := [.int 7, .str "no1", .bl false, .str "", .int (-1)]) (by omega) (by simp) (by simp) (by simp [noRef])
    obtain ⟨v, U, hv⟩ := small_val (.inr hp)
    refine ⟨.tup [d, p], _, some (.int i), S2, ?_, B2, two_of V (val_le U hk), by simp; omega⟩
    unfold pB mTup mVal lDisp
    simp [e1, c1, c2, hs2, hs5, e2]
end
theorem g_wrapped {S : Sto} {n t : Nat} {d : D} {w : List Nat} (B : BOk S n t) (ht : t < 2 ^ 40) (V : Val 3 d w) : ∃ (d' : D) (w' : List Nat) (S' : Sto), f_law_p10_wrapped [.ref n, d, .int 57] S = .ok d' S' ∧ Bg S n (t + 200) S' ∧ Val 60 d' w' ∧ w'.length ≤ w.length + 600 := by
  obtain ⟨m, S1, e1, B1, hm⟩ := pA_ok (d := d) (Bg.start B) (by omega)
  have hlen : (rangeD 0 m).length = m := by unfold rangeD; rw [List.length_map, List.length_range]
  obtain ⟨env', S2, e2, d2, w2, x2, y2, rfl, B2, V2, hw2⟩ := for_done (chk := fun _ => True) (b := pB) (i := 4) (ds := rangeD 0 m)
    (fun done env S' => ∃ d' w' x y, env = pE n d' m x y ∧ Bg S n (t + 3 + 2 * done.length) S' ∧ Val (3 + done.length) d' w' ∧ w'.length ≤ w.length + 10 * done.length) (fun _ _ _ _ => trivial) (fun done e rest env S' ed hI => by
      obtain ⟨d', w', x, y, rfl, B', V', hw'⟩ := hI
      have hd : done.length < 57 := by
        have := congrArg List.length ed
        rw [hlen] at this
        simp at this
        omega
      obtain ⟨d3, w3, y3, S3, e3, B3, V3, hw3⟩ := pB_ok (m := m) (x := some e) (y := y) B' (by omega) V' (by omega)
      refine ⟨_, S3, e3, d3, w3, _, _, rfl, ?_, ?_, ?_⟩
      · have e : (done ++ [e]).length = done.length + 1 := by simp
        rw [e]; exact B3.mono (by omega)
      · have e : (done ++ [e]).length = done.length + 1 := by simp
        rw [e]; exact V3
      · have e : (done ++ [e]).length = done.length + 1 := by simp
        rw [e]; omega) (pE n d m none none) S1 ⟨d, w, none, none, rfl, B1, V, by simp⟩
  rw [hlen] at B2 V2 hw2
  refine ⟨d2, w2, S2, ?_, B2.mono (by omega), val_le V2 (by omega), by omega⟩
  have : b_law_p10_wrapped (startE 6 [.ref n, d, .int 57]) S = .rt d2 S2 := by
    rw [wrap_eq]
    show sCons pA _ [some (.ref n), some d, some (.int 57), none, none, none] S = _
    rw [sCons_, e1, seq_nx, sCons_]
    unfold sFor
    rw [iRng1_ok _ _ S1 S1 m (by simp) (by omega), toOut_ok]
    dsimp only
    rw [e2, seq_nx]
    simp
  unfold f_law_p10_wrapped mFun
  rw [this, endR_rt]
  exact B2.gc (val_nr V2 0).2
end ZP

set_option Elab.async false
set_option linter.all false
set_option maxRecDepth 100000
set_option maxHeartbeats 4000000
/-! k74 in plain Lean: the law. -/
namespace ZP
open PySem PySem.Spec PyProof.Rows L2 Z ZT TL PySem.NumText PySem.W
/-- a value of the law -/
structure Good (d : D) : Prop where
  v : ∃ w, Val 60 d w ∧ w.length ≤ 16777000
theorem Good.len {d : D} (G : Good d) : (tx d).length ≤ 16777000 := by
  obtain ⟨w, V, h⟩ := G.v
  rw [← val_tx V]; exact h
theorem Good.nr {d : D} (G : Good d) : noRef d = true := by
  obtain ⟨w, V, h⟩ := G.v
  exact (val_nr V 0).2
theorem Good.text {d : D} (G : Good d) (S : Sto) : f_law_p10_text 64 [d] S = .ok (.str (SX.S (tx d))) S := by
  obtain ⟨w, V, h⟩ := G.v
  exact tx_val 63 60 d w V (by omega) h S
theorem Good.write {d : D} (G : Good d) (S : Sto) : f_write_plain 64 [d] S = .ok (.str (SX.S (tx d))) S := by
  obtain ⟨w, V, h⟩ := G.v
  exact wr_val 63 60 d w V (by omega) h S
theorem Good.same {d : D} (G : Good d) (S : Sto) : f_law_p10_same 64 [d, d] S = .ok (.bl true) S := by
  obtain ⟨w, V, h⟩ := G.v
  exact sm_val 63 60 d w V (by omega) S
theorem Good.read {d : D} (G : Good d) (S : Sto) : f_read_plain [.str (SX.S (tx d))] S = .ok d S := by
  obtain ⟨w, V, h⟩ := G.v
  have e := val_tx V
  refine read_plain V (by omega) (z := SX.S (tx d)) e.symm ?_ S
  rw [SX.S_len, sizeLine_eq]
  have := G.len
  omega
noncomputable def lb : MS := sCons (sAsg (.nm 5) (mApp 1 (f_write_plain 64) (mCons (mIx (mVar 2) (mVar 4)) (mNil))))
  (sCons (sIf (tOr2 (tNot2 (asB (mCall isiD (mCons (mVar 5) (mCons (mCon (.ty .str)) (mNil)))))) (asB (mBin neD (mVar 5) (mIx (mVar 3) (mVar 4)))))
  (sRet (mCon (.bl false)))
  (sNil))
  (sCons (sAsg (.nm 6) (mApp 1 f_read_plain (mCons (mIx (mVar 3) (mVar 4)) (mNil))))
  (sIf (tOr2 (tNot2 (asB (mApp 2 (f_law_p10_same 64) (mCons (mVar 6) (mCons (mIx (mVar 2) (mVar 4)) (mNil)))))) (asB (mBin neD (mApp 1 (f_write_plain 64) (mCons (mVar 6) (mNil))) (mIx (mVar 3) (mVar 4)))))
  (sRet (mCon (.bl false)))
  (sNil))))
abbrev lE (s : D) (vs : List D) (x y z : Option D) : En := [some s, some (.ref 0), some (.lst vs), some (.lst (vs.map fun d => D.str (SX.S (tx d)))), x, y, z, none]
theorem lb_ok {s : D} {vs : List D} {k : Nat} {y z : Option D} {S : Sto} (hk : k < vs.length) (hG : ∀ d ∈ vs, Good d) : ∃ y' z', lb (lE s vs (some (.int (k : Int))) y z) S = .nx (lE s vs (some (.int (k : Int))) y' z') S := by
  have hd := List.getElem?_eq_getElem hk
  have hm := hG _ (List.getElem_mem hk)
  generalize vs[k] = d at hd hm
  have h1 := ix_lst vs S k d hd
  have h2 : ixD (.lst (vs.map fun d => D.str (SX.S (tx d)))) (.int (k : Int)) S = .ok (.str (SX.S (tx d))) S := ix_lst _ S k _ (by rw [List.getElem?_map, hd]; rfl)
  have i1 : isiD [.str (SX.S (tx d)), .ty .str] S = .ok (.bl true) S := rfl
  have n1 : neD (.str (SX.S (tx d))) (.str (SX.S (tx d))) S = .ok (.bl false) S := by
    show Res.ok (D.bl (!decide (SX.S (tx d) = SX.S (tx d)))) S = _
    rw [decide_eq_true rfl]; rfl
  refine ⟨some (.str (SX.S (tx d))), some d, ?_⟩
  unfold lb lE
  simp only [sCons_, sIf_, tOr2_, tNot2_, asB_, mBin_, mApp_, mCall_, mCons_, mNil_, mIx_, varS, var0, mCon_, Res.bind_ok, List.length_cons, List.length_nil, Nat.zero_add, Nat.reduceAdd, if_true, sAsg_nm, toOut_ok, seq_nx, List.set_cons_succ, List.set_cons_zero, h1, h2, calm_ok, hm.write S, i1, n1, Bool.not_true, Bool.false_eq_true, if_false, sNil_, hm.read S, hm.same S]
noncomputable abbrev vM : ME := mApp 3 f_law_p10_wrapped (mCons (mVar 1) (mCons (mApp 2 (f_law_p10_value 4) (mCons (mVar 1) (mCons (mCon (.int 3)) (mNil)))) (mCons (mCon (.int 57)) (mNil))))
theorem vals_ok {s : D} {S : Sto} (B : BOk S 0 0) : ∃ (vs : List D) (S' : Sto), lComp (.nm 4) (iRng1m (mCon (.int 3))) (tYesM) vM [4] [some s, some (.ref 0), none, none, none, none, none, none] S = .ok vs S' ∧ vs.length = 3 ∧ ∀ d ∈ vs, Good d := by
  have hlen : (rangeD 0 3).length = 3 := by decide
  obtain ⟨xs, S', e, B', hG, hl⟩ := comp_done (chk := fun _ => True) (i := 4) (ds := rangeD 0 3) (me := vM) (env := [some s, some (.ref 0), none, none, none, none, none, none])
    (fun done xs S' => BOk S' 0 (done.length * 4000) ∧ (∀ d ∈ xs, Good d) ∧ xs.length = done.length) (fun _ _ _ _ => trivial)
    (fun done xs d rest S' ed hI => by
      obtain ⟨B', hG, hl⟩ := hI
      have hd : done.length < 3 := by
        have := congrArg List.length ed
        rw [hlen] at this
        simp at this
        omega
      have hc : cst 3 = 3555 := by decide
      have hlg : lng 3 = 624311 := by decide
      obtain ⟨d1, w1, S1, e1, B1, V1, hw1⟩ := g_value 3 (by omega) B' (by omega)
      obtain ⟨d2, w2, S2, e2, B2, V2, hw2⟩ := g_wrapped B1.ok (by omega) V1
      have e1' : f_law_p10_value 4 [.ref 0, .int 3] S' = .ok d1 S1 := e1
      refine ⟨d2, S2, ?_, ?_, ?_, by simp [hl]⟩
      · unfold vM
        simp only [List.set_cons_succ, List.set_cons_zero, mApp_, mCons_, mNil_, varS, var0, mCon_, Res.bind_ok, List.length_cons, List.length_nil, Nat.zero_add, Nat.reduceAdd, if_true, e1', e2]
      · refine B2.ok.mono ?_
        simp only [List.length_append, List.length_singleton]
        omega
      · intro y hy
        rcases List.mem_append.mp hy with hy | hy
        · exact hG y hy
        · rw [List.mem_singleton.mp hy]; exact ⟨w2, V2, by omega⟩) S ⟨B, (fun _ h => by cases h), rfl⟩
  rw [hlen] at hl
  refine ⟨xs, S', ?_, hl, hG⟩
  unfold lComp
  rw [iRng1_ok _ _ S S 3 rfl (by omega), Res.bind_ok]
  dsimp only
  rw [if_pos (rng_len (by omega))]
  exact e
theorem texts_ok {s : D} {S : Sto} {vs : List D} (hl : vs.length = 3) (hG : ∀ d ∈ vs, Good d) : lComp (.nm 7) (iSeq (mVar 2)) (tYesM) (mApp 1 (f_law_p10_text 64) (mCons (mVar 7) (mNil))) [7] [some s, some (.ref 0), some (.lst vs), none, none, none, none, none] S = .ok (vs.map fun d => D.str (SX.S (tx d))) S := by
  unfold lComp iSeq
  simp only [varS, var0, Res.bind_ok]
  have e : asQ S (.lst vs) = some vs := rfl
  rw [e]
  simp only [Res.bind_ok]
  rw [if_pos (by rw [hl, sizeLine_eq]; omega)]
  refine comp_map (chk := fun S => asQ S (.lst vs) = some vs) (fun d => D.str (SX.S (tx d))) rfl vs fun d hd => ?_
  have e : (wipeE [some s, some (.ref 0), some (.lst vs), none, none, none, none, none] [7]).set 7 (some d) = [some s, some (.ref 0), some (.lst vs), none, none, none, none, some d] := rfl
  rw [e]
  simp only [mApp_, mCons_, mNil_, varS, var0, Res.bind_ok, List.length_cons, List.length_nil, Nat.zero_add, if_true, (hG d hd).text S]
theorem turns_ok {s : D} {S : Sto} {vs : List D} (hl : vs.length = 3) (hG : ∀ d ∈ vs, Good d) : ∃ env', sFor (.nm 4) (iSeq (mVal (lDisp (mCons (mCon (.int 0)) (mCons (mCon (.int 1)) (mCons (mCon (.int 2)) (mCons (mCon (.int 0)) (mCons (mCon (.int 2)) (mCons (mCon (.int 1)) (mNil)))))))))) lb (lE s vs none none none) S = .nx env' S := by
  have h6 : (6 : Nat) ≤ sizeLine := by rw [sizeLine_eq]; omega
  obtain ⟨env', S', e, hS, _⟩ := for_done (chk := fun S' => asQ S' (.lst [.int 0, .int 1, .int 2, .int 0, .int 2, .int 1]) = some [.int 0, .int 1, .int 2, .int 0, .int 2, .int 1]) (b := lb) (i := 4) (ds := [.int 0, .int 1, .int 2, .int 0, .int 2, .int 1])
    (fun done env S' => S' = S ∧ ∃ x y z, env = lE s vs x y z) (fun _ _ _ _ => rfl) (fun done d rest env S' ed hI => by
      obtain ⟨rfl, x, y, z, rfl⟩ := hI
      obtain ⟨k, hk, rfl⟩ : ∃ k : Nat, k < 3 ∧ d = .int (k : Int) := by
        have hm : d ∈ ([.int 0, .int 1, .int 2, .int 0, .int 2, .int 1] : List D) := by rw [ed]; simp
        simp at hm
        rcases hm with h | h | h | h | h | h
        · exact ⟨0, by omega, h⟩
        · exact ⟨1, by omega, h⟩
        · exact ⟨2, by omega, h⟩
        · exact ⟨0, by omega, h⟩
        · exact ⟨2, by omega, h⟩
        · exact ⟨1, by omega, h⟩
      obtain ⟨y', z', e⟩ := lb_ok (s := s) (vs := vs) (k := k) (y := y) (z := z) (S := S') (by omega) hG
      exact ⟨_, S', e, rfl, _, _, _, rfl⟩) (lE s vs none none none) S ⟨rfl, _, _, _, rfl⟩
  subst hS
  refine ⟨env', ?_⟩
  unfold sFor iSeq mVal lDisp
  simp only [mCons_, mNil_, mCon_, Res.bind_ok, List.length_cons, List.length_nil, Nat.zero_add, Nat.reduceAdd, h6, if_true]
  exact e
noncomputable def L2 : MS := sAsg (.nm 2) (mVal (lComp (.nm 4) (iRng1m (mCon (.int 3))) (tYesM) vM [4]))
noncomputable def L3 : MS := sAsg (.nm 3) (mVal (lComp (.nm 7) (iSeq (mVar 2)) (tYesM) (mApp 1 (f_law_p10_text 64) (mCons (mVar 7) (mNil))) [7]))
noncomputable def L4 : MS := sFor (.nm 4) (iSeq (mVal (lDisp (mCons (mCon (.int 0)) (mCons (mCon (.int 1)) (mCons (mCon (.int 2)) (mCons (mCon (.int 0)) (mCons (mCon (.int 2)) (mCons (mCon (.int 1)) (mNil)))))))))) lb
theorem law_eq : b_law = sCons (sAsg (.nm 1) (mApp 1 f_law_bag (mCons (mVar 0) (mNil)))) (sCons L2 (sCons L3 (sCons L4 (sRet (mCon (.bl true)))))) := rfl
theorem law_ok (ns : List Int) (h : ns.length ≤ 63) : ∃ S', f_law [.scr (ns.map D.int)] [] = .ok (.bl true) S' := by
  obtain ⟨S1, e1, B1⟩ := f_bag h
  obtain ⟨vs, S2, e2, hl, hG⟩ := vals_ok (s := .scr (ns.map D.int)) B1
  have e3 := texts_ok (s := .scr (ns.map D.int)) (S := S2) hl hG
  obtain ⟨env', e4⟩ := turns_ok (s := .scr (ns.map D.int)) (S := S2) hl hG
  have e : b_law (startE 8 [.scr (ns.map D.int)]) [] = .rt (.bl true) S2 := by
    have e0 : startE 8 [.scr (ns.map D.int)] = [some (.scr (ns.map D.int)), none, none, none, none, none, none, none] := rfl
    have f1 : ZP.f_law_bag [.scr (ns.map D.int)] [] = .ok (.ref 0) S1 := e1
    have f2 : L2 [some (.scr (ns.map D.int)), some (.ref 0), none, none, none, none, none, none] S1 = .nx [some (.scr (ns.map D.int)), some (.ref 0), some (.lst vs), none, none, none, none, none] S2 := by
      unfold L2
      rw [sAsg_nm, mVal, e2, Res.bind_ok, toOut_ok]
      rfl
    have f3 : L3 [some (.scr (ns.map D.int)), some (.ref 0), some (.lst vs), none, none, none, none, none] S2 = .nx (lE (.scr (ns.map D.int)) vs none none none) S2 := by
      unfold L3
      rw [sAsg_nm, mVal, e3, Res.bind_ok, toOut_ok]
      rfl
    have f4 : L4 (lE (.scr (ns.map D.int)) vs none none none) S2 = .nx env' S2 := e4
    rw [e0, law_eq, sCons_]
    simp only [sAsg_nm, mApp_, mCons_, mNil_, varS, var0, Res.bind_ok, List.length_cons, List.length_nil, Nat.zero_add, if_true, f1, toOut_ok, seq_nx, List.set_cons_succ, List.set_cons_zero]
    rw [sCons_, f2, seq_nx, sCons_, f3, seq_nx, sCons_, f4, seq_nx, sRet_, mCon_, toOut_ok]
  unfold f_law mFun
  rw [e, endR_rt]
  exact ⟨_, rfl⟩
end ZP

set_option maxRecDepth 100000 in
set_option maxHeartbeats 8000000 in
theorem PySem.Challenge.cw_swornlots_k74_plain_texts_holds : PySem.Challenge.rw_swornlots_k74_plain_texts.Holds := by
  exact ZP.finL ZP.law_ok
