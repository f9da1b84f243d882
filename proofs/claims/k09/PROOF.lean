import PyProof.Rows.All
import Wide.All
import OpenK.AllK
import Wide.FinOn
import HandS.ForMost
import HandS.ForExc
import HandS.Wide
import HandS.IsInst
import HandS.Style
import HandS.Small
import HandS.More
import HandS.Text
import HandS.Dict
import HandS.Iter
import HandS.TupAny
import HandS.SortInts
import HandS.RaiseMore
import HandS.FStr
import HandS.SortKw
import HandS.Zip
import HandS.Defaults
import KE.KMinKey
import KE.GoesEnum
import KE.SortData
import KE.KeyNested
import PyProof.DictRoadsH
import HandS.Set
import HandS.TryOnly
import HandS.ExcIs
import HandS.SetFor
import HandS.Strs
import PySem.Challenge.RW_sumlaw_k09_pieces
set_option Elab.async false
set_option linter.all false
set_option maxRecDepth 100000
set_option maxHeartbeats 4000000
namespace DL
open PySem PySem.Spec L2

/-- data, without addresses -/
inductive D where
  | non | bl (b : Bool) | int (i : Int) | str (x : Str)
  | tup (ds : List D) | lst (ds : List D) | dct (lk : Bool) (kvs : List (Key × D))
  | ins (C : Str) (fs : List (Str × D))
  | exc (c : Str)
  | kl (ds : List D)
  | dtn (lk : Bool) (kvs : List (D × D))
  deriving Inhabited

def LIM : Nat := 16777216
theorem LIM_eq : LIM = sizeLine := by rw [sizeLine_eq]; rfl

/-- facts that every representation hangs on: the written part, where the classes stand -/
structure Gd where
  K : PySem.W.Frag
  mg : Str → Option Value
  w : World

def keyOf : D → Option Key
  | .int i => some (.inl i)
  | .str x => some (.inr x)
  | _ => none
def kD : Key → D
  | .inl i => .int i
  | .inr x => .str x
/-- a dict at a, locked or not -/
def DkAt (lk : Bool) (H : Hp) (a : Addr) (ws : List (Key × V)) : Prop := match lk with
  | true => ∃ o, H a = some (.frz o (.dK ws))
  | false => Rd H a (.dK ws)
theorem DkAt.rd {lk : Bool} {H : Hp} {a : Addr} {ws : List (Key × V)} (h : DkAt lk H a ws) : Rd H a (.dK ws) := by
  cases lk with
  | true => obtain ⟨o, h⟩ := h; exact .inr ⟨o, h⟩
  | false => exact h
theorem DkAt.to {lk : Bool} {H H' : Hp} {a : Addr} {ws : List (Key × V)} (e : ∀ o, H a = some o → H' a = some o) (h : DkAt lk H a ws) : DkAt lk H' a ws := by
  cases lk with
  | true => obtain ⟨o, h⟩ := h; exact ⟨o, e _ h⟩
  | false =>
    rcases h with h | ⟨o, h⟩
    · exact .inl (e _ h)
    · exact .inr ⟨o, e _ h⟩
theorem DkAt.there {lk : Bool} {H : Hp} {a : Addr} {ws : List (Key × V)} (h : DkAt lk H a ws) : ∃ o, H a = some o := by
  rcases h.rd with h | ⟨o, h⟩
  · exact ⟨_, h⟩
  · exact ⟨_, h⟩

/-- a written tuple -/
def KTup (K : PySem.W.Frag) (a : Addr) (xs : List V) : Prop :=
  ∃ (o : Obj) (its : Array Value) (n : Nat), K.lookup a = some o ∧ o.cls = .type "tuple" ∧ o.data = .seq its n ∧ its.size ≤ sizeLine ∧ Vals xs its.toList

/-- a written list -/
def KLst (K : PySem.W.Frag) (a : Addr) (xs : List V) : Prop :=
  ∃ (o : Obj) (its : Array Value) (n : Nat), K.lookup a = some o ∧ o.cls = .type "list" ∧ o.dict = none ∧ o.data = .seq its n ∧ its.size ≤ sizeLine ∧ Vals xs its.toList

/-! ### keys of nested tuples -/
mutual
def keyN : D → Option NestedKey
  | .int i => some (.num i)
  | .str x => some (.text x)
  | .tup ds => (keyNs ds).map .tup
  | _ => none
def keyNs : List D → Option (List NestedKey)
  | [] => some []
  | d :: ds => match keyN d, keyNs ds with
    | some k, some ks => some (k :: ks)
    | _, _ => none
end
abbrev NEnt := NestedKey × Addr × V
def KN : List NEnt → List (NestedKey × Addr × Value) → Prop := Paired fun p q => p.1 = q.1 ∧ p.2.1 = q.2.1 ∧ RelV p.2.2 q.2.2
/-- a dict with nested keys at a -/
def DN (w : World) (a : Addr) (xs : List NEnt) : HO := .ext fun h => ∃ o es ep us, h.get? a = some o ∧ o.ExactDict ∧ o.data = .dict es ep ∧ KN xs us ∧ es.toList = us.map (fun x : NestedKey × Addr × Value => ⟨x.1.hash w, .ref x.2.1, x.2.2⟩) ∧ (us.map (·.1)).Nodup ∧ (a == sysModules) = false
theorem dn_ok {P : Program} {w w' : World} {H : Hp} {h : Heap} {a : Addr} {xs : List NEnt} {us : List (NestedKey × Addr × Value)} {o : Obj} {es : Array DictEntry} {ep : Nat} (h1 : h.get? a = some o) (h2 : o.ExactDict) (h3 : o.data = .dict es ep) (h4 : KN xs us) (h5 : es.toList = us.map (fun x : NestedKey × Addr × Value => ⟨x.1.hash w', .ref x.2.1, x.2.2⟩)) (h6 : (us.map (·.1)).Nodup) (h7 : (a == sysModules) = false) : ObjOk P w H h a (DN w' a xs) :=
  ⟨⟨o, es, ep, us, h1, h2, h3, h4, h5, h6, h7⟩, ⟨o, h1⟩, fun _ _ ⟨o1, e1, p1, u1, g1, g2, g3, g4, g5, g6, g7⟩ k => ⟨o1, e1, p1, u1, k _ g1, g2, g3, g4, g5, g6, g7⟩⟩
def DnAt (w : World) (lk : Bool) (H : Hp) (a : Addr) (xs : List NEnt) : Prop := match lk with
  | true => ∃ o, H a = some (.frz o (DN w a xs))
  | false => Rd H a (DN w a xs)
theorem DnAt.rd {w : World} {lk : Bool} {H : Hp} {a : Addr} {xs : List NEnt} (h : DnAt w lk H a xs) : Rd H a (DN w a xs) := by
  cases lk with
  | true => obtain ⟨o, h⟩ := h; exact .inr ⟨o, h⟩
  | false => exact h
theorem DnAt.there {w : World} {lk : Bool} {H : Hp} {a : Addr} {xs : List NEnt} (h : DnAt w lk H a xs) : ∃ o, H a = some o := by
  rcases h.rd with h | ⟨o, h⟩
  · exact ⟨_, h⟩
  · exact ⟨_, h⟩
theorem DnAt.to {w : World} {lk : Bool} {H H' : Hp} {a : Addr} {xs : List NEnt} (h : DnAt w lk H a xs) (e : ∀ o, H a = some o → H' a = some o) : DnAt w lk H' a xs := by
  cases lk with
  | true => obtain ⟨o, h⟩ := h; exact ⟨o, e _ h⟩
  | false =>
    rcases h with h | ⟨o, h⟩
    · exact .inl (e _ h)
    · exact .inr ⟨o, e _ h⟩
/-- an exception's object that was caught -/
def ExK (cls : Value) (a : Addr) : HO := .ext fun h => ∃ oe vs, h.get? a = some oe ∧ Zc cls none oe ∧ oe.data = .fields vs
theorem exK_ok {P : Program} {w : World} {H : Hp} {h : Heap} {a : Addr} {cls : Value} {oe : Obj} {vs : Array Value} (e : h.get? a = some oe) (z : Zc cls none oe) (d : oe.data = .fields vs) : ObjOk P w H h a (ExK cls a) :=
  ⟨⟨oe, vs, e, z, d⟩, ⟨oe, e⟩, fun _ _ ⟨o1, v1, e1, z1, d1⟩ k => ⟨o1, v1, k _ e1, z1, d1⟩⟩
mutual
/-- v stands for d in H; the owned places O are not leaned on -/
def Rep (G : Gd) (O : Addr → Prop) (H : Hp) : D → V → Prop
  | .non, v => v = .non
  | .bl b, v => v = .bl b
  | .int i, v => v = .int i
  | .str x, v => v = .str x ∧ x.length ≤ sizeLine
  | .tup ds, v => ∃ a vs, v = .ref a ∧ ((H a = some (.tup vs) ∧ ¬ O a) ∨ KTup G.K a vs) ∧ ds.length ≤ sizeLine ∧ Reps G O H ds vs
  | .lst ds, v => ∃ a vs, v = .ref a ∧ (Rd H a (.lst vs) ∧ ¬ O a) ∧ ds.length ≤ sizeLine ∧ Reps G O H ds vs
  | .dct lk kvs, v => ∃ a ws, v = .ref a ∧ (DkAt lk H a ws ∧ ¬ O a) ∧ kvs.length ≤ sizeLine ∧ RepK G O H kvs ws ∧ ∀ kv ∈ kvs, ∀ x, kv.1 = Sum.inr x → x.length ≤ sizeLine
  | .ins C fs, v => ∃ a c dx ws, v = .ref a ∧ G.mg C = some (.ref c) ∧ (H a = some (.ins c dx ws) ∧ ¬ O a) ∧ RepF G O H fs ws
  | .exc c, v => ∃ a cl, v = .ref a ∧ G.mg c = some (.ref cl) ∧ H a = some (ExK (.ref cl) a) ∧ ¬ O a
  | .dtn lk kvs, v => ∃ a xs, v = .ref a ∧ (DnAt G.w lk H a xs ∧ ¬ O a) ∧ kvs.length ≤ sizeLine ∧ RepN G O H kvs xs
  | .kl ds, v => ∃ a vs, v = .ref a ∧ ((Rd H a (.lst vs) ∧ ¬ O a) ∨ KLst G.K a vs) ∧ ds.length ≤ sizeLine ∧ Reps G O H ds vs
def Reps (G : Gd) (O : Addr → Prop) (H : Hp) : List D → List V → Prop
  | [], vs => vs = []
  | d :: ds, vs => ∃ v r, vs = v :: r ∧ Rep G O H d v ∧ Reps G O H ds r
def RepK (G : Gd) (O : Addr → Prop) (H : Hp) : List (Key × D) → List (Key × V) → Prop
  | [], ws => ws = []
  | (k, d) :: r, ws => ∃ v s, ws = (k, v) :: s ∧ Rep G O H d v ∧ RepK G O H r s
def RepF (G : Gd) (O : Addr → Prop) (H : Hp) : List (Str × D) → List (Str × V) → Prop
  | [], ws => ws = []
  | (f, d) :: r, ws => ∃ v s, ws = (f, v) :: s ∧ Rep G O H d v ∧ RepF G O H r s
def RepN (G : Gd) (O : Addr → Prop) (H : Hp) : List (D × D) → List NEnt → Prop
  | [], ws => ws = []
  | (k, d) :: r, ws => ∃ n b v s, ws = (n, b, v) :: s ∧ keyN k = some n ∧ Rep G O H k (.ref b) ∧ Rep G O H d v ∧ RepN G O H r s
end

/-- all that was tracked and is not owned is as it was -/
def Ext (O : Addr → Prop) (H H' : Hp) : Prop := ∀ a o, H a = some o → ¬ O a → H' a = some o
theorem Ext.of {O : Addr → Prop} {H H' : Hp} (e : Same H H') : Ext O H H' := fun a o h _ => e a o h

mutual
theorem Rep.ext {G : Gd} {O O' : Addr → Prop} {H H' : Hp} (e : ∀ a o, H a = some o → ¬ O a → H' a = some o ∧ ¬ O' a) : ∀ (d : D) (v : V), Rep G O H d v → Rep G O' H' d v
  | .non, _, h => h
  | .bl _, _, h => h
  | .int _, _, h => h
  | .str _, _, h => h
  | .tup ds, v, h => by
    obtain ⟨a, vs, rfl, h1, h2, h3⟩ := h
    refine ⟨a, vs, rfl, ?_, h2, Reps.ext e ds vs h3⟩
    rcases h1 with ⟨h1, h4⟩ | h1
    · exact .inl (e a _ h1 h4)
    · exact .inr h1
  | .lst ds, v, h => by
    obtain ⟨a, vs, rfl, ⟨h1, h4⟩, h2, h3⟩ := h
    refine ⟨a, vs, rfl, ?_, h2, Reps.ext e ds vs h3⟩
    rcases h1 with h1 | ⟨o, h1⟩
    · exact ⟨.inl (e a _ h1 h4).1, (e a _ h1 h4).2⟩
    · exact ⟨.inr ⟨o, (e a _ h1 h4).1⟩, (e a _ h1 h4).2⟩
  | .dct lk kvs, v, h => by
    obtain ⟨a, ws, rfl, ⟨h1, h4⟩, h2, h3, h5⟩ := h
    obtain ⟨o, ho⟩ := h1.there
    exact ⟨a, ws, rfl, ⟨h1.to fun o x => (e a o x h4).1, (e a o ho h4).2⟩, h2, RepK.ext e kvs ws h3, h5⟩
  | .ins C fs, v, h => by
    obtain ⟨a, c, dx, ws, rfl, h0, ⟨h1, h4⟩, h3⟩ := h
    exact ⟨a, c, dx, ws, rfl, h0, e a _ h1 h4, RepF.ext e fs ws h3⟩
  | .exc _, _, h => by
    obtain ⟨a, cl, rfl, h0, h1, h4⟩ := h
    exact ⟨a, cl, rfl, h0, (e a _ h1 h4).1, (e a _ h1 h4).2⟩
  | .dtn lk kvs, v, h => by
    obtain ⟨a, xs, rfl, ⟨h1, h4⟩, h2, h3⟩ := h
    obtain ⟨o, ho⟩ := h1.there
    exact ⟨a, xs, rfl, ⟨h1.to fun o x => (e a o x h4).1, (e a o ho h4).2⟩, h2, RepN.ext e kvs xs h3⟩
  | .kl ds, v, h => by
    obtain ⟨a, vs, rfl, h1, h2, h3⟩ := h
    refine ⟨a, vs, rfl, ?_, h2, Reps.ext e ds vs h3⟩
    rcases h1 with ⟨h1, h4⟩ | h1
    · rcases h1 with h1 | ⟨o, h1⟩
      · exact .inl ⟨.inl (e a _ h1 h4).1, (e a _ h1 h4).2⟩
      · exact .inl ⟨.inr ⟨o, (e a _ h1 h4).1⟩, (e a _ h1 h4).2⟩
    · exact .inr h1
theorem Reps.ext {G : Gd} {O O' : Addr → Prop} {H H' : Hp} (e : ∀ a o, H a = some o → ¬ O a → H' a = some o ∧ ¬ O' a) : ∀ (ds : List D) (vs : List V), Reps G O H ds vs → Reps G O' H' ds vs
  | [], _, h => h
  | d :: ds, _, h => by
    obtain ⟨v, r, rfl, h1, h2⟩ := h
    exact ⟨v, r, rfl, Rep.ext e d v h1, Reps.ext e ds r h2⟩
theorem RepK.ext {G : Gd} {O O' : Addr → Prop} {H H' : Hp} (e : ∀ a o, H a = some o → ¬ O a → H' a = some o ∧ ¬ O' a) : ∀ (ds : List (Key × D)) (vs : List (Key × V)), RepK G O H ds vs → RepK G O' H' ds vs
  | [], _, h => h
  | (k, d) :: ds, _, h => by
    obtain ⟨v, r, rfl, h1, h2⟩ := h
    exact ⟨v, r, rfl, Rep.ext e d v h1, RepK.ext e ds r h2⟩
theorem RepF.ext {G : Gd} {O O' : Addr → Prop} {H H' : Hp} (e : ∀ a o, H a = some o → ¬ O a → H' a = some o ∧ ¬ O' a) : ∀ (ds : List (Str × D)) (vs : List (Str × V)), RepF G O H ds vs → RepF G O' H' ds vs
  | [], _, h => h
  | (k, d) :: ds, _, h => by
    obtain ⟨v, r, rfl, h1, h2⟩ := h
    exact ⟨v, r, rfl, Rep.ext e d v h1, RepF.ext e ds r h2⟩
theorem RepN.ext {G : Gd} {O O' : Addr → Prop} {H H' : Hp} (e : ∀ a o, H a = some o → ¬ O a → H' a = some o ∧ ¬ O' a) : ∀ (ds : List (D × D)) (vs : List NEnt), RepN G O H ds vs → RepN G O' H' ds vs
  | [], _, h => h
  | (k, d) :: ds, _, h => by
    obtain ⟨n, b, v, r, rfl, h0, h1, h2, h3⟩ := h
    exact ⟨n, b, v, r, rfl, h0, Rep.ext e k _ h1, Rep.ext e d v h2, RepN.ext e ds r h3⟩
end
section
variable {G : Gd} {O O' : Addr → Prop} {H H' : Hp} {d : D} {v : V} {ds es : List D} {vs ws : List V}
theorem Rep.same (e : Same H H') (h : Rep G O H d v) : Rep G O H' d v := Rep.ext (fun a o x n => ⟨e a o x, n⟩) d v h
theorem Reps.same (e : Same H H') (h : Reps G O H ds vs) : Reps G O H' ds vs := Reps.ext (fun a o x n => ⟨e a o x, n⟩) ds vs h
/-- fewer owned places -/
theorem Rep.less (e : ∀ a, O' a → O a) (h : Rep G O H d v) : Rep G O' H d v := Rep.ext (fun a o x n => ⟨x, fun z => n (e a z)⟩) d v h
theorem Reps.less (e : ∀ a, O' a → O a) (h : Reps G O H ds vs) : Reps G O' H ds vs := Reps.ext (fun a o x n => ⟨x, fun z => n (e a z)⟩) ds vs h
/-- one more owned place, that was free -/
def ins1 (O : Addr → Prop) (p : Addr) : Addr → Prop := fun a => O a ∨ a = p
theorem Rep.more {p : Addr} (hp : H p = none) (h : Rep G O H d v) : Rep G (ins1 O p) H d v := Rep.ext (fun a o x n => ⟨x, fun z => z.elim n fun e => by subst e; rw [hp] at x; cases x⟩) d v h
theorem Reps.more {p : Addr} (hp : H p = none) (h : Reps G O H ds vs) : Reps G (ins1 O p) H ds vs := Reps.ext (fun a o x n => ⟨x, fun z => z.elim n fun e => by subst e; rw [hp] at x; cases x⟩) ds vs h
theorem RepK.get {k : Key} : ∀ {kvs : List (Key × D)} {ws : List (Key × V)}, RepK G O H kvs ws → (L2.valV ws k = none ∧ kvs.find? (fun kv => decide (kv.1 = k)) = none) ∨ ∃ v d, L2.valV ws k = some v ∧ (kvs.find? fun kv => decide (kv.1 = k)) = some (k, d) ∧ Rep G O H d v
  | [], _, h => by cases h; exact .inl ⟨rfl, rfl⟩
  | (j, d) :: kvs, _, h => by
    obtain ⟨v, r, rfl, h1, h2⟩ := h
    by_cases e : j = k
    · subst e
      refine .inr ⟨v, d, ?_, ?_, h1⟩
      · simp [L2.valV]
      · simp
    · rcases RepK.get (k := k) h2 with ⟨a, b⟩ | ⟨v', d', a, b, c⟩
      · refine .inl ⟨?_, ?_⟩
        · rw [L2.valV_neg e]; exact a
        · rw [List.find?_cons_of_neg (by simpa using e)]; exact b
      · refine .inr ⟨v', d', ?_, ?_, c⟩
        · rw [L2.valV_neg e]; exact a
        · rw [List.find?_cons_of_neg (by simpa using e)]; exact b
def putKD (kvs : List (Key × D)) (k : Key) (d : D) : List (Key × D) :=
  if (kvs.any fun kv => decide (kv.1 = k)) = true then kvs.map (fun kv => if kv.1 = k then (kv.1, d) else kv) else kvs ++ [(k, d)]
theorem RepK.keys : ∀ {kvs : List (Key × D)} {ws : List (Key × V)}, RepK G O H kvs ws → ws.map (·.1) = kvs.map (·.1)
  | [], _, h => by cases h; rfl
  | (j, d) :: kvs, _, h => by
    obtain ⟨v, r, rfl, h1, h2⟩ := h
    rw [List.map_cons, List.map_cons, RepK.keys h2]
theorem RepK.length {kvs : List (Key × D)} {ws : List (Key × V)} (h : RepK G O H kvs ws) : ws.length = kvs.length := by
  have := congrArg List.length h.keys
  simpa using this
theorem any_key {β : Type} {k : Key} : ∀ (xs : List (Key × β)), xs.any (fun kv => decide (kv.1 = k)) = (xs.map (·.1)).any (fun j => decide (j = k))
  | [] => rfl
  | x :: xs => by rw [List.any_cons, List.map_cons, List.any_cons, any_key xs]
theorem RepK.map {k : Key} {d : D} {v : V} (hv : Rep G O H d v) : ∀ {kvs : List (Key × D)} {ws : List (Key × V)}, RepK G O H kvs ws → RepK G O H (kvs.map fun kv => if kv.1 = k then (kv.1, d) else kv) (ws.map fun kv => if kv.1 = k then (kv.1, v) else kv)
  | [], _, h => by cases h; rfl
  | (j, e) :: kvs, _, h => by
    obtain ⟨w, r, rfl, h1, h2⟩ := h
    rw [List.map_cons, List.map_cons]
    by_cases z : j = k
    · rw [if_pos z, if_pos z]; exact ⟨v, _, rfl, hv, RepK.map hv h2⟩
    · rw [if_neg z, if_neg z]; exact ⟨w, _, rfl, h1, RepK.map hv h2⟩
theorem RepK.snoc {k : Key} {d : D} {v : V} (hv : Rep G O H d v) : ∀ {kvs : List (Key × D)} {ws : List (Key × V)}, RepK G O H kvs ws → RepK G O H (kvs ++ [(k, d)]) (ws ++ [(k, v)])
  | [], _, h => by cases h; exact ⟨v, [], rfl, hv, rfl⟩
  | (j, e) :: kvs, _, h => by
    obtain ⟨w, r, rfl, h1, h2⟩ := h
    exact ⟨w, _, rfl, h1, RepK.snoc hv h2⟩
theorem RepK.put {k : Key} {d : D} {v : V} {kvs : List (Key × D)} {ws : List (Key × V)} (h : RepK G O H kvs ws) (hv : Rep G O H d v) : RepK G O H (putKD kvs k d) (L2.putK ws k v) := by
  unfold putKD L2.putK
  rw [any_key kvs, any_key ws, h.keys]
  split
  · exact h.map hv
  · exact h.snoc hv
theorem putKD_length {kvs : List (Key × D)} {k : Key} {d : D} : (putKD kvs k d).length ≤ kvs.length + 1 := by
  unfold putKD
  split
  · rw [List.length_map]; omega
  · rw [List.length_append]; exact Nat.le_refl _
theorem Reps.length : ∀ {ds : List D} {vs : List V}, Reps G O H ds vs → vs.length = ds.length
  | [], _, h => by cases h; rfl
  | d :: ds, _, h => by
    obtain ⟨v, r, rfl, _, h2⟩ := h
    rw [List.length_cons, List.length_cons, Reps.length h2]
theorem Reps.append : ∀ {ds es : List D} {vs ws : List V}, Reps G O H ds vs → Reps G O H es ws → Reps G O H (ds ++ es) (vs ++ ws)
  | [], _, _, _, h, k => by cases h; exact k
  | d :: ds, _, _, _, h, k => by
    obtain ⟨v, r, rfl, h1, h2⟩ := h
    exact ⟨v, _, rfl, h1, Reps.append h2 k⟩
theorem Reps.get : ∀ {ds : List D} {vs : List V} {i : Nat} {v : V}, Reps G O H ds vs → vs[i]? = some v → ∃ d, ds[i]? = some d ∧ Rep G O H d v
  | [], _, i, v, h, e => by cases h; simp at e
  | d :: ds, _, 0, v, h, e => by
    obtain ⟨v', r, rfl, h1, h2⟩ := h
    simp at e; subst e
    exact ⟨d, rfl, h1⟩
  | d :: ds, _, i + 1, v, h, e => by
    obtain ⟨v', r, rfl, h1, h2⟩ := h
    obtain ⟨d', e', q⟩ := Reps.get (i := i) (v := v) h2 (by simpa using e)
    exact ⟨d', by simpa using e', q⟩
theorem Reps.get' : ∀ {ds : List D} {vs : List V} {i : Nat} {d : D}, Reps G O H ds vs → ds[i]? = some d → ∃ v, vs[i]? = some v ∧ Rep G O H d v
  | [], _, i, v, h, e => by simp at e
  | d :: ds, _, 0, v, h, e => by
    obtain ⟨v', r, rfl, h1, h2⟩ := h
    simp at e; subst e
    exact ⟨v', rfl, h1⟩
  | d :: ds, _, i + 1, v, h, e => by
    obtain ⟨v', r, rfl, h1, h2⟩ := h
    obtain ⟨d', e', q⟩ := Reps.get' (i := i) (d := v) h2 (by simpa using e)
    exact ⟨d', by simpa using e', q⟩
theorem Reps.take : ∀ {ds : List D} {vs : List V} (n : Nat), Reps G O H ds vs → Reps G O H (ds.take n) (vs.take n)
  | _, _, 0, _ => rfl
  | [], _, n + 1, h => by cases h; rfl
  | d :: ds, _, n + 1, h => by
    obtain ⟨v, r, rfl, h1, h2⟩ := h
    exact ⟨v, _, rfl, h1, Reps.take n h2⟩
theorem Reps.drop : ∀ {ds : List D} {vs : List V} (n : Nat), Reps G O H ds vs → Reps G O H (ds.drop n) (vs.drop n)
  | _, _, 0, h => h
  | [], _, n + 1, h => by cases h; rfl
  | d :: ds, _, n + 1, h => by
    obtain ⟨v, r, rfl, h1, h2⟩ := h
    exact Reps.drop n h2
theorem Reps.set : ∀ {ds : List D} {vs : List V} (n : Nat), Reps G O H ds vs → Rep G O H d v → Reps G O H (ds.set n d) (vs.set n v)
  | [], _, n, h, _ => by cases h; rfl
  | d' :: ds, _, 0, h, k => by
    obtain ⟨v, r, rfl, h1, h2⟩ := h
    exact ⟨_, _, rfl, k, h2⟩
  | d' :: ds, _, n + 1, h, k => by
    obtain ⟨v, r, rfl, h1, h2⟩ := h
    exact ⟨v, _, rfl, h1, Reps.set n h2 k⟩
end
end DL
namespace DL
open PySem PySem.Spec L2 PyProof.Rows
/-! ### max with a default -/
section
variable {prog : Program} {w : World} {A : Around} {R : Result → Shared → Prop} {I : Addr} {fp wr : List Addr} {n : Nat} {P : Nat → Value → Prop} {St : Nat → Heap → Prop} {kw : List (Str × Value)}
theorem maxd_loop (W : Walks prog w A.in1 I fp wr n P St) (bt : Nat → Nat → Bool) (hcmp : CmpOf prog w A.in1 .Gt P bt) (S : Addr) (hSf : S ∉ fp) :
    ∀ (k j : Nat) (s : Shared) (vb : Value) (c : Nat), n - (j + 1) = k → j + 1 ≤ n → St (j + 1) s.heap → P (argBest bt j) vb →
    s.heap.get? S = some { cls := .type "list", dict := none, data := .seq #[vb, vb] c, slots := #[] } →
    (∀ v h' tk, P (argBest bt (n - 1)) v → (∀ b o, b ∉ wr → b ≠ S → s.heap.get? b = some o → h'.get? b = some o) → R (.ok (.ret v)) { s with heap := h', toks := tk }) →
    codeAny (model prog w) A (.builtin "max.loop" ⟨[.ref I, .none, .ref S], kw⟩) R s := by
  have hSw : S ∉ wr := fun h => hSf (W.sub _ h)
  have hname : (toString "max" ++ toString ".loop" : String) = "max.loop" := by decide
  intro k
  induction k with
  | zero =>
    intro j s vb c hk hj hst hPb hS hR
    have hin : j + 1 = n := by omega
    refine codeAny_builtin F.entry_max_loop ?_
    rw [Around.under_plainId F.plain_max_loop _]
    show wpAny _ A.in1 (seqItems? (.ref S) >>= _) _ _ s
    refine wpAny_bind (wpAny_seqItems hS rfl ?_)
    show wpAny _ A.in1 (tryCatch (pyNext (.ref I)) _ >>= _) _ _ s
    refine wpAny_bind (wpAny_tryCatch (W.done s _ _ (hin ▸ hst) fun h' tk hk' => ?_))
    have hS' := hk' S _ hSw hS
    show wpAny _ A.in1 (updateSeq S (fun _ => #[]) >>= _) _ _ _
    refine wpAny_bind ?_
    refine wpAny_updateSeq hS' rfl (wpAny_bind (wpAny_letGo (wpAny_pure ?_)))
    refine hR vb _ tk (by rw [← hin]; exact hPb) fun b o hbw hbS e => (Heap.get?_update_other _ _ (Ne.symm hbS)).trans (hk' b o hbw e)
  | succ k ih =>
    intro j s vb c hk hj hst hPb hS hR
    have hlt : j + 1 < n := by omega
    refine codeAny_builtin F.entry_max_loop ?_
    rw [Around.under_plainId F.plain_max_loop _]
    show wpAny _ A.in1 (seqItems? (.ref S) >>= _) _ _ s
    refine wpAny_bind (wpAny_seqItems hS rfl ?_)
    show wpAny _ A.in1 (tryCatch (pyNext (.ref I)) _ >>= _) _ _ s
    refine wpAny_bind (wpAny_tryCatch (W.item (j + 1) s _ _ hlt hst fun v h' tk hP hst' hk' => ?_))
    have hS' := hk' S _ hSw hS
    show wpAny _ A.in1 (tryCatch (holding [v, v] (richCompare .Gt v vb >>= _)) _ >>= _) _ _ _
    refine wpAny_bind (wpAny_tryCatch (wpAny_holding (wpAny_bind (hcmp (j + 1) (argBest bt j) v vb _ _ _ hP hPb ?_))))
    refine wpAny_bind (wpAny_holding (wpAny_truthy_bool ?_))
    refine wpAny_bind (wpAny_letGo (wpAny_pure ?_))
    cases hb : bt (j + 1) (argBest bt j) with
    | true =>
      simp only [if_true]
      refine wpAny_bind ?_
      refine wpAny_updateSeq hS' rfl (wpAny_bind (wpAny_letGo ?_))
      rw [hname]
      refine wpAny_pure ⟨plainId_quiet F.plain_max_loop _, ih (j + 1) _ v _ (by omega) hlt (W.frame _ _ _ hst' fun b hbf o e => ?_) (by simp only [argBest, hb, if_true]; exact hP) (Heap.get?_update_self _ hS' rfl)
        fun v' h'' tk'' hP' hk'' => ?_⟩
      · exact (Heap.get?_update_other _ _ (fun h : S = b => hSf (by rw [h]; exact hbf))).trans e
      · exact hR v' h'' tk'' hP' fun b o hbw hbS e => hk'' b o hbw hbS ((Heap.get?_update_other _ _ (Ne.symm hbS)).trans (hk' b o hbw e))
    | false =>
      simp only [Bool.false_eq_true, if_false]
      refine wpAny_bind (wpAny_letGo ?_)
      rw [hname]
      refine wpAny_pure ⟨plainId_quiet F.plain_max_loop _, ih (j + 1) _ vb c (by omega) hlt hst' (by simp only [argBest, hb, Bool.false_eq_true, if_false]; exact hPb) hS' fun v' h'' tk'' hP' hk'' => ?_⟩
      exact hR v' h'' tk'' hP' fun b o hbw hbS e => hk'' b o hbw hbS (hk' b o hbw e)
theorem maxd_first (W : Walks prog w A.in1 I fp wr n P St) (bt : Nat → Nat → Bool) (hcmp : CmpOf prog w A.in1 .Gt P bt) (S : Addr) (hSf : S ∉ fp) (hn : 0 < n) {s : Shared} {c : Nat} (hst : St 0 s.heap)
    (hS : s.heap.get? S = some { cls := .type "list", dict := none, data := .seq #[] c, slots := #[] })
    (hR : ∀ v h' tk, P (argBest bt (n - 1)) v → (∀ b o, b ∉ wr → b ≠ S → s.heap.get? b = some o → h'.get? b = some o) → R (.ok (.ret v)) { s with heap := h', toks := tk }) :
    codeAny (model prog w) A (.builtin "max.loop" ⟨[.ref I, .none, .ref S], kw⟩) R s := by
  have hSw : S ∉ wr := fun h => hSf (W.sub _ h)
  have hname : (toString "max" ++ toString ".loop" : String) = "max.loop" := by decide
  refine codeAny_builtin F.entry_max_loop ?_
  rw [Around.under_plainId F.plain_max_loop _]
  show wpAny _ A.in1 (seqItems? (.ref S) >>= _) _ _ s
  refine wpAny_bind (wpAny_seqItems hS rfl ?_)
  show wpAny _ A.in1 (tryCatch (pyNext (.ref I)) _ >>= _) _ _ s
  refine wpAny_bind (wpAny_tryCatch (W.item 0 s _ _ hn hst fun v h' tk hP hst' hk' => ?_))
  have hS' := hk' S _ hSw hS
  show wpAny _ A.in1 (updateSeq S (fun _ => #[v, v]) >>= _) _ _ _
  refine wpAny_bind ?_
  refine wpAny_updateSeq hS' rfl ?_
  rw [hname]
  refine wpAny_pure ⟨plainId_quiet F.plain_max_loop _, maxd_loop W bt hcmp S hSf _ 0 _ v _ rfl hn (W.frame _ _ _ hst' fun b hbf o e => ?_) hP (Heap.get?_update_self _ hS' rfl) fun v' h'' tk'' hP' hk'' => ?_⟩
  · exact (Heap.get?_update_other _ _ (fun h : S = b => hSf (by rw [h]; exact hbf))).trans e
  · exact hR v' h'' tk'' hP' fun b o hbw hbS e => hk'' b o hbw hbS ((Heap.get?_update_other _ _ (Ne.symm hbS)).trans (hk' b o hbw e))
theorem maxd_none (W : Walks prog w A.in1 I fp wr 0 P St) (S : Addr) (hSf : S ∉ fp) {d : Value} {s : Shared} {c : Nat} (hst : St 0 s.heap)
    (hS : s.heap.get? S = some { cls := .type "list", dict := none, data := .seq #[] c, slots := #[] })
    (hR : ∀ h' tk, (∀ b o, b ∉ wr → b ≠ S → s.heap.get? b = some o → h'.get? b = some o) → R (.ok (.ret d)) { s with heap := h', toks := tk }) :
    codeAny (model prog w) A (.builtin "max.loop" ⟨[.ref I, .none, .ref S], [("default", d)]⟩) R s := by
  refine codeAny_builtin F.entry_max_loop ?_
  rw [Around.under_plainId F.plain_max_loop _]
  show wpAny _ A.in1 (seqItems? (.ref S) >>= _) _ _ s
  refine wpAny_bind (wpAny_seqItems hS rfl ?_)
  show wpAny _ A.in1 (tryCatch (pyNext (.ref I)) _ >>= _) _ _ s
  refine wpAny_bind (wpAny_tryCatch (W.done s _ _ hst fun h' tk hk' => ?_))
  refine wpAny_bind (wpAny_rule (wpAny_pure ?_))
  exact hR h' tk fun b o hbw _ e => hk' b o hbw e
end
theorem args_maxd (a v : Value) : argsOk "max" ⟨[a], [(Str.ofString "default", v)]⟩ := by unfold argsOk; kernel_rfl
section
variable {prog : Program} {w : World} {A : Around} {E : Value → Shared → Prop} {s : Shared}
theorem maxd_walk {x d : Value} {Q : Value → Shared → Prop}
    (h : wpAny (model prog w) A.in1 (pyIter x) (fun it s₂ => ∃ I fp wr n P St bt, it = .ref I ∧ Walks prog w A.in1 I fp wr n P St ∧ St 0 s₂.heap ∧ (∀ b ∈ fp, b < s₂.heap.objs.size) ∧ CmpOf prog w A.in1 .Gt P bt ∧
      (0 < n → ∀ v h' tk, P (argBest bt (n - 1)) v → (∀ b o, b ∉ wr → s₂.heap.get? b = some o → h'.get? b = some o) → Q v { s₂ with heap := h', toks := tk }) ∧
      (n = 0 → ∀ h' tk, (∀ b o, b ∉ wr → s₂.heap.get? b = some o → h'.get? b = some o) → Q d { s₂ with heap := h', toks := tk })) E s) :
    wpAny (model prog w) A (call (.builtin "max") [x] [(Str.ofString "default", d)]) Q E s := by
  have hname : (toString "max" ++ toString ".loop" : String) = "max.loop" := by decide
  refine PyProof.Rows.kmk_tree F.kind_max F.plain_max F.entry_max (args_maxd _ _) ?_
  show wpAny _ A.in1 (Builtin.Builtins.bindParams "max" ["key", "default"] 0 ⟨[], [(Str.ofString "default", d)]⟩ >>= _) _ _ s
  refine wpAny_bind (wpAny_of_eq (show Builtin.Builtins.bindParams "max" ["key", "default"] 0 ⟨[], [(Str.ofString "default", d)]⟩ = pure [none, some d] from rfl) ?_)
  refine wpAny_bind (wpAny_pure ?_)
  refine wpAny_bind (wpAny_mono h (fun it s₂ h₂ => ?_) fun _ _ e => e)
  obtain ⟨I, fp, wr, n, P, St, bt, rfl, W, hst, hfp, hcmp, hQ, hQ0⟩ := h₂
  refine wpAny_bind (wpAny_newObj_type ?_)
  have hSf : s₂.heap.objs.size ∉ fp := fun hm => Nat.lt_irrefl _ (hfp _ hm)
  rw [hname]
  cases n with
  | zero =>
    refine wpAny_pure ⟨plainId_quiet F.plain_max_loop _, maxd_none W s₂.heap.objs.size hSf (W.frame _ _ _ hst fun b _ o e => Heap.get?_push_of_some _ e) (Heap.get?_push_size _ rfl) fun h' tk hk => ?_⟩
    exact hQ0 rfl h' tk fun b o hbw e => hk b o hbw (Nat.ne_of_lt (Heap.lt_size e)) (Heap.get?_push_of_some _ e)
  | succ n =>
    refine wpAny_pure ⟨plainId_quiet F.plain_max_loop _, maxd_first W bt hcmp s₂.heap.objs.size hSf (Nat.succ_pos _) (W.frame _ _ _ hst fun b _ o e => Heap.get?_push_of_some _ e) (Heap.get?_push_size _ rfl) fun v h' tk hP hk => ?_⟩
    exact hQ (Nat.succ_pos _) v h' tk hP fun b o hbw e => hk b o hbw (Nat.ne_of_lt (Heap.lt_size e)) (Heap.get?_push_of_some _ e)
theorem maxd_raw {l : Addr} {its : List Value} {ns : List Int} {d : Value} {Q : Value → Shared → Prop} (hh : A.handled = none) (hl : s.heap.IsList l its.toArray) (hi : IntsAre its ns)
    (h0 : ns = [] → ∀ h' tk, (∀ b o, s.heap.get? b = some o → h'.get? b = some o) → Q d { s with heap := h', toks := tk })
    (h : ∀ h' tk M t', (∀ b o, s.heap.get? b = some o → h'.get? b = some o) → M ∈ ns → (∀ a, a ∈ ns → a ≤ M) → Q (.int M t') { s with heap := h', toks := tk }) : wpAny (model prog w) A (call (.builtin "max") [.ref l] [(Str.ofString "default", d)]) Q E s := by
  obtain ⟨xs, e⟩ := hi.allInts.items
  have hn : numsOf (intItems xs).toList = ns := by rw [← e]; exact hi.numsOf
  rw [nums_intItems] at hn
  subst hn
  rw [e] at hl
  refine maxd_walk (iter_intList hl fun s₂ e st hfp hlI => ?_)
  subst e
  refine ⟨_, _, _, _, _, _, _, rfl, Walks.list (A := A.in1) hh _ l hlI (intItems xs), st, hfp, CmpOf.ints_gt (numAt xs) (fun _ _ => intItems_at), fun hz v h' tk hP hk => ?_, fun hz h' tk hk => ?_⟩
  · have hsz : 0 < xs.size := by simpa [intItems] using hz
    have hv : (intItems xs)[argBest (fun i j => decide (numAt xs i > numAt xs j)) (xs.size - 1)]? = some v := by simpa [intItems] using hP
    obtain ⟨t, rfl⟩ := intItems_at hv
    obtain ⟨h1, h2⟩ := argBest_gt (numAt xs) (xs.size - 1)
    refine h h' tk _ t (old_kept hk) ?_ fun a ha => ?_
    · rw [numAt_eq]; exact PySem.getD_mem (by rw [List.length_map, Array.length_toList]; omega)
    · obtain ⟨j, hj, rfl⟩ := mem_getD ha
      rw [List.length_map, Array.length_toList] at hj
      rw [← numAt_eq]; exact h2 j (by omega)
  · have hsz : xs.size = 0 := by simpa [intItems] using hz
    refine h0 ?_ h' tk (old_kept hk)
    have : xs.toList = [] := by
      apply List.eq_nil_of_length_eq_zero
      rw [Array.length_toList]; exact hsz
    rw [this]; rfl
end
/-- max(xs, default=k) of a list of ints -/
def rMaxDf (K : PySem.W.Frag) : List V → List V → Hp → VK → Prop := fun vs zs H Q => ∃ (a : Addr) (ns : List Int) (k : Int), vs = [V.ref a] ∧ zs = [.int k] ∧ SqL K H a (ns.map V.int) ∧ (ns = [] → Q (.int k) H) ∧ ∀ m, m ∈ ns → (∀ y, y ∈ ns → y ≤ m) → Q (.int m) H
theorem cr_maxDf {X : Cx} (hc : X.calm = true) : CallRK X (.builtin "max") [Str.ofString "default"] (rMaxDf X.K) := by
  intro pins s σ H vs zs us ws Q I r r2 h
  obtain ⟨a, ns, k, rfl, rfl, hs, q0, q⟩ := h
  obtain ⟨its, rv, hl, _⟩ := I.list hs
  rw [Vals.ref1 r]
  cases r2 with
  | cons rk rr =>
    cases rr
    obtain ⟨t, rfl⟩ := rk
    exact maxd_raw (I.ok.hd hc) hl.isList rv.ints (fun e h' tk hk => ⟨.int _, H, I.kept hk, ⟨_, rfl⟩, q0 e⟩) fun h' tk m t' hk h1 h2 => ⟨.int _, H, I.kept hk, ⟨_, rfl⟩, q m h1 h2⟩
section
open PyProof.Rows

theorem meets_enum1 {v : Value} {o : Obj} {H : Heap → Prop} (B : Begins v o H) :
    Meets (Builtin.«enumerate.__new__» ⟨[.type "enumerate", v], []⟩) (fun _ R s => H s.heap ∧
      R (.ok (.ret (.ref (s.heap.push o).objs.size))) { s with heap := (s.heap.push o).push { cls := .type "enumerate", data := .fields #[.none, .bool false, .ref s.heap.objs.size, rawInt 0, .none, .none] } }) :=
  .of_wp fun prog w A R s h => by
    obtain ⟨hp, g, d, tk, os⟩ := s; obtain ⟨h1, h⟩ := h
    have hsub := sub_enumerate
    have q1 : ∀ {A' : Around} {E : Value → Shared → Prop} {Q : Value → Shared → Prop}, Q (.ref hp.objs.size) ⟨hp.push o, g, d, tk, os⟩ → wpAny (model prog w) A' (pyIter v) Q E ⟨hp, g, d, tk, os⟩ :=
      fun q => B.iter prog w _ _ ⟨hp, g, d, tk, os⟩ _ h1 q
    wp_walk using q1
    refine wpAny_stack_any fun st => wpAny_pure ?_
    split
    · rename_i c _ _ _ _ _
      cases (c == Value.type "enumerate")
      · wp_walk using q1
        exact ⟨_, rfl, h⟩
      · wp_walk using q1
        exact ⟨_, rfl, h⟩
    · wp_walk using q1
      exact ⟨_, rfl, h⟩
section
variable {prog : Program} {w : World} {A : Around} {E : Value → Shared → Prop} {s : Shared}
theorem enum_begins1 {v : Value} {o : Obj} {H : Heap → Prop} {Q : Value → Shared → Prop} (B : Begins v o H) (h1 : H s.heap)
    (h : ∀ h', IsEnum h' (s.heap.objs.size + 1) s.heap.objs.size 0 .none → h'.get? s.heap.objs.size = some o → h'.objs.size = s.heap.objs.size + 2 →
      (∀ b o, s.heap.get? b = some o → h'.get? b = some o) → Q (.ref (s.heap.objs.size + 1)) { s with heap := h' }) :
    wpAny (model prog w) A (call (.type "enumerate") [v]) Q E s := by
  refine callType_new F.called_enumerate (by decide) (F.typeCall_enumerate_1 _) (F.newCall_enumerate_1 _) (fun obj => F.args_object_init_2 obj _) F.entry_enumerate_new
    (meets_enum1 B) ⟨h1, ?_⟩
  have hz : (s.heap.push o).objs.size = s.heap.objs.size + 1 := Heap.size_push ..
  show _ ∧ _
  rw [hz]
  have he : IsEnum ((s.heap.push o).push { cls := .type "enumerate", data := .fields #[.none, .bool false, .ref s.heap.objs.size, rawInt 0, .none, .none] }) (s.heap.objs.size + 1) s.heap.objs.size 0 .none := by
    have := Heap.get?_push_size (s.heap.push o) (o := { cls := .type "enumerate", data := .fields #[.none, .bool false, .ref s.heap.objs.size, rawInt 0, .none, .none] }) rfl
    rw [hz] at this; exact this
  refine ⟨⟨_, he, rfl⟩, h _ he (Heap.get?_push_of_some _ (Heap.get?_push_size _ B.free)) (by rw [Heap.size_push, hz]) fun b o x => Heap.get?_push_of_some _ (Heap.get?_push_of_some _ x)⟩
/-- the keys' iterator of a dict -/
theorem begins_keys {d : Addr} {o : Obj} {es : Array DictEntry} {ep : Nat} (hd : (d == sysModules) = false) (hc : o.ExactDict) (hdat : o.data = .dict es ep) :
    Begins (.ref d) { cls := .type "dict_keyiterator", data := .fields #[.ref d, .int 0 0, .int es.size 0, .int ep 0] } (fun h => h.get? d = some o) where
  keeps := fun h h' x hk => hk d o x
  free := rfl
  iter := fun prog w A E s Q h1 q => iter_keys hd h1 hc hdat q
theorem nextOf_key_item {it d : Addr} {i n ep : Nat} {od : Obj} {es : Array DictEntry} {en : DictEntry} {Q : Value → Shared → Prop} (hit : s.heap.IsKeyIter it d i n ep) (hod : s.heap.get? d = some od) (hdd : od.data = .dict es ep)
    (hsz : es.size = n) (hx : es[i]? = some en) (hQ : ∀ h', h'.IsKeyIter it d (i + 1) n ep → Heap.SameBut it s.heap h' → Q en.key { s with heap := h' }) : wpAny (model prog w) A (Builtin.SmallTypes.nextOf (.ref it)) Q E s := by
  obtain ⟨o, ho, hc, hd⟩ := id hit
  unfold Builtin.SmallTypes.nextOf
  refine wpAny_bind (wpAny_callSpecial?_slot (name := Str.ofString "__next__") hit.typeIs F.slot_dict_keyiterator_next
    (wpAny_call_entry F.slot_dict_keyiterator_next hit.typeIs F.entry_dict_keyiterator_next ?_ (F.args_dict_keyiterator_next_1 _)))
  refine wpAny_bind (wpAny_pure ?_)
  refine wpAny_bind ?_
  refine wpAny_bind ?_
  first | refine wpAny_bind (wpAny_typeNameOfWhole_keyiter hit.typeIs (wpAny_pure ?_)) | refine wpAny_bind (wpAny_typeNameOf_keyiter hit.typeIs (wpAny_pure ?_))
  refine wpAny_bind (wpAny_fieldsOf ho hd ?_)
  have hown : Builtin.Dict_items.ownsTuple "dict_keyiterator" = false := by decide
  simp only [hown, Bool.false_eq_true, if_false]
  show wpAny _ _ (if (Value.ref d == Value.none) = true then _ else _) _ _ s
  rw [if_neg (show ¬ ((Value.ref d == Value.none) = true) from Bool.false_ne_true)]
  refine wpAny_bind (wpAny_pure ?_)
  refine wpAny_bind (wpAny_dictEntries hod hdd ?_)
  rw [if_neg (by rw [hsz]; simp)]
  refine wpAny_bind (wpAny_pure ?_)
  refine wpAny_bind (wpAny_dictEpoch hod hdd ?_)
  rw [if_neg (by simp)]
  refine wpAny_pure ?_
  obtain ⟨hlt', hen⟩ := Array.getElem?_eq_some_iff.mp hx
  simp only [show ¬ ((i : Int) < 0) from by omega, if_false, Int.toNat_natCast, Array.getElem?_eq_getElem hlt']
  refine wpAny_bind ?_
  first | refine wpAny_bind (wpAny_typeNameOfWhole_keyiter hit.typeIs (wpAny_pure ?_)) | refine wpAny_bind (wpAny_typeNameOf_keyiter hit.typeIs (wpAny_pure ?_))
  refine wpAny_bind (wpAny_isOneOf_keyiter hit.typeIs ?_)
  show wpAny _ _ (setField (.ref it) 1 (rawInt ((i : Int) + 1)) >>= _) _ _ s
  refine wpAny_bind (wpAny_setField ho hd (by simp) ?_)
  have hit' : (s.heap.update it (Obj.mapFields (·.setIfInBounds 1 (rawInt ((i : Int) + 1))))).IsKeyIter it d (i + 1) n ep :=
    ⟨_, Heap.get?_update_self _ ho (Obj.isFreed_of_fields (Obj.data_mapFields hd _)), (Obj.cls_mapFields ..).trans hc, by rw [Obj.data_mapFields hd]; simp [rawInt]⟩
  refine wpAny_bind (wpAny_holding ?_)
  refine wpAny_bind (wpAny_isOneOf_keyiter (s := { s with heap := s.heap.update it (Obj.mapFields (·.setIfInBounds 1 (rawInt ((i : Int) + 1)))) }) hit'.typeIs ?_)
  show wpAny _ _ (pure es[i].key) _ _ _
  rw [hen]
  exact wpAny_pure (wpAny_pure ⟨_, rfl, wpAny_pure (hQ _ hit' (Heap.SameBut.update ..))⟩)
theorem nextOf_key_end {it d : Addr} {i n ep : Nat} {od : Obj} {es : Array DictEntry} {Q : Value → Shared → Prop} (hh : A.handled = none) (hit : s.heap.IsKeyIter it d i n ep) (hod : s.heap.get? d = some od) (hdd : od.data = .dict es ep)
    (hsz : es.size = n) (hge : n ≤ i) (hE : ∀ h' e, Heap.ExtBut it s.heap h' → (∃ o, h'.get? e = some o ∧ o.cls = .type "StopIteration") → E (.ref e) { s with heap := h' }) : wpAny (model prog w) A (Builtin.SmallTypes.nextOf (.ref it)) Q E s := by
  obtain ⟨o, ho, hc, hd⟩ := id hit
  unfold Builtin.SmallTypes.nextOf
  refine wpAny_bind (wpAny_callSpecial?_slot (name := Str.ofString "__next__") hit.typeIs F.slot_dict_keyiterator_next
    (wpAny_call_entry F.slot_dict_keyiterator_next hit.typeIs F.entry_dict_keyiterator_next ?_ (F.args_dict_keyiterator_next_1 _)))
  refine wpAny_bind (wpAny_pure ?_)
  refine wpAny_bind ?_
  refine wpAny_bind ?_
  first | refine wpAny_bind (wpAny_typeNameOfWhole_keyiter hit.typeIs (wpAny_pure ?_)) | refine wpAny_bind (wpAny_typeNameOf_keyiter hit.typeIs (wpAny_pure ?_))
  refine wpAny_bind (wpAny_fieldsOf ho hd ?_)
  have hown : Builtin.Dict_items.ownsTuple "dict_keyiterator" = false := by decide
  simp only [hown, Bool.false_eq_true, if_false]
  show wpAny _ _ (if (Value.ref d == Value.none) = true then _ else _) _ _ s
  rw [if_neg (show ¬ ((Value.ref d == Value.none) = true) from Bool.false_ne_true)]
  refine wpAny_bind (wpAny_pure ?_)
  refine wpAny_bind (wpAny_dictEntries hod hdd ?_)
  rw [if_neg (by rw [hsz]; simp)]
  refine wpAny_bind (wpAny_pure ?_)
  refine wpAny_bind (wpAny_dictEpoch hod hdd ?_)
  rw [if_neg (by simp)]
  refine wpAny_pure ?_
  have hge' : es.size ≤ i := by rw [hsz]; exact hge
  simp only [show ¬ ((i : Int) < 0) from by omega, if_false, Int.toNat_natCast, Array.getElem?_eq_none hge']
  refine wpAny_bind ?_
  first | refine wpAny_bind (wpAny_typeNameOfWhole_keyiter hit.typeIs (wpAny_pure ?_)) | refine wpAny_bind (wpAny_typeNameOf_keyiter hit.typeIs (wpAny_pure ?_))
  show wpAny _ _ (setField (.ref it) 0 .none >>= _) _ _ s
  refine wpAny_bind (wpAny_setField ho hd (by simp) ?_)
  show wpAny _ _ (newExc (.type "StopIteration") [] >>= _) _ _ _
  refine wpAny_bind ?_
  simp only [newExc, newTuple]
  refine wpAny_bind (wpAny_newObj_type ?_ (by size_fits))
  refine wpAny_bind (m := firstArgMember _ _) (wpAny_of_eq (a := Value.none) (by first | rfl | (simp only [firstArgMember]; rfl)) ?_)
  refine wpAny_newObj_type ?_ (by size_fits)
  simp only [raiseNew]
  refine wpAny_bind (wpAny_handled ?_)
  first | rw [show A.in1.handled = none from hh] | rw [hh]
  refine wpAny_bind (wpAny_pure (wpAny_throw ?_))
  exact hE _ _ (((Heap.SameBut.update ..).extBut.push _).push _) ⟨_, Heap.get?_push_size _ rfl, rfl⟩
end

theorem draws_keys {prog : Program} {w : World} {A : Around} (hh : A.handled = none) {it d : Addr} {n ep : Nat} {od : Obj} {es : Array DictEntry} (hne : d ≠ it) (hdd : od.data = .dict es ep) (hsz : es.size = n) :
    Draws prog w A it [it, d] n (fun i v => ∃ en, es[i]? = some en ∧ v = en.key) (fun i h => h.IsKeyIter it d i n ep ∧ h.get? d = some od) where
  live := fun _ _ st => let ⟨o, ho, _⟩ := st.1; ⟨o, ho⟩
  frame := fun _ _ _ st hk => ⟨st.1.at fun o e => hk it (by simp) o e, hk d (by simp) _ st.2⟩
  item := fun i s Q E hi st hQ => by
    obtain ⟨en, hen⟩ : ∃ en, es[i]? = some en := ⟨es[i]'(by rw [hsz]; exact hi), Array.getElem?_eq_getElem _⟩
    refine nextOf_key_item st.1 st.2 hdd hsz hen fun h' hit' hs' => ?_
    exact hQ _ h' s.toks ⟨en, hen, rfl⟩ ⟨hit', (hs'.2 d hne).trans st.2⟩ hs'
  done := fun s Q E st hE => nextOf_key_end hh st.1 st.2 hdd hsz (Nat.le_refl _) hE
theorem next_enumK_end {prog : Program} {w : World} {A : Around} {E : Value → Shared → Prop} {s : Shared} {e it d : Addr} {i n ep : Nat} {j : Int} {old : Value} {od : Obj} {es : Array DictEntry} {Q : Option Value → Shared → Prop} (hh : A.handled = none) (he : IsEnum s.heap e it j old) (hit : s.heap.IsKeyIter it d i n ep) (hod : s.heap.get? d = some od) (hdd : od.data = .dict es ep)
    (hsz : es.size = n) (hge : n ≤ i) (hQ : ∀ h', Heap.ExtBut it s.heap h' → Q none { s with heap := h' }) : wpAny (model prog w) A (pyNext (.ref e)) Q E s := by
  have hT : s.TypeIs (.ref e) "enumerate" := ⟨_, he, rfl⟩
  unfold pyNext
  refine wpAny_bind (wpAny_attempt (wpAny_callSpecial?_slot (name := Str.ofString "__next__") hT F.slot_enumerate_next
    (wpAny_call_entry F.slot_enumerate_next hT F.entry_enumerate_next ?_ (F.args_enumerate_next_1 _))))
  show wpAny _ _ (field (.ref e) 2 >>= _) _ _ _
  refine wpAny_bind (wpAny_field he rfl (x := .ref it) rfl ?_)
  refine wpAny_bind (nextOf_key_end (A := A.in1) hh hit hod hdd hsz hge fun h' x he' hx' => ?_)
  obtain ⟨o, ho, hc⟩ := hx'
  refine wpAny_bind (wpAny_isInstance (T := "StopIteration") (b := true) ⟨o, ho, hc⟩ isSubtype_stop ?_)
  exact wpAny_pure (hQ _ he')
/-- the keys of the locked dict at d, each in a new pair -/
def Itek (d : Addr) (o : Obj) (kvs : List (Key × V)) : It :=
  ⟨fun i H => H d = some (.frz o (.dK kvs)) ∧ i < kvs.length, fun i H v H' => ∃ T k x, v = .ref T ∧ H T = none ∧ H' = upd H T (.tup [.int (i : Nat), kV k]) ∧ kvs[i]? = some (k, x), fun i H => H d = some (.frz o (.dK kvs)) ∧ kvs.length ≤ i⟩
theorem turn_enumK {P : Program} {w : World} {K : PySem.W.Frag} {elts : List Expr} {kk : Nat} {tpos : Pos} {d : Addr} {o : Obj} {es : Array DictEntry} {ep : Nat} {kvs : List (Key × V)} (e it : Addr) (hod : o.data = .dict es ep) (hdn : d ≠ it ∧ d ≠ e) :
    Turn P w K (.Tuple elts kk tpos) (Itek d o kvs) [e, it] e (fun i h => (∃ old, IsEnum h e it ((i : Nat) : Int) old) ∧ h.IsKeyIter it d i kvs.length ep ∧ e ≠ it) where
  mem := by simp
  obj := fun i h st b hb => by
    obtain ⟨⟨old, he⟩, ⟨o, ho, hc, hd⟩, _⟩ := st
    have e' : b = e ∨ b = it := by simpa using hb
    rcases e' with z | z
    · rw [z]; exact ⟨_, he, fun v q => nomatch q⟩
    · rw [z]; exact ⟨o, ho, fun v q => by rw [hd] at q; cases q⟩
  keep := fun i h h' st k => let ⟨⟨old, he⟩, hi, hne⟩ := st; ⟨⟨old, k e (by simp) _ he⟩, hi.at fun o q => k it (by simp) o q, hne⟩
  item := by
    intro X hP hw hK hc i pins s σ H E I hf st hg
    subst hP hw hK
    obtain ⟨⟨old, he⟩, hit, hne⟩ := st
    obtain ⟨hd, hi⟩ := hg
    obtain ⟨hs, hgd, hx, es', ep', vs, hdt, hsz, kv, hm⟩ := I.frzK hd
    obtain ⟨rfl, rfl⟩ := dict_ep hod hdt
    obtain ⟨⟨k, v⟩, hkv⟩ : ∃ p, kvs[i]? = some p := ⟨kvs[i], List.getElem?_eq_getElem hi⟩
    obtain ⟨u, hu, ru⟩ := kv_get kv hkv
    have hel : e < s.heap.objs.size := Heap.lt_size he
    have hil : it < s.heap.objs.size := by obtain ⟨_, q, _⟩ := hit; exact Heap.lt_size q
    have D := draws_keys (prog := X.prog) (w := X.w) (A := X.A.in1) (I.ok.hd hc) hdn.1 hdt hsz
    refine wpAny_pyNext_enum_itemD D he ⟨hit, hgd⟩ hi hne (by simp; exact ⟨hne, hdn.2.symm⟩) fun x h' tk hPx ho hst' hT hsz' hk' => ?_
    obtain ⟨hit', hgd'⟩ := hst'
    obtain ⟨en, hen, rfl⟩ := hPx
    have hkey : keyIs k en.key = true := by
      obtain ⟨od, es2, hod2, hcd, hdd2, hk2, hp, hn⟩ := hm
      rw [hgd] at hod2
      cases hod2
      obtain ⟨rfl, _⟩ := dict_ep hdt hdd2
      exact (hp.get? (e := en) (by rw [Array.getElem?_toList]; exact hen) hu).1
    refine ⟨_, rfl, wpAny_letOwnedTupleGo_enum (s := { s with heap := h', toks := tk + 1 }) ho fun h'' he' sb => ?_⟩
    have hT2 : h''.get? s.heap.objs.size = some { cls := .type "tuple", data := .seq #[.int i tk, en.key] } := (sb.2 _ (Nat.ne_of_gt hel)).trans hT
    have new : ObjOk X.prog X.w (upd H s.heap.objs.size (.tup [.int (i : Nat), kV k])) h'' s.heap.objs.size (.tup [.int (i : Nat), kV k]) :=
      ⟨by show 2 ≤ sizeLine; decide, [.int i tk, en.key], .cons ⟨_, rfl⟩ (.cons (relV_key hkey) .nil), ⟨_, hT2, rfl, _, rfl⟩⟩
    have I1 : Inv X pins σ (upd H s.heap.objs.size (.tup [.int (i : Nat), kV k])) { s with heap := h'', toks := tk + 1 } :=
      I.turnedNew (ch := [e, it]) (fun b ob hb q => (sb.2 b (fun z => hb (by simp [z]))).trans (hk' b ob (fun z => hb (by simp [z])) (fun z => hb (by simp [z])) q)) hf (Nat.le_refl _) new
    refine ⟨.ref s.heap.objs.size, _, I1, rfl, ⟨_, k, v, rfl, I.hok.fresh (Nat.le_refl _), rfl, hkv⟩, ⟨⟨en.key, ?_⟩, hit'.at fun o q => (sb.2 it (Ne.symm hne)).trans q, hne⟩, fun b hb => ?_⟩
    · have e1 : ((i + 1 : Nat) : Int) = (i : Int) + 1 := by omega
      rw [e1]; exact he'
    · have hb' : b < s.heap.objs.size := by
        have e' : b = e ∨ b = it := by simpa using hb
        rcases e' with z | z
        · rw [z]; exact hel
        · rw [z]; exact hil
      rw [upd_ne (Nat.ne_of_lt hb')]
      exact (hf b hb).1
  done := by
    intro X hP hw hK hc i pins s σ H E I hf st hg
    subst hP hw hK
    obtain ⟨⟨old, he⟩, hit, hne⟩ := st
    obtain ⟨hd, hi⟩ := hg
    obtain ⟨hs, hgd, hx, es', ep', vs, hdt, hsz, kv, hm⟩ := I.frzK hd
    obtain ⟨rfl, rfl⟩ := dict_ep hod hdt
    obtain ⟨f0, f1, f2, f3, f4, f5⟩ := hf it (by simp)
    exact next_enumK_end (I.ok.hd hc) he hit hgd hdt hsz hi fun h' eb => ⟨rfl, I.turned (t' := s.toks) (fun b ob hb e => eb b ob hb e) f0 f1 f3 f4 f5⟩
  self := fun A i s Q E st h => let ⟨⟨_, he⟩, _⟩ := st; wpAny_pyIter_enum he h
/-- enumerate of a list, or of a locked dict -/
def iEnumA (K : PySem.W.Frag) (ta : TA) : TI := fun σ H R => ta σ H fun vs H1 => (∃ a xs, vs = [.ref a] ∧ SqL K H1 a xs ∧ R (Ite K a) H1) ∨ ∃ d o kvs, vs = [.ref d] ∧ H1 d = some (.frz o (.dK kvs)) ∧ R (Itek d o kvs) H1
theorem pi_enumA {X : Cx} {e : Expr} {ta : TA} {p pos tpos : Pos} {elts : List Expr} {kk : Nat} (hg : Gl X "enumerate") (hm : X.mg "enumerate" = none) (ha : PA X [e] ta) (hs : starEach [e] X.env = [(false, eval e X.env)] := by rfl) :
    PI X (.Tuple elts kk tpos) (.Call (.Name "enumerate" p) [e] [] pos) (iEnumA X.K ta) := by
  refine ⟨fun pins s σ H R I h => ?_⟩
  refine Call_ (ld_blt I hg hm boot_enumerate (PyProof.Rows.callWith_type1 (thn (ha.run pos pins s σ H _ I h) fun us s1 ⟨vs, H1, I1, r1, q1⟩ => ?_) hs rfl))
  rcases q1 with ⟨a, xs, ex, hq, q⟩ | ⟨d, o, kvs, ex, hd, q⟩
  · subst ex
    cases r1 with
    | cons r rr =>
      cases rr
      cases r
      obtain ⟨its, rv, p', hz⟩ := I1.list hq
      refine call_enumerate_list p'.isList fun h' he hit hsz hk => wpAny_pyIter_enum he ?_
      have I2 : Inv X pins σ H1 { s1 with heap := h' } := I1.kept (t' := s1.toks) hk
      refine ⟨s1.heap.objs.size + 1, [s1.heap.objs.size + 1, s1.heap.objs.size], _, _, H1, rfl, I2, turn_enum a (s1.heap.objs.size + 1) s1.heap.objs.size, ⟨⟨.none, he⟩, hit, Nat.succ_ne_self _⟩, fun b hb => ?_, q⟩
      have e' : b = s1.heap.objs.size + 1 ∨ b = s1.heap.objs.size := by simpa using hb
      have hle : s1.heap.objs.size ≤ b := by
        rcases e' with z | z
        · rw [z]; exact Nat.le_add_right _ _
        · rw [z]; exact Nat.le_refl _
      exact I1.fpOk hle (I1.hok.fresh hle)
  · subst ex
    cases r1 with
    | cons r rr =>
      cases rr
      cases r
      obtain ⟨hs', hgd, hx, es, ep, vs, hdt, hsz, kv, hmm⟩ := I1.frzK hd
      have hdl : d < s1.heap.objs.size := Heap.lt_size hgd
      refine enum_begins1 (begins_keys hs' hx hdt) hgd fun h' he hit hsz2 hk => wpAny_pyIter_enum he ?_
      have I2 : Inv X pins σ H1 { s1 with heap := h' } := I1.kept (t' := s1.toks) hk
      refine ⟨s1.heap.objs.size + 1, [s1.heap.objs.size + 1, s1.heap.objs.size], _, _, H1, rfl, I2, turn_enumK (s1.heap.objs.size + 1) s1.heap.objs.size hdt ⟨Nat.ne_of_lt hdl, Nat.ne_of_lt (Nat.lt_succ_of_lt hdl)⟩, ⟨⟨.none, he⟩, ⟨_, hit, rfl, by rw [hsz] <;> rfl⟩, Nat.succ_ne_self _⟩, fun b hb => ?_, q⟩
      have e' : b = s1.heap.objs.size + 1 ∨ b = s1.heap.objs.size := by simpa using hb
      have hle : s1.heap.objs.size ≤ b := by
        rcases e' with z | z
        · rw [z]; exact Nat.le_add_right _ _
        · rw [z]; exact Nat.le_refl _
      exact I1.fpOk hle (I1.hok.fresh hle)
end
end DL

namespace DL
open PySem PySem.Spec PyProof.Rows L2
/-! sets of texts -/
def nmE (e : Int × Value) : Str := match e.2 with
  | .str x _ => x
  | _ => Str.empty
section
variable {P : Program} {w : World}
def TxtE (P : Program) (w : World) (e : Int × Value) : Prop := ∃ x tk, e.2 = Value.str x tk ∧ e.1 = (PySem.strKind P w).hash x
/-- the set of texts at a, M its members -/
def TxtSet (P : Program) (w : World) (h : Heap) (a : Addr) (M : Str → Prop) : Prop :=
  ∃ o es ep t, h.get? a = some o ∧ o.ExactSet ∧ o.data = .set es ep t ∧ (∀ e ∈ es.toList, TxtE P w e) ∧ (es.toList.map nmE).Nodup ∧ (∀ k, M k ↔ k ∈ es.toList.map nmE) ∧
    es.size < scanBound ∧ t.fits es.size = true ∧ Ris t.place.toList ∧ (w.params.followText "set-order" = true ∨ t.led = true)
theorem TxtSet.at {h h' : Heap} {a : Addr} {M : Str → Prop} (R : TxtSet P w h a M) (k : ∀ o, h.get? a = some o → h'.get? a = some o) : TxtSet P w h' a M := by
  obtain ⟨o, es, ep, t, ho, r⟩ := R
  exact ⟨o, es, ep, t, k o ho, r⟩
theorem TxtSet.congr {h : Heap} {a : Addr} {M M' : Str → Prop} (R : TxtSet P w h a M) (e : ∀ k, M' k ↔ M k) : TxtSet P w h a M' := by
  have q : M' = M := funext fun k => propext (e k)
  rw [q]; exact R
theorem txt_is {e : Int × Value} (g : TxtE P w e) (k : Str) : (PySem.strKind P w).is k e.2 = true ↔ nmE e = k := by
  obtain ⟨k0, tk, h1, _⟩ := g
  unfold nmE
  rw [h1]
  constructor
  · intro z
    simpa [PySem.strKind, Value.isStrOf] using z
  · intro z
    have z : k0 = k := z
    subst z
    exact strKind_is P w k0 tk
theorem txt_elems {l : List (Int × Value)} (g : ∀ e ∈ l, TxtE P w e) : ElemsOf (PySem.strKind P w) l := fun e he => by
  obtain ⟨k, tk, h1, h2⟩ := g e he
  exact ⟨⟨k, by rw [h1]; exact strKind_is P w k tk, h2⟩, by rw [h1] <;> rfl⟩
theorem txt_mem {l : List (Int × Value)} (g : ∀ e ∈ l, TxtE P w e) (k : Str) : k ∈ l.map nmE ↔ ∃ e ∈ l, (PySem.strKind P w).is k e.2 = true := by
  rw [List.mem_map]
  constructor
  · rintro ⟨e, he, q⟩
    exact ⟨e, he, (txt_is (g e he) k).2 q⟩
  · rintro ⟨e, he, q⟩
    exact ⟨e, he, (txt_is (g e he) k).1 q⟩
end
section
variable {P : Program} {w : World} {A : Around} {E : Value → Shared → Prop} {s : Shared} {a : Addr} {M : Str → Prop}
/-- the new table is laid at a, and laid anew where it is too full -/
theorem tset_tail {g : Bool → Sem Unit} (hg : ∀ (b : Bool) (s₁ : Shared) (Q' : Unit → Shared → Prop), Q' () s₁ → wpAny (model P w) A (g b) Q' E s₁)
    {o : Obj} {es : Array (Int × Value)} {ep : Nat} {t : SetTable} (ho : s.heap.get? a = some o) (hex : o.ExactSet) (hd : o.data = .set es ep t)
    {es1 : Array (Int × Value)} {t2 : SetTable} {M' : Str → Prop} (g1 : ∀ e ∈ es1.toList, TxtE P w e) (nd1 : (es1.toList.map nmE).Nodup) (m1 : ∀ k, M' k ↔ k ∈ es1.toList.map nmE)
    (hb1 : es1.size < scanBound) (hf2 : t2.fits es1.size = true) (hr : Ris t2.place.toList) (hl : w.params.followText "set-order" = true ∨ t2.led = true) {wasDummy : Bool} {R : Option Bool → Shared → Prop}
    (hR : ∀ h', Heap.SameBut a s.heap h' → TxtSet P w h' a M' → R (some true) { s with heap := h' }) :
    wpAny (model P w) A (do
        storeSet a es1 t2
        if (!wasDummy && t2.tooFull) = true then do
            g (relayAll t2 es1 (SetTable.grown es1.size)).2.2
            storeSet a (relayAll t2 es1 (SetTable.grown es1.size)).1 (relayAll t2 es1 (SetTable.grown es1.size)).2.1
            pure (some true)
          else pure (some true)) R E s := by
  have ho1 := store_at (es' := es1) (t' := t2) ho hd
  have sb1 := Heap.SameBut.update s.heap a (Obj.putSet es1 t2)
  refine wpAny_bind (wpAny_storeSet_of ho hd ?_ (fits_of_scanBound hb1))
  split
  · have pm := relayAll_perm t2 es1 (SetTable.grown es1.size)
    have hf3 := relayAll_fits t2 es1 (SetTable.grown es1.size)
    have hr3 := relayAll_ris t2 es1 (SetTable.grown es1.size)
    have hl3 := relayAll_led t2 es1 (SetTable.grown es1.size)
    generalize relayAll t2 es1 (SetTable.grown es1.size) = Z at pm hf3 hr3 hl3 ⊢
    obtain ⟨es2, t3, gave⟩ := Z
    dsimp only at pm hf3 hr3 hl3 ⊢
    have hb2 : es2.size < scanBound := by rw [← Array.length_toList, pm.length_eq, Array.length_toList]; exact hb1
    have pk := pm.map nmE
    refine wpAny_bind (hg _ _ _ (wpAny_bind (wpAny_storeSet_of ho1 rfl ?_ (fits_of_scanBound hb2))))
    have ho2 := store_at (es' := es2) (t' := t3) ho1 rfl
    exact wpAny_pure (hR _ (sb1.trans (Heap.SameBut.update _ a _)) ⟨_, es2, _, t3, ho2, hex, rfl, fun e he => g1 e (pm.mem_iff.mp he), pk.nodup_iff.mpr nd1, fun k => (m1 k).trans pk.mem_iff.symm, hb2, hf3, hr3,
      hl.imp id fun z => by rw [hl3]; exact z⟩)
  · exact wpAny_pure (hR _ sb1 ⟨_, es1, _, t2, ho1, hex, rfl, g1, nd1, m1, hb1, hf2, hr, hl⟩)
theorem tset_add {k : Str} {tk : Tok} {Q : Bool → Shared → Prop} (R : TxtSet P w s.heap a M) (room : ∀ ks : List Str, ks.Nodup → (∀ j, M j ↔ j ∈ ks) → ks.length + 1 < scanBound)
    (hQ : ∀ h' b, Heap.SameBut a s.heap h' → TxtSet P w h' a (fun j => M j ∨ j = k) → Q b { s with heap := h' }) :
    wpAny (model P w) A (setAddHashed a (.str k tk) ((PySem.strKind P w).hash k)) Q E s := by
  obtain ⟨o, es, ep, t, ho, hex, hd, g, nd, hm, hb, hf, hr, hl⟩ := R
  have hkey : (PySem.strKind P w).is k (.str k tk) = true := strKind_is P w k tk
  have hsc : (Value.str k tk).scannable = true := rfl
  have hel : ElemsOf (PySem.strKind P w) es.toList := txt_elems g
  have rm := room _ nd hm
  rw [List.length_map, Array.length_toList] at rm
  unfold setAddHashed setAddHashedIn
  refine wpAny_holding (wpAny_bind (wpAny_setState_of ho hd hf ?_))
  dsimp only
  rw [byScan_of hsc hb hel]
  simp only [↓reduceIte]
  unfold setAddByScan
  refine wpAny_bind ?_
  refine wpAny_bind (wpAny_rule ?_)
  refine wpAny_bind (wpAny_setScan_of hkey ho hd hf hel ?_)
  cases hfi : List.findIdx? (fun e => (PySem.strKind P w).is k e.2) es.toList with
  | some j =>
    dsimp only
    obtain ⟨hj, pj, _⟩ := List.findIdx?_eq_some_iff_getElem.mp hfi
    have hSk : M k := (hm k).2 ((txt_mem (P := P) (w := w) g k).2 ⟨es.toList[j], List.getElem_mem hj, pj⟩)
    refine wpAny_pure (wpAny_pure ?_)
    exact hQ s.heap _ (Heap.SameBut.refl a s.heap) ⟨o, es, ep, t, ho, hex, hd, g, nd, fun i => by
      rw [← hm i]
      exact ⟨fun z => z.elim id (fun e => e ▸ hSk), .inl⟩, hb, hf, hr, hl⟩
  | none =>
    dsimp only
    have hnk : k ∉ es.toList.map nmE := fun z => by
      obtain ⟨e, he, q⟩ := (txt_mem (P := P) (w := w) g k).1 z
      have c := List.findIdx?_eq_none_iff.mp hfi e he
      rw [q] at c
      cases c
    have hgw : ∀ (b : Bool) {s₁ : Shared} {Q' : Unit → Shared → Prop}, Q' () s₁ → wpAny (model P w) A (match b with | true => rule "set.scan.the-table-gave-way" | false => pure ()) Q' E s₁ :=
      fun b s₁ Q' q => by cases b <;> first | exact wpAny_pure q | exact wpAny_rule q
    have pm := layNew_perm t es ((PySem.strKind P w).hash k) (.str k tk)
    have hf1 := layNew_fits t es ((PySem.strKind P w).hash k) (.str k tk)
    have hr1 := layNew_ris t es ((PySem.strKind P w).hash k) (.str k tk) hr
    have hl1 := layNew_led t es ((PySem.strKind P w).hash k) (.str k tk)
    generalize layNew t es ((PySem.strKind P w).hash k) (.str k tk) = Z at pm hf1 hr1 hl1 ⊢
    obtain ⟨es1, t1, wasDummy, gave⟩ := Z
    dsimp only at pm hf1 hr1 hl1 ⊢
    rw [Array.toList_push] at pm
    have pc : es1.toList.Perm (((PySem.strKind P w).hash k, Value.str k tk) :: es.toList) := pm.trans (List.perm_append_singleton _ _)
    have pk : (es1.toList.map nmE).Perm (k :: es.toList.map nmE) := pc.map nmE
    have g1 : ∀ e ∈ es1.toList, TxtE P w e := fun e he => by
      rcases List.mem_cons.mp (pc.mem_iff.mp he) with z | z
      · rw [z]; exact ⟨k, tk, rfl, rfl⟩
      · exact g e z
    have nd1 : (es1.toList.map nmE).Nodup := pk.nodup_iff.mpr (List.nodup_cons.mpr ⟨hnk, nd⟩)
    have m1 : ∀ i, (M i ∨ i = k) ↔ i ∈ es1.toList.map nmE := fun i => by
      rw [hm i, pk.mem_iff, List.mem_cons]
      exact Or.comm
    have hb1 : es1.size < scanBound := by
      rw [← Array.length_toList, pc.length_eq, List.length_cons, Array.length_toList]; exact rm
    have hled : w.params.followText "set-order" = true ∨ t1.led = true := hl.imp id fun z => by rw [hl1]; exact z
    refine wpAny_bind (hgw _ ?_)
    split
    · refine wpAny_bind ?_
      rw [hashByValue_scannable 8 hsc]
      refine wpAny_pure ?_
      refine tset_tail ?_ ho hex hd g1 nd1 m1 hb1 ?_ ?_ ?_ ?_
      · intro b s₁ Q' q; cases b <;> first | exact wpAny_pure q | exact wpAny_rule q
      · first | (split <;> first | exact hf1 | exact SetTable.fits_plain_off hf1) | exact hf1
      · first | (split <;> exact hr1) | exact hr1
      · first | (split <;> exact hled) | exact hled
      · intro h' sb r; dsimp only; exact wpAny_pure (hQ h' _ sb r)
    · refine wpAny_bind (wpAny_pure ?_)
      simp only [↓reduceIte]
      refine tset_tail ?_ ho hex hd g1 nd1 m1 hb1 hf1 hr1 hled ?_
      · intro b s₁ Q' q; cases b <;> first | exact wpAny_pure q | exact wpAny_rule q
      · intro h' sb r; dsimp only; exact wpAny_pure (hQ h' _ sb r)
theorem tset_new {h : Heap} {a : Addr} (ho : h.get? a = some { cls := .type "set", dict := none, data := .set #[] 0 (.fresh 0 0 (!w.params.followText "set-order")) }) : TxtSet P w h a (fun _ => False) :=
  ⟨_, #[], 0, _, ho, ⟨rfl, rfl, rfl⟩, rfl, (fun e he => by simp at he), (by simp), (fun k => by simp), (by decide), (by rfl), List.Pairwise.nil, by
    show _ ∨ (!w.params.followText "set-order") = true
    cases w.params.followText "set-order"
    · exact .inr rfl
    · exact .inl rfl⟩
theorem take_room {xs : List Str} (hb : xs.length + 1 < scanBound) (i : Nat) : ∀ ks : List Str, ks.Nodup → (∀ j, j ∈ xs.take i ↔ j ∈ ks) → ks.length + 1 < scanBound := fun ks nd h => by
  have h1 := List.Nodup.length_le_of_subset nd fun k hk => (h k).mpr hk
  have h2 : (xs.take i).length ≤ xs.length := by rw [List.length_take]; omega
  omega
/-- the loop of an update -/
theorem tset_loop {I : Addr} {fp wr : List Addr} {G : Array GenState → Array GenState → Prop} {n : Nat} {Pv : Nat → Value → Prop} {St : Nat → Shared → Prop} {R : Result → Shared → Prop}
    (W : WalksS P w A.in1 I fp wr G n Pv St) (S : Addr) (hSf : S ∉ fp) (xs : List Str) (hn : n = xs.length) (hb : xs.length + 1 < scanBound) (hval : ∀ i v, Pv i v → ∃ k t, xs[i]? = some k ∧ v = .str k t) :
    ∀ (k i : Nat) (s : Shared), n - i = k → i ≤ n → St i s → TxtSet P w s.heap S (· ∈ xs.take i) →
      (∀ s', Moved (S :: wr) G s s' → TxtSet P w s'.heap S (· ∈ xs) → R (.ok (.ret .none)) s') →
      codeAny (model P w) A (.builtin "set.update.loop" ⟨[.ref S, .ref I], []⟩) R s := by
  have hSw : S ∉ wr := fun h => hSf (W.sub _ h)
  have hsub : ∀ b ∈ wr, b ∈ S :: wr := fun b hb => List.mem_cons_of_mem _ hb
  intro k
  induction k with
  | zero =>
    intro i s hk' hi hst hS hR
    have hin : i = n := by omega
    subst hin
    refine codeAny_builtin F.entry_set_update_loop ?_
    rw [Around.under_plainId F.plain_set_update_loop _]
    show wpAny _ A.in1 (pyNext (.ref I) >>= _) _ _ s
    refine wpAny_bind (W.done s _ _ hst fun s' hm => ?_)
    show wpAny _ A.in1 (ret Value.none) _ _ s'
    rw [List.take_of_length_le (by omega)] at hS
    exact wpAny_pure (hR s' (hm.mono hsub) (hS.at fun o e => hm.heap S o hSw e))
  | succ k ih =>
    intro i s hk' hi hst hS hR
    have hlt : i < n := by omega
    refine codeAny_builtin F.entry_set_update_loop ?_
    rw [Around.under_plainId F.plain_set_update_loop _]
    show wpAny _ A.in1 (pyNext (.ref I) >>= _) _ _ s
    refine wpAny_bind (W.item i s _ _ hlt hst fun v s' hP hst' hm => ?_)
    obtain ⟨z, t, hz, rfl⟩ := hval i v hP
    have hS' : TxtSet P w s'.heap S (· ∈ xs.take i) := hS.at fun o e => hm.heap S o hSw e
    show wpAny _ A.in1 (holding [Value.str z t] (setAdd S (.str z t)) >>= _) _ _ s'
    refine wpAny_bind (wpAny_holding ?_)
    unfold setAdd
    refine wpAny_holding ?_
    refine wpAny_bind ((PySem.strKind P w).pyHash (k := z) (strKind_is _ _ _ _) ?_)
    refine tset_add (s := { s' with toks := s'.toks + 1 }) hS' (take_room hb i) fun h' b hsb hS2 => ?_
    have hS3 : TxtSet P w h' S (· ∈ xs.take (i + 1)) := hS2.congr fun j => by
      rw [List.take_add_one, hz]
      simp [List.mem_append]
    refine wpAny_pure ⟨plainId_quiet F.plain_set_update_loop _, ih (i + 1) _ (by omega) hlt (W.frame _ s' _ _ hst' (Nat.le_succ _) fun b hb o e => ?_) hS3 fun s'' hm'' hS'' => ?_⟩
    · rw [hsb.2 b (fun h : b = S => hSf (by rw [← h]; exact hb))]; exact e
    · refine hR s'' (Moved.trans W.gtrans ((hm.mono hsub).then_heap (Nat.le_succ _) fun b o hb e => ?_) hm'') hS''
      rw [hsb.2 b (fun h : b = S => hb (by rw [h]; exact List.mem_cons_self))]; exact e
/-- set(l), l a list of texts -/
theorem call_tset {l : Addr} {items : Array Value} (xs : List Str) {Q : Value → Shared → Prop} (hh : A.handled = none) (hl : s.heap.IsList l items) (hit : StrsAre items.toList xs) (hb : xs.length + 1 < scanBound)
    (h : ∀ (h' : Heap) (tk : Nat), TxtSet P w h' s.heap.objs.size (· ∈ xs) → (∀ b o, s.heap.get? b = some o → h'.get? b = some o) → Q (.ref s.heap.objs.size) { s with heap := h', toks := tk }) :
    wpAny (model P w) A (call (.type "set") [.ref l]) Q E s := by
  have hisz : items.size = xs.length := by rw [← StrsAre.len_eq hit, Array.length_toList]
  obtain ⟨c, tl, hmro⟩ := F.called_set.mro
  have hmade := F.called_set.made
  have hsub := F.called_set.sub
  refine wpAny_call (codeAny_of_tree ?_)
  show wpAny _ _ (callAny (.type "set") _) _ _ _
  refine wpAny_pure ⟨Code.quiet_builtin _ (by decide +kernel), codeAny_builtin F.entry_type_call ?_⟩
  rw [Around.under_plain (weight_type_call_type "set" [.ref l] []) rfl]
  have h1 := F.called_set.notType
  have h2 := F.called_set.canCreate
  have hct := F.typeCall_set_1 (.ref l)
  repeat (any_goals (first | assumption | wp_step))
  generalize hob : ({ cls := .type "set", dict := none, data := .set #[] 0 (.fresh 0 0 (!w.params.followText "set-order")) } : Obj) = ob
  have hobc : ob.cls = .type "set" := by rw [← hob]
  refine codeAny_mono (code_set_led1 (.ref l) (E := E) (Q₁ := fun obj s₁ => obj = .ref s.heap.objs.size ∧ s₁ = { s with heap := s.heap.push ob }) (by rw [← hob]; exact ⟨rfl, rfl⟩)) fun r s₁ hr => ?_
  cases r with
  | error e => exact hr
  | ok fl =>
    cases fl with
    | ret obj =>
      obtain ⟨rfl, rfl⟩ := hr
      have hS : (s.heap.push ob).get? s.heap.objs.size = some ob := Heap.get?_push_size _ (by rw [← hob]; rfl)
      have hT : Shared.TypeIs { s with heap := s.heap.push ob } (.ref s.heap.objs.size) "set" := ⟨_, hS, hobc⟩
      have hli := F.called_set.init.lookup
      have hbi := F.called_set.init.bind (.ref s.heap.objs.size)
      repeat (any_goals (first | assumption | wp_step))
      refine codeAny_mono (codeAny_call_builtin (R := wants (fun r s₂ => r = .none ∧ ∃ h' tk, s₂ = { s with heap := h', toks := tk } ∧ TxtSet P w h' s.heap.objs.size (· ∈ xs) ∧
          (∀ b o, s.heap.get? b = some o → h'.get? b = some o)) E) F.called_set.init.plain F.entry_set_init (check_set_init_1 hT ?_)) fun r₂ s₂ hr₂ => ?_
      · obtain ⟨ol, hol, hcl, nl, hdl⟩ := hl
        obtain ⟨ocls, odict, odata, oslots⟩ := ol
        simp only at hcl hdl
        subst hcl; subst hdl
        have hol' : (s.heap.push ob).get? l = some { cls := .type "list", dict := odict, data := .seq items nl, slots := oslots } := Heap.get?_push_of_some _ hol
        have hsls := F.sub_list_set
        have hslf := F.sub_list_frozenset
        have hne : (Value.type "list" == Value.type "dict") = false := by decide
        have hl1 : (s.heap.push ob).IsList l items := ⟨_, hol', rfl, nl, rfl⟩
        subst hob
        unfold Builtin.«set.__init__» noKeywords Builtin.Frozenset.updateFrom
        generalize hPI : pyIter = PI
        wp_walk
        subst hPI
        refine wpAny_pyIter_list hl1 ?_
        refine wpAny_bind (wpAny_runValue ?_)
        have hlS : l < s.heap.objs.size := Heap.lt_size hol
        have hh3 : A.in1.in1.in1.handled = none := by simp [hh]
        have hz1 : (s.heap.push { cls := .type "set", dict := none, data := .set #[] 0 (.fresh 0 0 (!w.params.followText "set-order")) }).objs.size = s.heap.objs.size + 1 := Heap.size_push ..
        have hneI : l ≠ (s.heap.push { cls := .type "set", dict := none, data := .set #[] 0 (.fresh 0 0 (!w.params.followText "set-order")) }).objs.size := by
          rw [hz1]; exact Nat.ne_of_lt (Nat.lt_succ_of_lt hlS)
        have hSf : s.heap.objs.size ∉ [(s.heap.push { cls := .type "set", dict := none, data := .set #[] 0 (.fresh 0 0 (!w.params.followText "set-order")) }).objs.size, l] := by
          rw [hz1]; simp only [List.mem_cons, List.mem_singleton, List.not_mem_nil, or_false, not_or]
          exact ⟨Nat.ne_of_lt (Nat.lt_succ_self _), Nat.ne_of_gt hlS⟩
        have hval : ∀ (i : Nat) (v : Value), items[i]? = some v → ∃ k t, xs[i]? = some k ∧ v = .str k t := fun i v hv => by
          have hi : i < xs.length := by rw [← hisz]; exact (Array.getElem?_eq_some_iff.mp hv).1
          obtain ⟨t, e⟩ := SS.strs_at hit i v (by rw [Array.getElem?_toList]; exact hv)
          refine ⟨xs[i], t, List.getElem?_eq_getElem hi, ?_⟩
          rw [e, List.getD_eq_getElem?_getD, List.getElem?_eq_getElem hi] <;> rfl
        refine tset_loop ((Walks.list hh3 _ l hneI items).toS) s.heap.objs.size
          hSf xs hisz hb hval (items.size - 0) 0 _ (by omega) (Nat.zero_le _)
          ⟨⟨_, Heap.get?_push_size _ rfl, rfl, rfl⟩, (hl1.push _)⟩ ?hS0 ?hR
        case hS0 =>
          exact (tset_new (Heap.get?_push_of_some _ hS)).congr fun k => by simp
        case hR =>
          intro s' hm hS'
          obtain ⟨h', g2, d', tk', os'⟩ := s'
          have eg : g2 = s.gens := hm.gens
          have ed : d' = s.drawn := hm.drawn
          have eo : os' = s.os := hm.os
          subst eg; subst ed; subst eo
          show wpAny _ _ _ _ _ _
          refine wpAny_pure ?_
          show wpAny _ _ (ret Value.none) _ _ _
          refine wpAny_pure ⟨rfl, h', tk', rfl, hS', fun b o e => ?_⟩
          have hb0 : b < s.heap.objs.size := Heap.lt_size e
          have hb1 : b ≠ s.heap.objs.size := Nat.ne_of_lt hb0
          have hb2 : b ≠ (s.heap.push { cls := .type "set", dict := none, data := .set #[] 0 (.fresh 0 0 (!w.params.followText "set-order")) }).objs.size := by
            rw [hz1]; exact Nat.ne_of_lt (Nat.lt_succ_of_lt hb0)
          exact hm.heap b o (by simp only [List.mem_cons, List.mem_singleton, List.not_mem_nil, or_false, not_or]; exact ⟨hb1, hb2⟩) (Heap.get?_push_of_some _ (Heap.get?_push_of_some _ e))
      · cases r₂ with
        | error e => exact hr₂
        | ok fl₂ =>
          cases fl₂ with
          | ret r =>
            obtain ⟨rfl, h', tk, rfl, hS', hk'⟩ := hr₂
            repeat (any_goals (first | assumption | wp_step))
            exact h _ _ hS' hk'
          | _ => exact hr₂.elim
    | _ => exact hr.elim
theorem strs_of_txt : ∀ (l : List Value), (∀ v ∈ l, ∃ k tk, v = Value.str k tk) → ∃ xs, StrsAre l xs ∧ xs = l.map fun v => nmE (0, v)
  | [], _ => ⟨[], .nil, rfl⟩
  | v :: l, h => by
    obtain ⟨k, tk, rfl⟩ := h v List.mem_cons_self
    obtain ⟨xs, h1, h2⟩ := strs_of_txt l fun u hu => h u (List.mem_cons_of_mem _ hu)
    exact ⟨k :: xs, .cons k tk h1, by rw [List.map_cons, ← h2]; rfl⟩
/-- sorted(a), a a set of texts -/
theorem sorted_tset {M : Str → Prop} {Q : Value → Shared → Prop} (R : TxtSet P w s.heap a M) (hh : A.handled = none)
    (hQ : ∀ s' p (out : Array Value) (c : Nat) (ks : List Str), (∀ b o, s.heap.get? b = some o → s'.heap.get? b = some o) → s'.gens = s.gens → s'.os = s.os → s.heap.objs.size ≤ p →
      s'.heap.get? p = some (seqObj "list" out c) → StrsAre out.toList ks → sortedS ks = true → ks.Nodup → (∀ k, k ∈ ks ↔ M k) → Q (.ref p) s') :
    wpAny (model P w) A (call (.builtin "sorted") [.ref a]) Q E s := by
  obtain ⟨o, es, ep, t, ho, hex, hd, g, nd, hm, hb, hf, hr, hl⟩ := R
  refine Calls.call_function_entry kind_sorted plain_sorted entry_sorted (args_sorted1 _) ?_
  unfold Builtin.«sorted»
  refine wpAny_bind (m := checkCount "sorted" 1 1 _) (wpAny_pure ?_)
  refine wpAny_bind (collect_set (A := A.in1) hh ⟨o, ho, hex.1, hd⟩ hf hb hr hl fun s1 vs k1 hz g1 o1 pm => ?_)
  have hvl : vs.length < scanBound := by rw [pm.length_eq, List.length_map, Array.length_toList]; exact hb
  have hvz : vs.length ≤ sizeLine := Nat.le_trans (Nat.le_of_lt hvl) (by rw [sizeLine_eq]; decide)
  obtain ⟨xs, hI, exs⟩ := strs_of_txt vs fun v hv => by
    obtain ⟨e, he, q⟩ := List.mem_map.mp (pm.mem_iff.mp hv)
    obtain ⟨k, tk, h1, _⟩ := g e he
    exact ⟨k, tk, by rw [← q]; exact h1⟩
  have pk : xs.Perm (es.toList.map nmE) := by
    have q := pm.map fun v => nmE (0, v)
    rw [List.map_map] at q
    rw [exs]
    exact q
  refine wpAny_bind (wpAny_newList ?_ hvz)
  have hoL : (s1.heap.push (seqObj "list" vs.toArray 0)).get? s1.heap.objs.size = some (seqObj "list" vs.toArray 0) := Heap.get?_push_size _ rfl
  refine wpAny_bind (wpAny_holding (wpAny_call_entry slot_list_sort ⟨_, hoL, rfl⟩ entry_list_sort (list_sort_treeKAny strKind_oneLt hoL hI.keysOf (fun v₁ v₂ rest e => keyKind_strs (by rw [← e]; exact hI)) hvz fun st' hp hs => ⟨_, rfl, ?_⟩) (args_list_sort _)))
  obtain ⟨ks, a1, a2, a3⟩ := sorted_out_str hI hp hs
  obtain ⟨c, hc⟩ := sortedHeap_at (vs := vs) (out := (arrOf st').map (·.2)) hoL
  have pn : ks.Perm (es.toList.map nmE) := a2.trans pk
  refine wpAny_pure ⟨_, rfl, hQ _ s1.heap.objs.size _ c ks (fun b u e => ?_) g1 o1 hz hc a1 a3 (pn.nodup_iff.mpr nd) (fun k => by rw [pn.mem_iff, ← hm k])⟩
  have q := k1 b u e
  have hlt := Heap.lt_size q
  show (sortedHeap (s1.heap.push (seqObj "list" vs.toArray 0)) s1.heap.objs.size vs ((arrOf st').map (·.2))).get? b = some u
  rw [sortedHeap_old (Nat.ne_of_lt hlt) (by rw [size_push']; exact Nat.lt_succ_of_lt hlt)]
  exact Heap.get?_push_of_some _ q
end
end DL

namespace DL
open PySem PySem.Spec L2

/-! ### what is told by a step -/
inductive Rz (α : Type) where
  | ok (a : α) | exc (c : Str) | bad
def Rz.bind {α β : Type} (r : Rz α) (f : α → Rz β) : Rz β := match r with
  | .ok a => f a
  | .exc c => .exc c
  | .bad => .bad
@[simp] theorem Rz.bind_ok {α β : Type} (a : α) (f : α → Rz β) : (Rz.ok a).bind f = f a := rfl
@[simp] theorem Rz.bind_exc {α β : Type} (c : Str) (f : α → Rz β) : (Rz.exc c).bind f = .exc c := rfl
@[simp] theorem Rz.bind_bad {α β : Type} (f : α → Rz β) : (Rz.bad).bind f = .bad := rfl
@[simp] theorem Rz.bind_ite {α β : Type} {c : Prop} [Decidable c] (x y : Rz α) (f : α → Rz β) : (if c then x else y).bind f = if c then x.bind f else y.bind f := by split <;> rfl
abbrev R := Rz (D × Bool)
/-- what stands in a slot -/
inductive Sl where
  | no | val (d : D) | own (d : D)
  deriving Inhabited

/-! ### values' operations -/
inductive Bop where
  | add | sub | mul | fdiv | mod | pow
  deriving DecidableEq
inductive Cop where
  | eq | ne | lt | le | gt | ge | isN | notN | isIn | notIn | isB | notB
  deriving DecidableEq

mutual
def toP : D → Option PyData
  | .non => some .none
  | .bl b => some (.bool b)
  | .int i => some (.int i)
  | .str x => some (.str x)
  | .tup ds => (toPs ds).map .tuple
  | .lst ds => (toPs ds).map .list
  | .dct _ _ => none
  | .ins _ _ => none
  | .exc _ => none
  | .kl _ => none
  | .dtn _ _ => none
def toPs : List D → Option (List PyData)
  | [] => some []
  | d :: ds => match toP d, toPs ds with
    | some p, some ps => some (p :: ps)
    | _, _ => none
end

mutual
/-- == as Python has it -/
def eqD : D → D → Bool
  | .non, .non => true
  | .bl a, .bl b => a == b
  | .bl a, .int j => (if a then 1 else 0) == j
  | .int i, .bl b => i == (if b then 1 else 0)
  | .int i, .int j => i == j
  | .str x, .str y => x == y
  | .tup xs, .tup ys => eqDs xs ys
  | .lst xs, .lst ys => eqDs xs ys
  | _, _ => false
def eqDs : List D → List D → Bool
  | [], [] => true
  | x :: xs, y :: ys => eqD x y && eqDs xs ys
  | _, _ => false
end

mutual
/-- it may be compared: no dict, no instance within, strings well made, no deeper than n -/
def cmpOk : Nat → D → Bool
  | _, .non => true
  | _, .bl _ => true
  | _, .int _ => true
  | _, .str x => PyData.canLay0 (.str x)
  | 0, .tup _ => false
  | n + 1, .tup ds => cmpOks n ds
  | 0, .lst _ => false
  | n + 1, .lst ds => cmpOks n ds
  | _, _ => false
def cmpOks : Nat → List D → Bool
  | _, [] => true
  | n, d :: ds => cmpOk n d && cmpOks n ds
end

def flat : D → Bool
  | .non => true
  | .bl _ => true
  | .int _ => true
  | .str _ => true
  | _ => false

def dInt (i : Int) : R := .ok (.int i, false)
def dBl (b : Bool) : R := .ok (.bl b, false)

def MulOk (i j : Int) : Prop := CMul i j ∨ CMulW i j
instance (i j : Int) : Decidable (MulOk i j) := by unfold MulOk CMul CMulW; infer_instance
def DivOk (i j : Int) : Prop := (0 < j ∧ j.natAbs.log2 < 9000) ∨ (j ≠ 0 ∧ j.natAbs < 1073741824)
instance (i j : Int) : Decidable (DivOk i j) := by unfold DivOk; infer_instance
def PowOk (i j : Int) : Prop := CPow i j
instance (i j : Int) : Decidable (PowOk i j) := by unfold PowOk CPow; infer_instance

def binD : Bop → D → D → R
  | .add, .int i, .int j => dInt (i + j)
  | .add, .str x, .str y => if x.length + y.length ≤ LIM then .ok (.str (x ++ y), false) else .bad
  | .add, .lst xs, .lst ys => if xs.length + ys.length ≤ LIM then .ok (.lst (xs ++ ys), true) else .bad
  | .sub, .int i, .int j => dInt (i - j)
  | .mul, .int i, .int j => if MulOk i j then dInt (i * j) else .bad
  | .fdiv, .int i, .int j => if DivOk i j then dInt (i.fdiv j) else .bad
  | .mod, .int i, .int j => if j = 0 then .bad else dInt (i.fmod j)
  | .pow, .int i, .int j => if PowOk i j then dInt (i ^ j.toNat) else .bad
  | _, _, _ => .bad

/-! nested tuples as keys -/
mutual
def isKey : D → Bool
  | .int _ => true
  | .str _ => true
  | .tup ds => isKeys ds
  | _ => false
def isKeys : List D → Bool
  | [] => true
  | d :: ds => isKey d && isKeys ds
end
mutual
def kdep : D → Nat
  | .tup ds => kdeps ds + 1
  | _ => 0
def kdeps : List D → Nat
  | [] => 0
  | d :: ds => max (kdep d) (kdeps ds)
end
def isTupK : D → Bool
  | .tup ds => isKeys ds
  | _ => false
/-- it may be asked: no two keys deeper than the model's look -/
def okN (kvs : List (D × D)) (k : D) : Bool := isTupK k && if kvs.isEmpty then decide (kdep k ≤ 40) else decide (kdep k ≤ 8) && kvs.all fun kv => decide (kdep kv.1 ≤ 8)
def lookN (kvs : List (D × D)) (k : D) : Option D := (kvs.find? fun kv => eqD kv.1 k).map (·.2)
def putN (kvs : List (D × D)) (k d : D) : List (D × D) := if (kvs.any fun kv => eqD kv.1 k) = true then kvs.map (fun kv => if eqD kv.1 k = true then (kv.1, d) else kv) else kvs ++ [(k, d)]
/-- is x among the flat ones -/
def inD (x : D) (ys : List D) : Bool := ys.any fun y => eqD y x
def lookKD (kvs : List (Key × D)) (k : Key) : Option D := (kvs.find? fun kv => decide (kv.1 = k)).map (·.2)
def inK (x y : D) : Rz Bool := match y with
  | .tup ys => if flat x = true ∧ ys.all flat = true then .ok (inD x ys) else .bad
  | .lst ys => if flat x = true ∧ ys.all flat = true then .ok (inD x ys) else .bad
  | .dct _ kvs => match keyOf x with
    | some k => .ok (lookKD kvs k).isSome
    | none => .bad
  | .dtn _ kvs => if okN kvs x = true then .ok (lookN kvs x).isSome else .bad
  | .str z => match x with
    | .str w => .ok (!(Builtin.Str.occurrences z w 0 z.length 1).isEmpty)
    | _ => .bad
  | _ => .bad

def scalD : D → D → Bool
  | .non, .non => true | .non, .int _ => true | .int _, .non => true | .non, .bl _ => true | .bl _, .non => true | .non, .str _ => true | .str _, .non => true
  | .int _, .int _ => true | .bl _, .bl _ => true | .str _, .str _ => true
  | .int _, .str _ => true | .str _, .int _ => true | .bl _, .str _ => true | .str _, .bl _ => true
  | _, _ => false
def eqOk (x y : D) : Bool := scalD x y || (cmpOk 64 x && cmpOk 64 y)
def same1 : D → D → Bool
  | .int i, .int j => decide (i = j)
  | .str x, .str y => decide (x = y)
  | .bl a, .bl b => decide (a = b)
  | _, _ => false
/-- two dicts of ints and texts that have the same -/
def eqDct : D → D → Bool
  | .dct _ ks, .dct _ ls => decide (ks.length = ls.length) && ks.all fun p => match lookKD ls p.1 with
    | some d => same1 p.2 d
    | none => false
  | _, _ => false
def cmpD : Cop → D → D → R
  | .eq, x, y => if eqDct x y = true then dBl true else if eqOk x y = true then dBl (eqD x y) else .bad
  | .ne, x, y => if eqDct x y = true then dBl false else if eqOk x y = true then dBl (!eqD x y) else .bad
  | .lt, .int i, .int j => dBl (decide (i < j))
  | .le, .int i, .int j => dBl (decide (i ≤ j))
  | .gt, .int i, .int j => dBl (decide (j < i))
  | .ge, .int i, .int j => dBl (decide (j ≤ i))
  | .lt, .str x, .str y => dBl (decide (x.cps.toList < y.cps.toList))
  | .le, .str x, .str y => dBl (!decide (y.cps.toList < x.cps.toList))
  | .gt, .str x, .str y => dBl (decide (y.cps.toList < x.cps.toList))
  | .ge, .str x, .str y => dBl (!decide (x.cps.toList < y.cps.toList))
  | .isN, x, _ => dBl (match x with | .non => true | _ => false)
  | .notN, x, _ => dBl (match x with | .non => false | _ => true)
  | .isB, .bl a, .bl b => dBl (decide (a = b))
  | .notB, .bl a, .bl b => dBl (!decide (a = b))
  | .isIn, x, y => (inK x y).bind fun k => dBl k
  | .notIn, x, y => (inK x y).bind fun k => dBl (!k)
  | _, _, _ => .bad

def truthD : D → Rz Bool
  | .non => .ok false
  | .bl b => .ok b
  | .int i => .ok (i != 0)
  | .str x => .ok ((x.length : Int) != 0)
  | .tup ds => .ok (!ds.isEmpty)
  | .lst ds => .ok (!ds.isEmpty)
  | _ => .bad

def ixD : D → D → R
  | .lst xs, .int i => match atI xs i with | some d => .ok (d, false) | none => .bad
  | .tup xs, .int i => match atI xs i with | some d => .ok (d, false) | none => .bad
  | .kl xs, .int i => match atI xs i with | some d => .ok (d, false) | none => .bad
  | .dct _ kvs, k => match keyOf k with
    | some k => match lookKD kvs k with
      | some d => .ok (d, false)
      | none => .bad
    | none => .bad
  | .dtn _ kvs, k => if okN kvs k = true then (match lookN kvs k with
    | some d => .ok (d, false)
    | none => .bad) else .bad
  | .str x, .int i => match atI x.cps.toList i with | some c => .ok (.str ⟨#[c]⟩, false) | none => .bad
  | _, _ => .bad

def cutD (xs : List D) (lo hi : Option Int) : List D := (xs.drop (HT.sIx xs.length 0 lo)).take (HT.sIx xs.length xs.length hi - HT.sIx xs.length 0 lo)
def slD (x : D) (lo hi : Option Int) : R := match x with
    | .lst xs => .ok (.lst (cutD xs lo hi), true)
    | .kl xs => .ok (.lst (cutD xs lo hi), true)
    | .tup xs => if HT.sIx xs.length 0 lo = 0 ∧ HT.sIx xs.length xs.length hi = xs.length then .bad else .ok (.tup (cutD xs lo hi), false)
    | .str z => .ok (.str (cutS z lo hi), false)
    | _ => .bad

/-! ### built-in functions, methods, types -/
inductive BF where
  | abs | len | max2 | min2 | int | str | list | tuple | sum | max1 | all | any | sorted | dict
  deriving DecidableEq
inductive Ty where
  | int | bool | str | tuple | list | dict
  deriving DecidableEq

def isTy : Ty → D → Bool
  | .int, .int _ => true
  | .int, .bl _ => true
  | .bool, .bl _ => true
  | .str, .str _ => true
  | .tuple, .tup _ => true
  | .list, .lst _ => true
  | .list, .kl _ => true
  | .dict, .dct _ _ => true
  | _, _ => false
def hasTy : D → Bool
  | .ins _ _ => false
  | .exc _ => false
  | .dtn _ _ => false
  | _ => true

def intsOf : List D → Option (List Int)
  | [] => some []
  | .int i :: r => (intsOf r).map (i :: ·)
  | _ :: _ => none
def blsOf : List D → Option (List Bool)
  | [] => some []
  | .bl i :: r => (blsOf r).map (i :: ·)
  | _ :: _ => none
def strsOf : List D → Option (List Str)
  | [] => some []
  | .str i :: r => (strsOf r).map (i :: ·)
  | _ :: _ => none
def keyS : List Key → Option (List Str)
  | [] => some []
  | .inr i :: r => (keyS r).map (i :: ·)
  | _ :: _ => none
def leS (a b : Str) : Bool := !ltCps b.cps.toList a.cps.toList
def sortS (xs : List Str) : List Str := xs.mergeSort leS
def sortI (xs : List Int) : List Int := xs.mergeSort fun a b => decide (a ≤ b)
def maxI : List Int → Int
  | [] => 0
  | [x] => x
  | x :: r => if maxI r < x then x else maxI r
def itemsOf : D → Option (List D)
  | .dct true kvs => some (kvs.map fun kv => kD kv.1)
  | .lst ds => some ds
  | .tup ds => some ds
  | .kl ds => some ds
  | .str x => some (x.cps.toList.map fun c => .str ⟨#[c]⟩)
  | _ => none

def lstOf : D → Option (List D)
  | .lst ds => some ds
  | .kl ds => some ds
  | _ => none
/-! ### sorted pairs -/
def encP (p : Str × Int) : PyData := .tuple [.str p.1, .int p.2]
def leP (p q : Str × Int) : Bool := PySem.W.dataLe false encP p q
def pairD (p : Str × Int) : D := .tup [.str p.1, .int p.2]
def sortP (ps : List (Str × Int)) : List (Str × Int) := ps.mergeSort leP
def pairOf : D → Option (Str × Int)
  | .tup [.str x, .int i] => some (x, i)
  | _ => none
def pairsOf : List D → Option (List (Str × Int))
  | [] => some []
  | d :: ds => match pairOf d with
    | some p => match pairsOf ds with
      | some ps => some (p :: ps)
      | none => none
    | none => none
def bf1 (f : BF) (x : D) : R := match f with
  | .abs => match x with
    | .int i => dInt (if i < 0 then -i else i)
    | _ => .bad
  | .len => match x with
    | .lst ds => dInt ds.length
    | .kl ds => dInt ds.length
    | .tup ds => dInt ds.length
    | .str x => dInt x.length
    | .dct _ kvs => dInt kvs.length
    | _ => .bad
  | .int => match x with
    | .int i => dInt i
    | .bl b => dInt (if b then 1 else 0)
    | _ => .bad
  | .list => match x with
    | .lst ds => .ok (.lst ds, true)
    | .tup ds => .ok (.lst ds, true)
    | .kl ds => .ok (.lst ds, true)
    | .dct _ kvs => .ok (.lst (kvs.map fun kv => kD kv.1), true)
    | _ => .bad
  | .dict => match x with
    | .dct _ kvs => .ok (.dct false kvs, true)
    | _ => .bad
  | .sorted => match x with
    | .dct _ kvs => match keyS (kvs.map (·.1)) with
      | some ks => if ks.length < 64 then .ok (.lst ((sortS ks).map .str), true) else .bad
      | none => .bad
    | .lst ds => match strsOf ds with
      | some ks => if ks.length < 64 then .ok (.lst ((sortS ks).map .str), true) else .bad
      | none => match intsOf ds with
        | some ks => if ks.length < 64 then .ok (.lst ((sortI ks).map .int), true) else .bad
        | none => match pairsOf ds with
          | some ps => if ps.length < 64 then .ok (.lst ((sortP ps).map pairD), true) else .bad
          | none => .bad
    | _ => .bad
  | .sum => match x with
    | .lst ds => match intsOf ds with
      | some ks => dInt ks.sum
      | none => .bad
    | _ => .bad
  | .max1 => match x with
    | .lst ds => match intsOf ds with
      | some ks => if ks.length = 0 then .bad else dInt (maxI ks)
      | none => .bad
    | _ => .bad
  | .all => match x with
    | .lst ds => match blsOf ds with
      | some ks => dBl (ks.all id)
      | none => .bad
    | _ => .bad
  | .any => match x with
    | .lst ds => match blsOf ds with
      | some ks => dBl (ks.any id)
      | none => .bad
    | _ => .bad
  | .str => match x with
    | .int i => if i.natAbs.log2 < 1920 ∧ (Str.ofString (toString i)).length ≤ LIM then .ok (.str (Str.ofString (toString i)), false) else .bad
    | .str s => .ok (.str s, false)
    | _ => .bad
  | .tuple => match x with
    | .lst ds => .ok (.tup ds, false)
    | .tup ds => .ok (.tup ds, false)
    | _ => .bad
  | _ => .bad
def bf2 (f : BF) (x y : D) : R := match f with
  | .max2 => match x, y with
    | .int i, .int j => dInt (if j > i then j else i)
    | _, _ => .bad
  | .min2 => match x, y with
    | .int i, .int j => dInt (if j < i then j else i)
    | _, _ => .bad
  | _ => .bad
def bfD (f : BF) (ds : List D) : R := match ds with
  | [x] => bf1 f x
  | [x, y] => bf2 f x y
  | _ => .bad

/-! ### methods of texts and dicts -/
def onD (x : D) (r : R) : R := match x with
  | .dct _ _ => r
  | _ => .bad
def onS (x : D) (r : R) : R := match x with
  | .str _ => r
  | _ => .bad
def getD1 (x k d : D) : R := match x with
  | .dct _ kvs => match keyOf k with
    | some k => .ok ((lookKD kvs k).getD d, false)
    | none => .bad
  | _ => .bad
def joinS (a : Str) (ds : List D) : R := match strsOf ds with
  | some ss => if (ss.map (·.length)).sum + ss.length * a.length ≤ LIM ∧ (Txt.join a ss).length ≤ LIM then .ok (.str (Txt.join a ss), false) else .bad
  | none => .bad
def joinD (x y : D) : R := match x with
  | .str a => match y with
    | .lst ds => joinS a ds
    | .tup ds => joinS a ds
    | _ => .bad
  | _ => .bad
def catS : List Str → Str
  | [] => Str.empty
  | x :: r => x ++ catS r
def fstD (ds : List D) : R := match strsOf ds with
  | some ss => if (catS ss).length ≤ LIM then .ok (.str (catS ss), false) else .bad
  | none => .bad
/-- a new dict is locked -/
def lokD : D × Bool → R
  | (.dct false kvs, true) => .ok (.dct true kvs, false)
  | p => .ok p
def putsKD : List (Key × D) → List Str → List D → Option (List (Key × D))
  | acc, [], [] => some acc
  | acc, k :: ks, d :: ds => putsKD (putKD acc (.inr k) d) ks ds
  | _, _, _ => none
def dspD (ks : List Str) (ds : List D) : R := match putsKD [] ks ds with
  | some kvs => .ok (.dct false kvs, true)
  | none => .bad
def tupOf : D → Option (List D)
  | .tup ds => some ds
  | _ => none
def zipO (x y : D) : Option (List D × List D) := match lstOf x, lstOf y with
  | some xs, some ys => some (xs, ys)
  | _, _ => match tupOf x, tupOf y with
    | some xs, some ys => some (xs, ys)
    | _, _ => none
def zipD (xs ys : List D) : List D := List.zipWith (fun x y => .tup [x, y]) xs ys
/-- of what enumerate goes over: a list, the keys of a locked dict -/
def enumOf : D → Option (List D)
  | .dct true kvs => some (kvs.map fun kv => kD kv.1)
  | d => lstOf d
def enumD (n : Nat) : List D → List D
  | [] => []
  | x :: r => .tup [.int n, x] :: enumD (n + 1) r

/-! ### the terms -/
inductive Tg where
  | one (i : Nat)
  | many (is : List Nat)
mutual
inductive E where
  | var (i : Nat)
  | lit (d : D)
  | glb (x : Str)
  | bin (o : Bop) (a b : E)
  | neg (a : E)
  | not (a : E)
  | and (a b : E)
  | or (a b : E)
  | cmp (o : Cop) (a b : E)
  | chn (o o' : Cop) (a b c : E)
  | tup (es : Es)
  | lst (es : Es)
  | idx (a i : E)
  | slc (a : E) (lo hi : Pt)
  | call (f : Str) (es : Es)
  | bf (f : BF) (es : Es)
  | isi (a : E) (t : Ty)
  | isc (a : E) (c : Str)
  | isx (a : E) (c : Str)
  | lent (is : List Nat) (a : E)
  | comp (tg : Tg) (it : It) (cnd : T) (elt : E) (own : List (Str × Nat))
  | dnew
  | dnewN
  | any
  | dsp (ks : List Str) (ds : List D)
  | get1 (a k : E)
  | get2 (a k d : E)
  | join (a e : E)
  | lok (a : E)
  | fmt (a : E)
  | fst (es : Es)
  | tix (x : Str) (a : E)
  | maxd (a d : E)
  | sset (a : E)
  | cald (f : Str) (es : Es)
  | mk (c : Str) (es : Es)
  | fld (a : E) (f : Str)
  | mth (a : E) (m : Str) (es : Es)
inductive T where
  | v (e : E)
  | and (a b : T)
  | or (a b : T)
  | not (a : T)
  | cmp (o : Cop) (a b : E)
  | chn (o o' : Cop) (a b c : E)
  | lent (is : List Nat) (a : T)
  | yes
inductive Es where
  | nil
  | cons (e : E) (es : Es)
inductive It where
  | seq (e : E)
  | rng1 (e : E)
  | rng2 (a b : E)
  | rng3 (a b c : E)
  | enum (e : E)
  | zip (a b : E)
  | items (e : E)
  | rev (e : E)
inductive Pt where
  | no
  | at (e : E)
end

mutual
inductive S where
  | set (i : Nat) (o : Bool) (e : E)
  | unp (is : List Nat) (e : E)
  | exp (e : E)
  | app (i : Nat) (e : E)
  | ext (i : Nat) (e : E)
  | put (i : Nat) (k e : E)
  | pop2 (i : Nat) (k d : E)
  | pop1 (j : Option Nat) (i : Nat) (k : E)
  | upd (i : Nat) (e : E)
  | clr (i : Nat)
  | ret (e : E)
  | retv (i : Nat)
  | retN
  | ite (c : T) (a b : Ss)
  | whl (c : T) (b : Ss)
  | fr (tg : Tg) (it : It) (b : Ss)
  | brk
  | pas
  | rai (c : Str)
  | try1 (c : Str) (b : Ss) (h : S)
  | tryK (c : Str) (b : Ss) (i j : Nat)
  | frz (is : List Nat) (s : S)
  | frzL (i : Nat) (s : S)
inductive Ss where
  | nil
  | any
  | cons (s : S) (ss : Ss)
end

/-! ### how they are run -/
structure Inf where
  has : List Str
  exs : List Str
  gt : List (Str × D)
  bns : List Str
  dt : List (Str × List (Str × D)) := []
  /-- the classes: the fields by the parameters, the methods by the defs' keys -/
  cls : List (Str × List Str × List (Str × Str)) := []
  /-- defaults that fill up -/
  df : List (Str × List D) := []
  /-- raised class, handled class: is it caught? -/
  exm : List ((Str × Str) × Bool) := []
  /-- made class, asked class: is it one? -/
  ism : List ((Str × Str) × Bool) := []
  /-- raised class, asked class: is it one? -/
  ixm : List ((Str × Str) × Bool) := []
structure Ctx where
  cal : Str → List D → R
  inf : Inf

def thaw1 (ρ : List Sl) (i : Nat) : List Sl := match ρ[i]? with
  | some (Sl.own d) => ρ.set i (.val d)
  | _ => ρ
def thaw (is : List Nat) (ρ : List Sl) : List Sl := is.foldl thaw1 ρ
mutual
def hard : D → Bool
  | .non => true
  | .bl _ => true
  | .int _ => true
  | .str _ => true
  | .tup ds => hards ds
  | _ => false
def hards : List D → Bool
  | [] => true
  | d :: ds => hard d && hards ds
end
/-- a dict of one's own is let go, locked -/
def thawL (ρ : List Sl) (i : Nat) : List Sl := match ρ[i]? with
  | some (Sl.own (.dct false kvs)) => ρ.set i (.val (.dct true kvs))
  | _ => ρ
/-- what comes of an expression that looked at a lent list does not lean on it -/
def lentOk : D × Bool → R
  | (d, fr) => if hard d then .ok (d, false) else match d, fr with
    | .lst ds, true => if hards ds then .ok (d, true) else .bad
    | .dct false kvs, true => if hards (kvs.map (·.2)) then .ok (d, true) else .bad
    | _, _ => .bad

def sets : List Nat → List D → List Sl → Option (List Sl)
  | [], [], ρ => some ρ
  | i :: is, d :: ds, ρ => sets is ds (ρ.set i (.val d))
  | _, _, _ => none
def Tg.bind : Tg → D → List Sl → Option (List Sl)
  | .one i, d, ρ => some (ρ.set i (.val d))
  | .many is, .tup ds, ρ => sets is ds ρ
  | .many _, _, _ => none
def wipeS (ρ : List Sl) (vs : List Nat) : List Sl := vs.foldl (fun ρ i => ρ.set i .no) ρ

/-- a comprehension's turns -/
def cLoop (tg : Tg) (t : List Sl → Rz Bool) (e : List Sl → R) (ρ : List Sl) : List D → List D → Rz (List D)
  | [], acc => .ok acc
  | d :: ds, acc => match tg.bind d ρ with
    | none => .bad
    | some ρ' => match t ρ' with
      | .ok true => match e ρ' with
        | .ok (y, _) => cLoop tg t e ρ ds (acc ++ [y])
        | _ => .bad
      | .ok false => cLoop tg t e ρ ds acc
      | _ => .bad

def RNG (i : Int) : Prop := -(2 ^ 62) ≤ i ∧ i < 2 ^ 62
instance (i : Int) : Decidable (RNG i) := by unfold RNG; infer_instance
def rngC (lo c : Int) (n : Nat) : List D := (List.range n).map fun i => .int (lo + (i : Nat) * c)
def RgcOk (i j c : Int) : Prop := 0 < c ∧ c.natAbs < 1073741824 ∧ Builtin.Range.small i j c = true ∧ (Builtin.Range.rangeSize i j c).toNat ≤ LIM
instance (i j c : Int) : Decidable (RgcOk i j c) := by unfold RgcOk; exact inferInstance
def tixD (dt : List (Str × List (Str × D))) (x : Str) (k : D) : R := match k with
  | .str z => match dt.lookup x with
    | some tb => match tb.lookup z with
      | some d => .ok (d, false)
      | none => .bad
    | none => .bad
  | _ => .bad
def mkD (cls : List (Str × List Str × List (Str × Str))) (c : Str) (ds : List D) : R := match cls.lookup c with
  | some p => if ds.length = p.1.length then .ok (.ins c (p.1.zip ds), false) else .bad
  | none => .bad
def fldD (cls : List (Str × List Str × List (Str × Str))) (x : D) (f : Str) : R := match x with
  | .ins c fs => match cls.lookup c with
    | some p => if p.1.contains f = true then (match fs.lookup f with
      | some d => .ok (d, false)
      | none => .bad) else .bad
    | none => .bad
  | _ => .bad
def mthD (cls : List (Str × List Str × List (Str × Str))) (x : D) (m : Str) : Option Str := match x with
  | .ins c fs => match cls.lookup c with
    | some p => if (fs.lookup m).isNone = true then p.2.lookup m else none
    | none => none
  | _ => none
def ddS : List Str → List Str
  | [] => []
  | x :: xs => if x ∈ xs then ddS xs else x :: ddS xs
def ssetD (x : D) : R := match x with
  | .lst ds => match strsOf ds with
    | some ks => if ks.length + 1 < 4096 then .ok (.lst ((sortS (ddS ks)).map .str), true) else .bad
    | none => .bad
  | _ => .bad
def maxdD (x y : D) : R := match x with
  | .lst ds => match intsOf ds with
    | some ks => match y with
      | .int k => dInt (if ks.length = 0 then k else maxI ks)
      | _ => .bad
    | none => .bad
  | _ => .bad
def rngD (lo : Int) (n : Nat) : List D := (List.range n).map fun i => .int (lo + (i : Nat))

mutual
def ev (C : Ctx) : E → List Sl → R
  | .var i, ρ => match ρ[i]? with
    | some (.val d) => .ok (d, false)
    | _ => .bad
  | .lit d, _ => .ok (d, false)
  | .glb x, _ => match C.inf.gt.lookup x with
    | some d => .ok (d, false)
    | none => .bad
  | .bin o a b, ρ => (ev C a ρ).bind fun x => (ev C b ρ).bind fun y => binD o x.1 y.1
  | .neg a, ρ => (ev C a ρ).bind fun x => match x.1 with
    | .int i => dInt (-i)
    | _ => .bad
  | .not a, ρ => (ev C a ρ).bind fun x => match x.1 with
    | .bl b => dBl (!b)
    | _ => .bad
  | .and a b, ρ => (ev C a ρ).bind fun x => match x.1 with
    | .bl true => ev C b ρ
    | .bl false => dBl false
    | _ => .bad
  | .or a b, ρ => (ev C a ρ).bind fun x => match x.1 with
    | .bl true => dBl true
    | .bl false => ev C b ρ
    | _ => .bad
  | .cmp o a b, ρ => (ev C a ρ).bind fun x => (ev C b ρ).bind fun y => cmpD o x.1 y.1
  | .chn o o' a b c, ρ => (ev C a ρ).bind fun x => (ev C b ρ).bind fun y => (cmpD o x.1 y.1).bind fun z => match z.1 with
    | .bl true => (ev C c ρ).bind fun w => cmpD o' y.1 w.1
    | .bl false => dBl false
    | _ => .bad
  | .tup es, ρ => (evs C es ρ).bind fun ds => if ds.length ≤ LIM then .ok (.tup ds, false) else .bad
  | .lst es, ρ => (evs C es ρ).bind fun ds => if ds.length ≤ LIM then .ok (.lst ds, true) else .bad
  | .idx a i, ρ => (ev C a ρ).bind fun x => (ev C i ρ).bind fun y => ixD x.1 y.1
  | .slc a lo hi, ρ => (ev C a ρ).bind fun x => (evP C lo ρ).bind fun l => (evP C hi ρ).bind fun h => slD x.1 l h
  | .call f es, ρ => (evs C es ρ).bind fun ds => C.cal f ds
  | .bf f es, ρ => (evs C es ρ).bind fun ds => bfD f ds
  | .isc a c, ρ => (ev C a ρ).bind fun x => match x.1 with
    | .ins c0 _ => match C.inf.ism.lookup (c0, c) with
      | some b => dBl b
      | none => .bad
    | _ => .bad
  | .isx a c, ρ => (ev C a ρ).bind fun x => match x.1 with
    | .exc c0 => match C.inf.ixm.lookup (c0, c) with
      | some b => dBl b
      | none => .bad
    | _ => .bad
  | .isi a t, ρ => (ev C a ρ).bind fun x => if hasTy x.1 then dBl (isTy t x.1) else .bad
  | .lent is a, ρ => (ev C a (thaw is ρ)).bind lentOk
  | .comp tg it cnd elt own, ρ => (evIt C it ρ).bind fun ds =>
      (cLoop tg (evT C cnd) (ev C elt) (wipeS ρ (own.map (·.2))) ds []).bind fun ys => .ok (.lst ys, true)
  | .dnew, _ => .ok (.dct false [], true)
  | .dnewN, _ => .ok (.dtn false [], true)
  | .any, _ => .bad
  | .dsp ks ds, _ => dspD ks ds
  | .get1 a k, ρ => (ev C a ρ).bind fun x => onD x.1 ((ev C k ρ).bind fun y => getD1 x.1 y.1 .non)
  | .get2 a k d, ρ => (ev C a ρ).bind fun x => onD x.1 ((ev C k ρ).bind fun y => (ev C d ρ).bind fun z => getD1 x.1 y.1 z.1)
  | .join a e, ρ => (ev C a ρ).bind fun x => onS x.1 ((ev C e ρ).bind fun y => joinD x.1 y.1)
  | .lok a, ρ => (ev C a ρ).bind lokD
  | .fmt a, ρ => (ev C a ρ).bind fun x => bf1 .str x.1
  | .tix x a, ρ => (ev C a ρ).bind fun k => tixD C.inf.dt x k.1
  | .sset a, ρ => (ev C a ρ).bind fun x => ssetD x.1
  | .maxd a d, ρ => (ev C a ρ).bind fun x => (ev C d ρ).bind fun y => maxdD x.1 y.1
  | .cald f es, ρ => match C.inf.df.lookup f with
    | some dv => (evs C es ρ).bind fun xs => C.cal f (xs ++ dv)
    | none => .bad
  | .mk c es, ρ => match C.cal Str.empty [] with
    | .ok _ => (evs C es ρ).bind fun ds => mkD C.inf.cls c ds
    | _ => .bad
  | .fld a f, ρ => (ev C a ρ).bind fun x => fldD C.inf.cls x.1 f
  | .mth a m es, ρ => (ev C a ρ).bind fun x => match mthD C.inf.cls x.1 m with
    | some g => (evs C es ρ).bind fun ds => C.cal g (x.1 :: ds)
    | none => .bad
  | .fst es, ρ => match evs C es ρ with
    | .ok ds => fstD ds
    | _ => .bad
def evT (C : Ctx) : T → List Sl → Rz Bool
  | .and a b, ρ => (evT C a ρ).bind fun x => if x = true then evT C b ρ else .ok false
  | .or a b, ρ => (evT C a ρ).bind fun x => if x = true then .ok true else evT C b ρ
  | .not a, ρ => (evT C a ρ).bind fun x => .ok (!x)
  | .cmp o a b, ρ => (ev C a ρ).bind fun x => (ev C b ρ).bind fun y => (cmpD o x.1 y.1).bind fun z => match z.1 with
    | .bl k => .ok k
    | _ => .bad
  | .chn o o' a b c, ρ => (ev C a ρ).bind fun x => (ev C b ρ).bind fun y => (cmpD o x.1 y.1).bind fun z => match z.1 with
    | .bl true => (ev C c ρ).bind fun w => (cmpD o' y.1 w.1).bind fun z => match z.1 with
      | .bl k => .ok k
      | _ => .bad
    | .bl false => .ok false
    | _ => .bad
  | .lent is a, ρ => evT C a (thaw is ρ)
  | .v e, ρ => (ev C e ρ).bind fun x => truthD x.1
  | .yes, _ => .ok true
def evs (C : Ctx) : Es → List Sl → Rz (List D)
  | .nil, _ => .ok []
  | .cons e es, ρ => (ev C e ρ).bind fun x => (evs C es ρ).bind fun xs => .ok (x.1 :: xs)
def evP (C : Ctx) : Pt → List Sl → Rz (Option Int)
  | .no, _ => .ok none
  | .at e, ρ => (ev C e ρ).bind fun x => match x.1 with
    | .int i => .ok (some i)
    | _ => .bad
def evIt (C : Ctx) : It → List Sl → Rz (List D)
  | .seq e, ρ => (ev C e ρ).bind fun x => match itemsOf x.1 with
    | some ds => .ok ds
    | none => .bad
  | .rng1 e, ρ => (ev C e ρ).bind fun x => match x.1 with
    | .int j => if RNG j ∧ j.toNat ≤ LIM then .ok (rngD 0 j.toNat) else .bad
    | _ => .bad
  | .rng2 a b, ρ => (ev C a ρ).bind fun x => (ev C b ρ).bind fun y => match x.1, y.1 with
    | .int i, .int j => if (RNG i ∧ RNG j) ∧ (j - i).toNat ≤ LIM then .ok (rngD i (j - i).toNat) else .bad
    | _, _ => .bad
  | .rng3 a b c, ρ => (ev C a ρ).bind fun x => (ev C b ρ).bind fun y => (ev C c ρ).bind fun z => match x.1, y.1, z.1 with
    | .int i, .int j, .int k => if RgcOk i j k then .ok (rngC i k (Builtin.Range.rangeSize i j k).toNat) else .bad
    | _, _, _ => .bad
  | .enum e, ρ => (ev C e ρ).bind fun x => match enumOf x.1 with
    | some ds => .ok (enumD 0 ds)
    | _ => .bad
  | .zip a b, ρ => (ev C a ρ).bind fun x => (ev C b ρ).bind fun y => match zipO x.1 y.1 with
    | some p => .ok (zipD p.1 p.2)
    | none => .bad
  | .items e, ρ => (ev C e ρ).bind fun x => match x.1 with
    | .dct true kvs => .ok (kvs.map fun kv => .tup [kD kv.1, kv.2])
    | _ => .bad
  | .rev e, ρ => (ev C e ρ).bind fun x => match lstOf x.1 with
    | some ds => .ok ds.reverse
    | _ => .bad
end

/-! ### statements -/
inductive Out where
  | nx (ρ : List Sl) | ret (d : D) (fr : Bool) | brk (ρ : List Sl) | exc (c : Str) (ρ : List Sl) | bad
def Out.seq (o : Out) (f : List Sl → Out) : Out := match o with
  | .nx ρ => f ρ
  | o => o
@[simp] theorem Out.seq_nx (ρ : List Sl) (f : List Sl → Out) : (Out.nx ρ).seq f = f ρ := rfl
@[simp] theorem Out.seq_ret (d : D) (b : Bool) (f : List Sl → Out) : (Out.ret d b).seq f = .ret d b := rfl
@[simp] theorem Out.seq_brk (ρ : List Sl) (f : List Sl → Out) : (Out.brk ρ).seq f = .brk ρ := rfl
@[simp] theorem Out.seq_exc (c : Str) (ρ : List Sl) (f : List Sl → Out) : (Out.exc c ρ).seq f = .exc c ρ := rfl
@[simp] theorem Out.seq_bad (f : List Sl → Out) : (Out.bad).seq f = .bad := rfl
@[simp] theorem Out.seq_ite {c : Prop} [Decidable c] (x y : Out) (f : List Sl → Out) : (if c then x else y).seq f = if c then x.seq f else y.seq f := by split <;> rfl
/-- what is reckoned, then a statement's end -/
def Rz.out {α : Type} (r : Rz α) (ρ : List Sl) (f : α → Out) : Out := match r with
  | .ok a => f a
  | .exc c => .exc c ρ
  | .bad => .bad
@[simp] theorem Rz.out_ok {α : Type} (a : α) (ρ : List Sl) (f : α → Out) : (Rz.ok a).out ρ f = f a := rfl
@[simp] theorem Rz.out_exc {α : Type} (c : Str) (ρ : List Sl) (f : α → Out) : (Rz.exc c).out ρ f = .exc c ρ := rfl
@[simp] theorem Rz.out_bad {α : Type} (ρ : List Sl) (f : α → Out) : (Rz.bad).out ρ f = .bad := rfl
@[simp] theorem Rz.out_ite {α : Type} {c : Prop} [Decidable c] (x y : Rz α) (ρ : List Sl) (f : α → Out) : (if c then x else y).out ρ f = if c then x.out ρ f else y.out ρ f := by split <;> rfl

/-- n turns of a while at most -/
def wIter (t : List Sl → Rz Bool) (b : List Sl → Out) : Nat → List Sl → Option Out
  | 0, _ => none
  | n + 1, ρ => match t ρ with
    | .ok true => match b ρ with
      | .nx ρ' => wIter t b n ρ'
      | .brk ρ' => some (.nx ρ')
      | o => some o
    | .ok false => some (.nx ρ)
    | .exc c => some (.exc c ρ)
    | .bad => some .bad
open Classical in
noncomputable def wLoop (t : List Sl → Rz Bool) (b : List Sl → Out) (ρ : List Sl) : Out :=
  if h : ∃ p : Nat × Out, wIter t b p.1 ρ = some p.2 then (choose h).2 else .bad
theorem wIter_more {t : List Sl → Rz Bool} {b : List Sl → Out} : ∀ {n m : Nat} {ρ : List Sl} {o : Out}, n ≤ m → wIter t b n ρ = some o → wIter t b m ρ = some o
  | 0, _, _, _, _, h => by cases h
  | n + 1, 0, _, _, h, _ => by omega
  | n + 1, m + 1, ρ, o, hm, h => by
    unfold wIter at h ⊢
    split at h
    · split at h
      · exact wIter_more (by omega) h
      · exact h
      · exact h
    · exact h
    · exact h
    · exact h
theorem wLoop_of {t : List Sl → Rz Bool} {b : List Sl → Out} {n : Nat} {ρ : List Sl} {o : Out} (h : wIter t b n ρ = some o) : wLoop t b ρ = o := by
  have q : ∃ p : Nat × Out, wIter t b p.1 ρ = some p.2 := ⟨(n, o), h⟩
  unfold wLoop
  rw [dif_pos q]
  have z := Classical.choose_spec q
  have h1 := wIter_more (Nat.le_max_left n (Classical.choose q).1) h
  have h2 := wIter_more (Nat.le_max_right n (Classical.choose q).1) z
  rw [h1] at h2
  exact (Option.some.inj h2).symm
/-- it comes to an end, or nothing is told of it -/
theorem wLoop_end {t : List Sl → Rz Bool} {b : List Sl → Out} {ρ : List Sl} (h : wLoop t b ρ ≠ .bad) : ∃ n, wIter t b n ρ = some (wLoop t b ρ) := by
  by_cases q : ∃ p : Nat × Out, wIter t b p.1 ρ = some p.2
  · obtain ⟨⟨n, o⟩, e⟩ := q
    exact ⟨n, by rw [wLoop_of e]; exact e⟩
  · unfold wLoop at h
    rw [dif_neg q] at h
    exact absurd rfl h
/-- one turn of a while -/
theorem wLoop_turn (t : List Sl → Rz Bool) (b : List Sl → Out) (ρ : List Sl) : wLoop t b ρ = match t ρ with
    | .ok true => match b ρ with
      | .nx ρ' => wLoop t b ρ'
      | .brk ρ' => .nx ρ'
      | o => o
    | .ok false => .nx ρ
    | .exc c => .exc c ρ
    | .bad => .bad := by
  by_cases q : ∃ p : Nat × Out, wIter t b p.1 ρ = some p.2
  · obtain ⟨⟨n, o⟩, e⟩ := q
    rw [wLoop_of e]
    cases n with
    | zero => cases e
    | succ n =>
      unfold wIter at e
      cases h1 : t ρ with
      | ok k =>
        rw [h1] at e
        cases k with
        | true =>
          dsimp only at e ⊢
          cases h2 : b ρ with
          | nx ρ' => rw [h2] at e; exact (wLoop_of e).symm
          | brk ρ' => rw [h2] at e; exact (Option.some.inj e).symm
          | ret d fr => rw [h2] at e; exact (Option.some.inj e).symm
          | exc c ρ' => rw [h2] at e; exact (Option.some.inj e).symm
          | bad => rw [h2] at e; exact (Option.some.inj e).symm
        | false => exact (Option.some.inj e).symm
      | exc c => rw [h1] at e; exact (Option.some.inj e).symm
      | bad => rw [h1] at e; exact (Option.some.inj e).symm
  · have e0 : wLoop t b ρ = .bad := by unfold wLoop; rw [dif_neg q]
    rw [e0]
    cases h1 : t ρ with
    | bad => rfl
    | exc c => exact absurd ⟨(1, .exc c ρ), by show wIter t b 1 ρ = _; unfold wIter; rw [h1]⟩ q
    | ok k =>
      cases k with
      | false => exact absurd ⟨(1, .nx ρ), by show wIter t b 1 ρ = _; unfold wIter; rw [h1]⟩ q
      | true =>
        dsimp only
        cases h2 : b ρ with
        | bad => rfl
        | ret d fr => exact absurd ⟨(1, .ret d fr), by show wIter t b 1 ρ = _; unfold wIter; rw [h1]; dsimp only; rw [h2]⟩ q
        | exc c ρ' => exact absurd ⟨(1, .exc c ρ'), by show wIter t b 1 ρ = _; unfold wIter; rw [h1]; dsimp only; rw [h2]⟩ q
        | brk ρ' => exact absurd ⟨(1, .nx ρ'), by show wIter t b 1 ρ = _; unfold wIter; rw [h1]; dsimp only; rw [h2]⟩ q
        | nx ρ' =>
          dsimp only
          have q' : ¬ ∃ p : Nat × Out, wIter t b p.1 ρ' = some p.2 := fun ⟨⟨n, o⟩, e⟩ => q ⟨(n + 1, o), by show wIter t b (n + 1) ρ = _; unfold wIter; rw [h1]; dsimp only; rw [h2]; exact e⟩
          unfold wLoop
          rw [dif_neg q']

def fLoop (tg : Tg) (b : List Sl → Out) : List D → List Sl → Out
  | [], ρ => .nx ρ
  | d :: ds, ρ => match tg.bind d ρ with
    | none => .bad
    | some ρ' => match b ρ' with
      | .nx ρ2 => fLoop tg b ds ρ2
      | .brk ρ2 => .nx ρ2
      | o => o

/-- a list of one's own stands at i -/
def ownL (ρ : List Sl) (i : Nat) (o : Out) : Out := match ρ[i]? with
  | some (Sl.own (.lst _)) => o
  | _ => .bad
def ownP (ρ : List Sl) (i : Nat) (o : Out) : Out := match ρ[i]? with
  | some (Sl.own (.lst _)) => o
  | some (Sl.own (.dct false _)) => o
  | some (Sl.own (.dtn false _)) => o
  | _ => .bad
def ownD (ρ : List Sl) (i : Nat) (o : Out) : Out := match ρ[i]? with
  | some (Sl.own (.dct false _)) => o
  | _ => .bad
def dropKD (kvs : List (Key × D)) (k : Key) : List (Key × D) := kvs.filter fun kv => decide (kv.1 ≠ k)
/-- a dict at i loses a key, if it is there -/
def popS (ρ : List Sl) (i : Nat) (x : D) : Out := match ρ[i]? with
  | some (Sl.own (.dct false kvs)) => match keyOf x with
    | some k => .nx (ρ.set i (.own (.dct false (dropKD kvs k))))
    | none => .bad
  | _ => .bad
/-- a dict at i loses a key that is there; its value may be kept -/
def popV (ρ : List Sl) (j : Option Nat) (i : Nat) (x : D) : Out := match ρ[i]? with
  | some (Sl.own (.dct false kvs)) => match keyOf x with
    | some k => match lookKD kvs k with
      | some v => if flat v = true then (match j with
        | none => .nx (ρ.set i (.own (.dct false (dropKD kvs k))))
        | some j => .nx ((ρ.set i (.own (.dct false (dropKD kvs k)))).set j (.val v))) else .bad
      | none => .bad
    | none => .bad
  | _ => .bad
def mergeKD (kvs ls : List (Key × D)) : List (Key × D) := ls.foldl (fun acc kv => putKD acc kv.1 kv.2) kvs
/-- a dict at i takes what another has -/
def updS (ρ : List Sl) (i : Nat) (x : D) : Out := match ρ[i]? with
  | some (Sl.own (.dct false kvs)) => match x with
    | .dct true ls => if kvs.length + ls.length ≤ LIM then .nx (ρ.set i (.own (.dct false (mergeKD kvs ls)))) else .bad
    | _ => .bad
  | _ => .bad
/-- a list at i takes more -/
def appS (ρ : List Sl) (i : Nat) (ys : List D) : Out := match ρ[i]? with
  | some (Sl.own (.lst xs)) => if xs.length + ys.length ≤ LIM then .nx (ρ.set i (.own (.lst (xs ++ ys)))) else .bad
  | _ => .bad
def keyFit : Key → Bool
  | .inl _ => true
  | .inr x => decide (x.length ≤ LIM)
def putS (ρ : List Sl) (i : Nat) (k d : D) : Out := match ρ[i]?, k with
  | some (Sl.own (.lst xs)), .int j => match ixN xs.length j with
    | some n => .nx (ρ.set i (.own (.lst (xs.set n d))))
    | none => .bad
  | some (Sl.own (.dct false kvs)), k => match keyOf k with
    | some k' => if kvs.length < LIM ∧ keyFit k' = true then .nx (ρ.set i (.own (.dct false (putKD kvs k' d)))) else .bad
    | none => .bad
  | some (Sl.own (.dtn false kvs)), k => if okN kvs k = true ∧ kvs.length < LIM then .nx (ρ.set i (.own (.dtn false (putN kvs k d)))) else .bad
  | _, _ => .bad
mutual
noncomputable def evS (C : Ctx) : S → List Sl → Out
  | .set i o e, ρ => (ev C e ρ).out ρ fun p => if o = true then (if p.2 = true then .nx (ρ.set i (.own p.1)) else .bad) else .nx (ρ.set i (.val p.1))
  | .unp is e, ρ => (ev C e ρ).out ρ fun p => match Tg.bind (.many is) p.1 ρ with
    | some ρ' => .nx ρ'
    | none => .bad
  | .exp e, ρ => (ev C e ρ).out ρ fun _ => .nx ρ
  | .app i e, ρ => ownL ρ i ((ev C e ρ).out ρ fun p => appS ρ i [p.1])
  | .ext i e, ρ => ownL ρ i ((ev C e ρ).out ρ fun p => match p.1 with
    | .lst ys => appS ρ i ys
    | _ => .bad)
  | .put i k e, ρ => ownP ρ i ((ev C e ρ).out ρ fun p => (ev C k ρ).out ρ fun q => putS ρ i q.1 p.1)
  | .pop2 i k d, ρ => ownD ρ i ((ev C k ρ).out ρ fun p => (ev C d ρ).out ρ fun _ => popS ρ i p.1)
  | .pop1 j i k, ρ => ownD ρ i ((ev C k ρ).out ρ fun p => popV ρ j i p.1)
  | .clr i, ρ => match ρ[i]? with
    | some (Sl.own (.lst _)) => .nx (ρ.set i (.own (.lst [])))
    | _ => .bad
  | .upd i e, ρ => ownD ρ i ((ev C e ρ).out ρ fun p => updS ρ i p.1)
  | .ret e, ρ => (ev C e ρ).out ρ fun p => .ret p.1 p.2
  | .retv i, ρ => match ρ[i]? with
    | some (Sl.own d) => .ret d true
    | _ => .bad
  | .retN, _ => .ret .non false
  | .ite c a b, ρ => (evT C c ρ).out ρ fun k => if k = true then evSs C a ρ else evSs C b ρ
  | .whl c b, ρ => wLoop (evT C c) (evSs C b) ρ
  | .fr tg it b, ρ => (evIt C it ρ).out ρ fun ds => fLoop tg (evSs C b) ds ρ
  | .brk, ρ => .brk ρ
  | .pas, ρ => .nx ρ
  | .rai c, ρ => .exc c ρ
  | .try1 c b h, ρ => match evSs C b ρ with
    | .exc r ρ' => match C.inf.exm.lookup (r, c) with
      | some true => evS C h ρ'
      | some false => .exc r ρ'
      | none => .bad
    | o => o
  | .tryK c b i j, ρ => match evSs C b ρ with
    | .exc r ρ' => match C.inf.exm.lookup (r, c) with
      | some true => .nx ((ρ'.set j (.val (.exc r))).set i .no)
      | some false => .exc r ρ'
      | none => .bad
    | o => o
  | .frz is s, ρ => evS C s (thaw is ρ)
  | .frzL i s, ρ => evS C s (thawL ρ i)
noncomputable def evSs (C : Ctx) : Ss → List Sl → Out
  | .nil, ρ => .nx ρ
  | .any, _ => .bad
  | .cons s ss, ρ => (evS C s ρ).seq (evSs C ss)
end
/-- a def's end -/
def Out.fin : Out → R
  | .nx _ => .ok (.non, false)
  | .ret d fr => .ok (d, fr)
  | .exc c _ => .exc c
  | _ => .bad
@[simp] theorem Out.fin_nx (ρ : List Sl) : (Out.nx ρ).fin = .ok (.non, false) := rfl
@[simp] theorem Out.fin_ret (d : D) (b : Bool) : (Out.ret d b).fin = .ok (d, b) := rfl
@[simp] theorem Out.fin_exc (c : Str) (ρ : List Sl) : (Out.exc c ρ).fin = .exc c := rfl
@[simp] theorem Out.fin_ite {c : Prop} [Decidable c] (x y : Out) : (if c then x else y).fin = if c then x.fin else y.fin := by split <;> rfl
/-- a def of the text -/
structure Fi where
  nm : Str
  pl : Nat
  ps : List Str
  N : List Str
  body : Ss
/-- the program: its defs, told to a depth -/
noncomputable def run (I : Inf) (fs : List Fi) : Nat → Str → List D → R
  | 0, _, _ => .bad
  | n + 1, f, ds => match fs.find? fun x => decide (x.nm = f) with
    | some fi => if ds.length = fi.ps.length then (evSs ⟨run I fs n, I⟩ fi.body (ds.map Sl.val ++ List.replicate (fi.N.length - ds.length) .no)).fin else .bad
    | none => if f = Str.empty then (match n with | 0 => .bad | _ + 1 => .ok (.non, false)) else .bad
end DL

namespace DL
open PySem PySem.Spec L2

abbrev Own := Addr → Prop
def Dom (O : Own) (H : Hp) : Prop := ∀ a, O a → ∃ o, H a = some o
def OwnAt (G : Gd) (O : Own) (H : Hp) (d : D) (a : Addr) : Prop := match d with
  | .lst ds => ∃ vs, H a = some (.lst vs) ∧ ds.length ≤ sizeLine ∧ Reps G O H ds vs
  | .dct false kvs => ∃ ws, H a = some (.dK ws) ∧ kvs.length ≤ sizeLine ∧ RepK G O H kvs ws ∧ ∀ kv ∈ kvs, ∀ x, kv.1 = Sum.inr x → x.length ≤ sizeLine
  | .dtn false kvs => ∃ ws, H a = some (DN G.w a ws) ∧ kvs.length ≤ sizeLine ∧ RepN G O H kvs ws
  | _ => False
/-- the value of an expression: seen, or new -/
def PV (G : Gd) (O : Own) (H0 H : Hp) (d : D) : Bool → V → Prop
  | false, v => Rep G O H d v
  | true, v => ∃ a, v = .ref a ∧ H0 a = none ∧ OwnAt G (ins1 O a) H d a
def PF (G : Gd) (O : Own) (H : Hp) (E : XK) (r : R) (Q : VK) : Prop := match r with
  | .ok p => ∀ v H', Same H H' → PV G O H H' p.1 p.2 v → Q v H'
  | .exc c => ∀ H' cv, Same H H' → G.mg c = some cv → E cv none H'
  | .bad => False
/-- of what is no value but something made of values -/
def PFa {α : Type} (G : Gd) (H : Hp) (E : XK) (r : Rz α) (Q : α → Hp → Prop) : Prop := match r with
  | .ok p => ∀ H', Same H H' → Q p H'
  | .exc c => ∀ H' cv, Same H H' → G.mg c = some cv → E cv none H'
  | .bad => False
structure Ag (G : Gd) (O : Own) (ρ : List Sl) (σ : St) (H : Hp) : Prop where
  dom : Dom O H
  len : ρ.length = σ.length
  val : ∀ (i : Nat) (d : D), ρ[i]? = some (Sl.val d) → ∃ v, σ[i]? = some (some v) ∧ Rep G O H d v
  own : ∀ (i : Nat) (d : D), ρ[i]? = some (Sl.own d) → ∃ a, σ[i]? = some (some (.ref a)) ∧ O a ∧ OwnAt G O H d a
  inj : ∀ (i j : Nat) (d e : D) (a : Addr), i ≠ j → ρ[i]? = some (Sl.own d) → ρ[j]? = some (Sl.own e) → σ[i]? = some (some (.ref a)) → σ[j]? ≠ some (some (.ref a))
abbrev WE' (W : WX) (σ : St) : XK := fun cv d H => W cv d σ H
def tE (G : Gd) (W : WX) (m : List Sl → R) : TE := fun σ H Q => ∃ ρ O, Ag G O ρ σ H ∧ PF G O H (WE' W σ) (m ρ) Q
def tT (G : Gd) (W : WX) (m : List Sl → Rz Bool) : TT := fun σ H Q => ∃ ρ O, Ag G O ρ σ H ∧ PFa G H (WE' W σ) (m ρ) Q
def tA (G : Gd) (W : WX) (m : List Sl → Rz (List D)) : TA := fun σ H Q => ∃ ρ O, Ag G O ρ σ H ∧ PFa G H (WE' W σ) (m ρ) fun ds H' => ∀ vs, Reps G O H' ds vs → Q vs H'

section
variable {G : Gd} {O O' : Own} {H H' H0 H1 : Hp} {d : D} {v : V} {a : Addr} {fr : Bool} {r : R} {E : XK} {Q Q' : VK} {ρ : List Sl} {σ : St} {W : WX}
theorem Dom.same (h : Dom O H) (e : Same H H') : Dom O H' := fun a z => let ⟨o, q⟩ := h a z; ⟨o, e a o q⟩
theorem Dom.free (h : Dom O H) (n : H a = none) : ¬ O a := fun z => by obtain ⟨o, q⟩ := h a z; rw [n] at q; cases q
theorem OwnAt.ext (e : ∀ b o, H b = some o → (¬ O b ∨ b = a) → H' b = some o ∧ (b ≠ a → ¬ O' b)) (h : OwnAt G O H d a) (ho : O a) : OwnAt G O' H' d a := by
  cases d with
  | lst ds =>
    obtain ⟨vs, h1, h2, h3⟩ := h
    exact ⟨vs, (e a _ h1 (.inr rfl)).1, h2, Reps.ext (fun b o x n => ⟨(e b o x (.inl n)).1, (e b o x (.inl n)).2 fun z => n (z ▸ ho)⟩) ds vs h3⟩
  | dct lk kvs =>
    cases lk with
    | true => exact h.elim
    | false =>
      obtain ⟨ws, h1, h2, h3, h5⟩ := h
      exact ⟨ws, (e a _ h1 (.inr rfl)).1, h2, RepK.ext (fun b o x n => ⟨(e b o x (.inl n)).1, (e b o x (.inl n)).2 fun z => n (z ▸ ho)⟩) kvs ws h3, h5⟩
  | dtn lk kvs =>
    cases lk with
    | true => exact h.elim
    | false =>
      obtain ⟨ws, h1, h2, h3⟩ := h
      exact ⟨ws, (e a _ h1 (.inr rfl)).1, h2, RepN.ext (fun b o x n => ⟨(e b o x (.inl n)).1, (e b o x (.inl n)).2 fun z => n (z ▸ ho)⟩) kvs ws h3⟩
  | _ => exact h.elim
theorem OwnAt.same (e : Same H H') (h : OwnAt G O H d a) : OwnAt G O H' d a := by
  cases d with
  | lst ds => obtain ⟨vs, h1, h2, h3⟩ := h; exact ⟨vs, e _ _ h1, h2, h3.same e⟩
  | dct lk kvs =>
    cases lk with
    | true => exact h.elim
    | false => obtain ⟨ws, h1, h2, h3, h5⟩ := h; exact ⟨ws, e _ _ h1, h2, RepK.ext (fun a o x n => ⟨e a o x, n⟩) _ _ h3, h5⟩
  | dtn lk kvs =>
    cases lk with
    | true => exact h.elim
    | false => obtain ⟨ws, h1, h2, h3⟩ := h; exact ⟨ws, e _ _ h1, h2, RepN.ext (fun a o x n => ⟨e a o x, n⟩) _ _ h3⟩
  | _ => exact h.elim
/-- an owned thing, let go -/
theorem OwnAt.rep (hO : ¬ O' a) (e : ∀ b, O' b → O b) (h : OwnAt G O H d a) : Rep G O' H d (.ref a) := by
  cases d with
  | lst ds => obtain ⟨vs, h1, h2, h3⟩ := h; exact ⟨a, vs, rfl, ⟨.inl h1, hO⟩, h2, h3.less e⟩
  | dct lk kvs =>
    cases lk with
    | true => exact h.elim
    | false => obtain ⟨ws, h1, h2, h3, h5⟩ := h; exact ⟨a, ws, rfl, ⟨.inl h1, hO⟩, h2, RepK.ext (fun b o x n => ⟨x, fun z => n (e b z)⟩) _ _ h3, h5⟩
  | dtn lk kvs =>
    cases lk with
    | true => exact h.elim
    | false => obtain ⟨ws, h1, h2, h3⟩ := h; exact ⟨a, ws, rfl, ⟨.inl h1, hO⟩, h2, RepN.ext (fun b o x n => ⟨x, fun z => n (e b z)⟩) _ _ h3⟩
  | _ => exact h.elim
theorem PV.rep (hd : Dom O H0) (h : PV G O H0 H d fr v) : Rep G O H d v := by
  cases fr with
  | false => exact h
  | true =>
    obtain ⟨a, rfl, n, q⟩ := h
    exact q.rep (hd.free n) (fun b z => .inl z)
theorem PV.same (e : Same H H') (h : PV G O H0 H d fr v) : PV G O H0 H' d fr v := by
  cases fr with
  | false => exact Rep.same e h
  | true => obtain ⟨a, rfl, n, q⟩ := h; exact ⟨a, rfl, n, q.same e⟩
/-- new since a later heap is new since an earlier one -/
theorem PV.early (e : Same H0 H1) (h : PV G O H1 H d fr v) : PV G O H0 H d fr v := by
  cases fr with
  | false => exact h
  | true => obtain ⟨a, rfl, n, q⟩ := h; exact ⟨a, rfl, e.free n, q⟩
theorem PF.later (e : Same H H1) (h : PF G O H E r Q) : PF G O H1 E r Q := by
  cases r with
  | ok p => exact fun v H' s q => h v H' (e.trans s) (q.early e)
  | exc c => exact fun H' cv s m => h H' cv (e.trans s) m
  | bad => exact h
theorem PFa.later {α : Type} {r : Rz α} {Q : α → Hp → Prop} (e : Same H H1) (h : PFa G H E r Q) : PFa G H1 E r Q := by
  cases r with
  | ok p => exact fun H' s => h H' (e.trans s)
  | exc c => exact fun H' cv s m => h H' cv (e.trans s) m
  | bad => exact h
theorem PF.mono (m : ∀ v H', Q v H' → Q' v H') (h : PF G O H E r Q) : PF G O H E r Q' := by
  cases r with
  | ok p => exact fun v H' s q => m _ _ (h v H' s q)
  | exc c => exact h
  | bad => exact h
theorem PF.bind {f : D × Bool → R} (h : PF G O H E (r.bind f) Q) : PF G O H E r fun v H' => ∃ p : D × Bool, Same H H' ∧ PV G O H H' p.1 p.2 v ∧ PF G O H' E (f p) Q := by
  cases r with
  | ok p => exact fun v H' s q => ⟨p, s, q, PF.later s h⟩
  | exc c => exact h
  | bad => exact h
theorem PFa.bindV {α : Type} {f : D × Bool → Rz α} {Q : α → Hp → Prop} (h : PFa G H E (r.bind f) Q) : PF G O H E r fun v H' => ∃ p : D × Bool, Same H H' ∧ PV G O H H' p.1 p.2 v ∧ PFa G H' E (f p) Q := by
  cases r with
  | ok p => exact fun v H' s q => ⟨p, s, q, PFa.later s h⟩
  | exc c => exact h
  | bad => exact h
theorem PF.bindA {α : Type} {r : Rz α} {f : α → R} (h : PF G O H E (r.bind f) Q) : PFa G H E r fun p H' => Same H H' ∧ PF G O H' E (f p) Q := by
  cases r with
  | ok p => exact fun H' s => ⟨s, PF.later s h⟩
  | exc c => exact h
  | bad => exact h
theorem PFa.bind {α β : Type} {r : Rz α} {f : α → Rz β} {Q : β → Hp → Prop} (h : PFa G H E (r.bind f) Q) : PFa G H E r fun p H' => Same H H' ∧ PFa G H' E (f p) Q := by
  cases r with
  | ok p => exact fun H' s => ⟨s, PFa.later s h⟩
  | exc c => exact h
  | bad => exact h
theorem PFa.mono {α : Type} {r : Rz α} {Q Q' : α → Hp → Prop} (m : ∀ v H', Q v H' → Q' v H') (h : PFa G H E r Q) : PFa G H E r Q' := by
  cases r with
  | ok p => exact fun H' s => m _ _ (h H' s)
  | exc c => exact h
  | bad => exact h
theorem PF.ok_bl {b : Bool} (h : PF G O H E (dBl b) Q) : Q (.bl b) H := h _ _ (Same.refl _) rfl
theorem PF.ok_int {i : Int} (h : PF G O H E (dInt i) Q) : Q (.int i) H := h _ _ (Same.refl _) rfl
theorem Ag.same (e : Same H H') (h : Ag G O ρ σ H) : Ag G O ρ σ H' :=
  ⟨h.dom.same e, h.len, fun i d q => let ⟨v, a, b⟩ := h.val i d q; ⟨v, a, b.same e⟩, fun i d q => let ⟨a, b, c, z⟩ := h.own i d q; ⟨a, b, c, z.same e⟩, h.inj⟩
/-- a list is lent: it is owned no more -/
theorem Ag.thaw1 {i : Nat} (h : Ag G O ρ σ H) : ∃ O', (∀ a, O' a → O a) ∧ (∀ a, O a → ¬ O' a → ∃ d, OwnAt G O H d a ∧ ρ[i]? = some (Sl.own d) ∧ σ[i]? = some (some (V.ref a))) ∧ Ag G O' (thaw1 ρ i) σ H := by
  unfold DL.thaw1
  cases e : ρ[i]? with
  | none => exact ⟨O, fun _ z => z, fun _ z n => absurd z n, h⟩
  | some s =>
    cases s with
    | no => exact ⟨O, fun _ z => z, fun _ z n => absurd z n, h⟩
    | val d => exact ⟨O, fun _ z => z, fun _ z n => absurd z n, h⟩
    | own d =>
      obtain ⟨p, hp, hO, hw⟩ := h.own i d e
      have hi : i < ρ.length := (List.getElem?_eq_some_iff.mp e).1
      refine ⟨fun a => O a ∧ a ≠ p, fun a z => z.1, fun a z n => ?_, fun a z => h.dom a z.1, by simpa using h.len, fun j d' q => ?_, fun j d' q => ?_, fun j k d' e' a hjk q1 q2 => ?_⟩
      · have : a = p := Classical.byContradiction fun z' => n ⟨z, z'⟩
        subst this
        exact ⟨d, hw, rfl, hp⟩
      · by_cases hj : j = i
        · subst hj
          rw [List.getElem?_set_self hi] at q
          cases q
          exact ⟨_, hp, hw.rep (fun z => z.2 rfl) (fun b z => z.1)⟩
        · rw [List.getElem?_set_ne (Ne.symm hj)] at q
          obtain ⟨v, a, b⟩ := h.val j d' q
          exact ⟨v, a, b.less fun b z => z.1⟩
      · by_cases hj : j = i
        · subst hj
          rw [List.getElem?_set_self hi] at q
          cases q
        · rw [List.getElem?_set_ne (Ne.symm hj)] at q
          obtain ⟨a, b, c, z⟩ := h.own j d' q
          have hne : a ≠ p := fun z => h.inj j i d' d a hj q e b (by rw [z]; exact hp)
          exact ⟨a, b, ⟨c, hne⟩, z.ext (fun b o x _ => ⟨x, fun hb zz => by
            rename_i hh
            rcases hh with hh | hh
            · exact hh zz.1
            · exact hb hh⟩) c⟩
      · have f : ∀ {j : Nat} {d' : D}, (ρ.set i (.val d))[j]? = some (.own d') → ρ[j]? = some (.own d') := fun {j d'} q => by
          by_cases hj : j = i
          · subst hj
            rw [List.getElem?_set_self hi] at q
            cases q
          · rwa [List.getElem?_set_ne (Ne.symm hj)] at q
        exact h.inj j k d' e' a hjk (f q1) (f q2)
theorem Ag.thaw {is : List Nat} (h : Ag G O ρ σ H) : ∃ O', (∀ a, O' a → O a) ∧ (∀ a, O a → ¬ O' a → ∃ d O1, OwnAt G O1 H d a) ∧ Ag G O' (thaw is ρ) σ H := by
  induction is generalizing ρ O with
  | nil => exact ⟨O, fun _ z => z, fun _ z n => absurd z n, h⟩
  | cons i is ih =>
    obtain ⟨O1, a1, b1, h1⟩ := h.thaw1 (i := i)
    obtain ⟨O2, a2, b2, h2⟩ := ih h1
    refine ⟨O2, fun a z => a1 a (a2 a z), fun a z n => ?_, h2⟩
    by_cases q : O1 a
    · exact b2 a q n
    · obtain ⟨d, x, _⟩ := b1 a z q
      exact ⟨d, O, x⟩
end
mutual
theorem Rep.hard {G : Gd} {O O' : Own} {H : Hp} (e : ∀ a, O' a → O a ∨ ∀ vs, H a ≠ some (.tup vs)) : ∀ (d : D) (v : V), hard d = true → Rep G O H d v → Rep G O' H d v
  | .non, _, _, h => h
  | .bl _, _, _, h => h
  | .int _, _, _, h => h
  | .str _, _, _, h => h
  | .tup ds, v, q, h => by
    obtain ⟨a, vs, rfl, h1, h2, h3⟩ := h
    refine ⟨a, vs, rfl, ?_, h2, Reps.hard e ds vs q h3⟩
    rcases h1 with ⟨h1, h4⟩ | h1
    · exact .inl ⟨h1, fun z => (e a z).elim h4 fun z => z _ h1⟩
    · exact .inr h1
  | .lst _, _, q, _ => by cases q
  | .dct _ _, _, q, _ => by cases q
  | .ins _ _, _, q, _ => by cases q
  | .exc _, _, q, _ => by cases q
  | .kl _, _, q, _ => by cases q
theorem Reps.hard {G : Gd} {O O' : Own} {H : Hp} (e : ∀ a, O' a → O a ∨ ∀ vs, H a ≠ some (.tup vs)) : ∀ (ds : List D) (vs : List V), hards ds = true → Reps G O H ds vs → Reps G O' H ds vs
  | [], _, _, h => h
  | d :: ds, _, q, h => by
    obtain ⟨v, r, rfl, h1, h2⟩ := h
    have q' : DL.hard d = true ∧ hards ds = true := by simpa [hards] using q
    exact ⟨v, r, rfl, Rep.hard e d v q'.1 h1, Reps.hard e ds r q'.2 h2⟩
end
theorem RepK.hard {G : Gd} {O O' : Own} {H : Hp} (e : ∀ a, O' a → O a ∨ ∀ vs, H a ≠ some (.tup vs)) : ∀ (ds : List (Key × D)) (vs : List (Key × V)), hards (ds.map (·.2)) = true → RepK G O H ds vs → RepK G O' H ds vs
  | [], _, _, h => h
  | (k, d) :: ds, _, q, h => by
    obtain ⟨v, r, rfl, h1, h2⟩ := h
    have q' : DL.hard d = true ∧ hards (ds.map (·.2)) = true := by simpa [hards] using q
    exact ⟨v, r, rfl, Rep.hard e d v q'.1 h1, RepK.hard e ds r q'.2 h2⟩
section
variable {G : Gd} {O O' : Own} {H H' H0 H1 : Hp} {d : D} {v : V} {a : Addr} {fr : Bool} {r : R} {E : XK} {Q Q' : VK} {ρ : List Sl} {σ : St} {W : WX}
theorem PF.lent (hO : ∀ a, O' a → O a) (hb : ∀ a, O a → ¬ O' a → ∃ d O1, OwnAt G O1 H d a) (hd : Dom O H) (h : PF G O H E (r.bind lentOk) Q) : PF G O' H E r Q := by
  cases r with
  | exc c => exact h
  | bad => exact h
  | ok p =>
    obtain ⟨d, fr⟩ := p
    intro v H' s q
    have key : ∀ a, O a → O' a ∨ ∀ vs, H' a ≠ some (.tup vs) := fun a z => by
      by_cases q : O' a
      · exact .inl q
      · obtain ⟨d, O1, w⟩ := hb a z q
        refine .inr fun vs e => ?_
        cases d with
        | lst ds => obtain ⟨ws, w1, _⟩ := w; have := s _ _ w1; rw [e] at this; cases this
        | dct lk ds =>
          cases lk with
          | true => exact w
          | false => obtain ⟨ws, w1, _⟩ := w; have := s _ _ w1; rw [e] at this; cases this
        | dtn lk ds =>
          cases lk with
          | true => exact w
          | false => obtain ⟨ws, w1, _⟩ := w; have := s _ _ w1; rw [e] at this; cases this
        | _ => exact w
    have hd' : Dom O' H := fun a z => hd a (hO a z)
    have h' : PF G O H E (lentOk (d, fr)) Q := h
    unfold lentOk at h'
    by_cases hh : hard d = true
    · simp only [hh, if_true] at h'
      refine h' v H' s ?_
      exact Rep.hard key d v hh (q.rep hd')
    · simp only [hh, if_false, Bool.false_eq_true] at h'
      cases d with
      | lst ds =>
        cases fr with
        | false => exact h'.elim
        | true =>
          by_cases h2 : hards ds = true
          · simp only [h2, if_true] at h'
            refine h' v H' s ?_
            obtain ⟨a, rfl, n, vs, w1, w2, w3⟩ := q
            refine ⟨a, rfl, n, vs, w1, w2, Reps.hard (fun b z => ?_) ds vs h2 w3⟩
            rcases z with z | z
            · exact (key b z).elim (fun z => .inl (.inl z)) .inr
            · exact .inl (.inr z)
          · simp only [h2, if_false, Bool.false_eq_true] at h'
            exact h'.elim
      | dct lk kvs =>
        cases lk with
        | true => cases fr <;> exact h'.elim
        | false =>
          cases fr with
          | false => exact h'.elim
          | true =>
            by_cases h2 : hards (kvs.map (·.2)) = true
            · simp only [h2, if_true] at h'
              refine h' v H' s ?_
              obtain ⟨a, rfl, n, ws, w1, w2, w3, w4⟩ := q
              refine ⟨a, rfl, n, ws, w1, w2, RepK.hard (fun b z => ?_) kvs ws h2 w3, w4⟩
              rcases z with z | z
              · exact (key b z).elim (fun z => .inl (.inl z)) .inr
              · exact .inl (.inr z)
            · simp only [h2, if_false, Bool.false_eq_true] at h'
              exact h'.elim
      | _ => exact h'.elim
end
end DL

namespace DL
open PySem PySem.Spec L2

def Bop.op : Bop → Operator
  | .add => .Add | .sub => .Sub | .mul => .Mult | .fdiv => .FloorDiv | .mod => .Mod | .pow => .Pow
def Cop.op : Cop → CmpOp
  | .eq => .Eq | .ne => .NotEq | .lt => .Lt | .le => .LtE | .gt => .Gt | .ge => .GtE | .isN => .Is | .notN => .IsNot | .isIn => .In | .notIn => .NotIn | .isB => .Is | .notB => .IsNot

abbrev gd (X : Cx) : Gd := ⟨X.K, X.mg, X.w⟩
/-- an operation on values, by data -/
def rB (G : Gd) (f : D → D → R) : R2 := fun x y H Q => ∃ (O : Own) (d e : D) (E : XK), Rep G O H d x ∧ Rep G O H e y ∧ Dom O H ∧ PF G O H E (f d e) Q

theorem limE : LIM = sizeLine := LIM_eq
section
variable {X : Cx}
theorem op_mulB : OpR X (binaryOp .Mult) (rI MulOk fun i j => .int (i * j)) := opI fun _ _ _ _ _ _ _ hc q => PyProof.Rows.mul_int q (hc.elim CMul.ok CMulW.ok)
theorem op_divB : OpR X (binaryOp .FloorDiv) (rI DivOk fun i j => .int (i.fdiv j)) := opI fun i j _ _ _ _ _ hc q => by
  rcases hc with ⟨h1, h2⟩ | ⟨h1, h2⟩
  · exact PyProof.Rows.floordiv_int (by omega) q (.inl (PyProof.noPylong_of_log2 h2))
  · exact PyProof.Rows.floordiv_int h1 q (.inl (PyProof.noPylong_small h2))
/-- + of two lists -/
theorem op_catL : OpR X (binaryOp .Add) (fun x y H Q => ∃ p q xs ys, x = .ref p ∧ y = .ref q ∧ Rd H p (.lst xs) ∧ Rd H q (.lst ys) ∧ xs.length + ys.length ≤ sizeLine ∧ ∀ l, H l = none → Q (.ref l) (upd H l (.lst (xs ++ ys)))) := by
  intro pins s σ H x y v u Q I rx ry h
  obtain ⟨p, q, xs, ys, rfl, rfl, hx, hy, hz, k⟩ := h
  cases rx; cases ry
  obtain ⟨z, its, n, r, e⟩ := hx.ok I.hok
  obtain ⟨z2, its2, n2, r2, e2⟩ := hy.ok I.hok
  have e1 := r.length
  have e3 := r2.length
  refine PySem.P.add_list e e2 ?_ (by rw [List.size_toArray, List.size_toArray]; omega)
  have ea : its.toArray ++ its2.toArray = (its ++ its2).toArray := by simp
  rw [ea]
  exact ⟨.ref _, _, I.lnew (t' := s.toks) (r.append r2) (by rw [List.length_append]; omega), rfl, k _ I.fresh⟩
theorem rd_rep {G : Gd} {O : Own} {H : Hp} {ds : List D} {v : V} (h : Rep G O H (.lst ds) v) : ∃ a vs, v = .ref a ∧ Rd H a (.lst vs) ∧ ds.length ≤ sizeLine ∧ Reps G O H ds vs := by
  obtain ⟨a, vs, e, h1, h2, h3⟩ := h
  exact ⟨a, vs, e, h1.1, h2, h3⟩
theorem bop_ok (o : Bop) : OpR X (binaryOp o.op) (rB (gd X) (binD o)) := by
  intro pins s σ H x y v u Q I rx ry h
  obtain ⟨O, d, e, E, hd, he, dm, h⟩ := h
  cases o with
  | add =>
    cases d with
    | int i =>
      cases e with
      | int j => cases hd; cases he; exact op_add pins s σ H _ _ v u Q I rx ry ⟨i, j, rfl, rfl, h.ok_int⟩
      | _ => exact h.elim
    | str i =>
      cases e with
      | str j =>
        obtain ⟨rfl, hi⟩ := hd
        obtain ⟨rfl, hj⟩ := he
        simp only [binD] at h
        split at h
        · rename_i hz
          refine op_add_str pins s σ H _ _ v u Q I rx ry ⟨i, j, rfl, rfl, by rw [limE] at hz; exact hz, h _ _ (Same.refl _) ⟨rfl, ?_⟩⟩
          rw [limE] at hz
          have : (i ++ j).length = i.length + j.length := by
            show (Str.cps (i ++ j)).size = _
            show (i.cps ++ j.cps).size = _
            rw [Array.size_append]
            rfl
          omega
        · exact h.elim
      | _ => exact h.elim
    | lst xs =>
      cases e with
      | lst ys =>
        obtain ⟨a, vs, rfl, h1, h2, h3⟩ := rd_rep hd
        obtain ⟨b, ws, rfl, k1, k2, k3⟩ := rd_rep he
        simp only [binD] at h
        split at h
        · rename_i hz
          rw [limE] at hz
          have l1 := h3.length
          have l2 := k3.length
          refine op_catL pins s σ H _ _ v u Q I rx ry ⟨a, b, vs, ws, rfl, rfl, h1, k1, by omega, fun l hl => ?_⟩
          have sm : Same H (upd H l (.lst (vs ++ ws))) := fun c o q => by rw [upd_ne (ne_of_none q hl)]; exact q
          refine h _ _ sm ⟨l, rfl, hl, vs ++ ws, upd_same, by rw [List.length_append]; exact hz, ?_⟩
          exact ((h3.append k3).more hl).same sm
        · exact h.elim
      | _ => exact h.elim
    | _ => cases e <;> exact h.elim
  | sub =>
    cases d with
    | int i =>
      cases e with
      | int j => cases hd; cases he; exact op_sub pins s σ H _ _ v u Q I rx ry ⟨i, j, rfl, rfl, h.ok_int⟩
      | _ => exact h.elim
    | _ => cases e <;> exact h.elim
  | mul =>
    cases d with
    | int i =>
      cases e with
      | int j =>
        cases hd; cases he
        simp only [binD] at h
        split at h
        · exact op_mulB pins s σ H _ _ v u Q I rx ry ⟨i, j, rfl, rfl, by assumption, h.ok_int⟩
        · exact h.elim
      | _ => exact h.elim
    | _ => cases e <;> exact h.elim
  | fdiv =>
    cases d with
    | int i =>
      cases e with
      | int j =>
        cases hd; cases he
        simp only [binD] at h
        split at h
        · exact op_divB pins s σ H _ _ v u Q I rx ry ⟨i, j, rfl, rfl, by assumption, h.ok_int⟩
        · exact h.elim
      | _ => exact h.elim
    | _ => cases e <;> exact h.elim
  | mod =>
    cases d with
    | int i =>
      cases e with
      | int j =>
        cases hd; cases he
        simp only [binD] at h
        split at h
        · exact h.elim
        · exact op_modN pins s σ H _ _ v u Q I rx ry ⟨i, j, rfl, rfl, by assumption, h.ok_int⟩
      | _ => exact h.elim
    | _ => cases e <;> exact h.elim
  | pow =>
    cases d with
    | int i =>
      cases e with
      | int j =>
        cases hd; cases he
        simp only [binD] at h
        split at h
        · exact op_pow pins s σ H _ _ v u Q I rx ry ⟨i, j, rfl, rfl, by assumption, h.ok_int⟩
        · exact h.elim
      | _ => exact h.elim
    | _ => cases e <;> exact h.elim

end
/-! ### data as the kit has it -/
theorem toPs_cons {d : D} {ds : List D} {ps : List PyData} (h : toPs (d :: ds) = some ps) : ∃ p qs, ps = p :: qs ∧ toP d = some p ∧ toPs ds = some qs := by
  unfold toPs at h
  split at h
  · cases h; exact ⟨_, _, rfl, by assumption, by assumption⟩
  · cases h
mutual
theorem eqv_toP : ∀ (d e : D) (p q : PyData), toP d = some p → toP e = some q → PyData.eqv p q = eqD d e
  | .tup ds, .tup es, p, q, h, k => by
    simp only [toP, Option.map_eq_some_iff] at h k
    obtain ⟨ps, h1, rfl⟩ := h
    obtain ⟨qs, k1, rfl⟩ := k
    show PyData.eqvAll ps qs = eqDs ds es
    exact eqvs_toP ds es ps qs h1 k1
  | .lst ds, .lst es, p, q, h, k => by
    simp only [toP, Option.map_eq_some_iff] at h k
    obtain ⟨ps, h1, rfl⟩ := h
    obtain ⟨qs, k1, rfl⟩ := k
    show PyData.eqvAll ps qs = eqDs ds es
    exact eqvs_toP ds es ps qs h1 k1
  | .non, e, p, q, h, k => by
    cases h
    cases e <;> first | (cases k; rfl) | (simp only [toP, Option.map_eq_some_iff] at k; obtain ⟨qs, _, rfl⟩ := k; rfl) | cases k
  | .bl _, e, p, q, h, k => by
    cases h
    cases e <;> first | (cases k; rfl) | (simp only [toP, Option.map_eq_some_iff] at k; obtain ⟨qs, _, rfl⟩ := k; rfl) | cases k
  | .int _, e, p, q, h, k => by
    cases h
    cases e <;> first | (cases k; rfl) | (simp only [toP, Option.map_eq_some_iff] at k; obtain ⟨qs, _, rfl⟩ := k; rfl) | cases k
  | .str _, e, p, q, h, k => by
    cases h
    cases e <;> first | (cases k; rfl) | (simp only [toP, Option.map_eq_some_iff] at k; obtain ⟨qs, _, rfl⟩ := k; rfl) | cases k
  | .tup _, .non, p, q, h, k => by
    simp only [toP, Option.map_eq_some_iff] at h; obtain ⟨ps, _, rfl⟩ := h; cases k; rfl
  | .tup _, .bl _, p, q, h, k => by
    simp only [toP, Option.map_eq_some_iff] at h; obtain ⟨ps, _, rfl⟩ := h; cases k; rfl
  | .tup _, .int _, p, q, h, k => by
    simp only [toP, Option.map_eq_some_iff] at h; obtain ⟨ps, _, rfl⟩ := h; cases k; rfl
  | .tup _, .str _, p, q, h, k => by
    simp only [toP, Option.map_eq_some_iff] at h; obtain ⟨ps, _, rfl⟩ := h; cases k; rfl
  | .tup _, .lst _, p, q, h, k => by
    simp only [toP, Option.map_eq_some_iff] at h k; obtain ⟨ps, _, rfl⟩ := h; obtain ⟨qs, _, rfl⟩ := k; rfl
  | .lst _, .non, p, q, h, k => by
    simp only [toP, Option.map_eq_some_iff] at h; obtain ⟨ps, _, rfl⟩ := h; cases k; rfl
  | .lst _, .bl _, p, q, h, k => by
    simp only [toP, Option.map_eq_some_iff] at h; obtain ⟨ps, _, rfl⟩ := h; cases k; rfl
  | .lst _, .int _, p, q, h, k => by
    simp only [toP, Option.map_eq_some_iff] at h; obtain ⟨ps, _, rfl⟩ := h; cases k; rfl
  | .lst _, .str _, p, q, h, k => by
    simp only [toP, Option.map_eq_some_iff] at h; obtain ⟨ps, _, rfl⟩ := h; cases k; rfl
  | .lst _, .tup _, p, q, h, k => by
    simp only [toP, Option.map_eq_some_iff] at h k; obtain ⟨ps, _, rfl⟩ := h; obtain ⟨qs, _, rfl⟩ := k; rfl
  | .tup _, .dct _ _, p, q, h, k => by cases k
  | .tup _, .ins _ _, p, q, h, k => by cases k
  | .tup _, .exc _, p, q, h, k => by cases k
  | .lst _, .dct _ _, p, q, h, k => by cases k
  | .lst _, .ins _ _, p, q, h, k => by cases k
  | .lst _, .exc _, p, q, h, k => by cases k
  | .tup _, .kl _, p, q, h, k => by cases k
  | .lst _, .kl _, p, q, h, k => by cases k
  | .kl _, _, p, q, h, k => by cases h
  | .dct _ _, _, p, q, h, k => by cases h
  | .ins _ _, _, p, q, h, k => by cases h
  | .exc _, _, p, q, h, k => by cases h
theorem eqvs_toP : ∀ (ds es : List D) (ps qs : List PyData), toPs ds = some ps → toPs es = some qs → PyData.eqvAll ps qs = eqDs ds es
  | [], [], ps, qs, h, k => by cases h; cases k; rfl
  | [], e :: es, ps, qs, h, k => by cases h; obtain ⟨q, r, rfl, _, _⟩ := toPs_cons k; rfl
  | d :: ds, [], ps, qs, h, k => by cases k; obtain ⟨q, r, rfl, _, _⟩ := toPs_cons h; rfl
  | d :: ds, e :: es, ps, qs, h, k => by
    obtain ⟨p, r, rfl, h1, h2⟩ := toPs_cons h
    obtain ⟨q, t, rfl, k1, k2⟩ := toPs_cons k
    show (PyData.eqv p q && PyData.eqvAll r t) = (eqD d e && eqDs ds es)
    rw [eqv_toP d e p q h1 k1, eqvs_toP ds es r t h2 k2]
end
mutual
theorem cmpOk_toP : ∀ (n : Nat) (d : D), cmpOk n d = true → ∃ p, toP d = some p ∧ p.canLay0 = true ∧ p.depth ≤ n
  | n, .non, _ => ⟨_, rfl, rfl, Nat.zero_le _⟩
  | n, .bl _, _ => ⟨_, rfl, rfl, Nat.zero_le _⟩
  | n, .int _, _ => ⟨_, rfl, rfl, Nat.zero_le _⟩
  | n, .str x, h => ⟨.str x, rfl, by cases n <;> exact h, Nat.zero_le _⟩
  | 0, .tup _, h => by cases h
  | 0, .lst _, h => by cases h
  | n + 1, .tup ds, h => by
    obtain ⟨ps, h1, h2, h3⟩ := cmpOks_toP n ds h
    exact ⟨.tuple ps, by rw [toP, h1]; rfl, h2, Nat.succ_le_succ h3⟩
  | n + 1, .lst ds, h => by
    obtain ⟨ps, h1, h2, h3⟩ := cmpOks_toP n ds h
    exact ⟨.list ps, by rw [toP, h1]; rfl, h2, Nat.succ_le_succ h3⟩
  | n, .dct _ _, h => by cases n <;> cases h
  | n, .ins _ _, h => by cases n <;> cases h
  | n, .exc _, h => by cases n <;> cases h
  | n, .kl _, h => by cases n <;> cases h
theorem cmpOks_toP : ∀ (n : Nat) (ds : List D), cmpOks n ds = true → ∃ ps, toPs ds = some ps ∧ PyData.canLayAll0 ps = true ∧ PyData.depthAll ps ≤ n
  | n, [], _ => ⟨[], rfl, rfl, Nat.zero_le _⟩
  | n, d :: ds, h => by
    have h' : cmpOk n d = true ∧ cmpOks n ds = true := by simpa [cmpOks] using h
    obtain ⟨p, a1, a2, a3⟩ := cmpOk_toP n d h'.1
    obtain ⟨ps, b1, b2, b3⟩ := cmpOks_toP n ds h'.2
    refine ⟨p :: ps, by rw [toPs, a1, b1], ?_, ?_⟩
    · show (p.canLay0 && PyData.canLayAll0 ps) = true
      rw [a2, b2]; rfl
    · show max p.depth (PyData.depthAll ps) ≤ n
      omega
end
mutual
theorem Rep.dp {G : Gd} {O : Own} {H : Hp} : ∀ (d : D) (v : V) (p : PyData), toP d = some p → Rep G O H d v → Dp G.K H v p
  | .non, v, p, h, k => by cases h; cases k; exact .non
  | .bl _, v, p, h, k => by cases h; cases k; exact .bl _
  | .int _, v, p, h, k => by cases h; cases k; exact .int _
  | .str _, v, p, h, k => by cases h; obtain ⟨rfl, _⟩ := k; exact .str _
  | .tup ds, v, p, h, k => by
    simp only [toP, Option.map_eq_some_iff] at h
    obtain ⟨ps, h1, rfl⟩ := h
    obtain ⟨a, vs, rfl, h2, h3, h4⟩ := k
    refine .tup ?_ (Reps.dp ds vs ps h1 h4)
    rcases h2 with ⟨h2, _⟩ | h2
    · exact .inl (.inl h2)
    · exact .inr h2
  | .lst ds, v, p, h, k => by
    simp only [toP, Option.map_eq_some_iff] at h
    obtain ⟨ps, h1, rfl⟩ := h
    obtain ⟨a, vs, rfl, h2, h3, h4⟩ := k
    exact .lst (.inl h2.1) (Reps.dp ds vs ps h1 h4)
  | .dct _ _, v, p, h, k => by cases h
  | .ins _ _, v, p, h, k => by cases h
  | .exc _, v, p, h, k => by cases h
  | .kl _, v, p, h, k => by cases h
theorem Reps.dp {G : Gd} {O : Own} {H : Hp} : ∀ (ds : List D) (vs : List V) (ps : List PyData), toPs ds = some ps → Reps G O H ds vs → DpAll G.K H vs ps
  | [], vs, ps, h, k => by cases h; cases k; exact .nil
  | d :: ds, vs, ps, h, k => by
    obtain ⟨p, r, rfl, h1, h2⟩ := toPs_cons h
    obtain ⟨v, s, rfl, k1, k2⟩ := k
    exact .cons (Rep.dp d v p h1 k1) (Reps.dp ds s r h2 k2)
end
theorem scalD_scal {G : Gd} {O : Own} {H : Hp} {d e : D} {x y : V} (h : scalD d e = true) (hd : Rep G O H d x) (he : Rep G O H e y) : scal x y = true ∧ decide (x = y) = eqD d e := by
  cases d <;> cases e <;> first
    | exact absurd (show false = true from h) Bool.false_ne_true
    | (cases hd; cases he; exact ⟨rfl, by first | rfl | (simp [eqD]; done) | (rw [Bool.eq_iff_iff]; simp [eqD])⟩)
    | (obtain ⟨rfl, _⟩ := hd; cases he; exact ⟨rfl, by first | rfl | (simp [eqD]; done) | (rw [Bool.eq_iff_iff]; simp [eqD])⟩)
    | (obtain ⟨rfl, _⟩ := he; cases hd; exact ⟨rfl, by first | rfl | (simp [eqD]; done) | (rw [Bool.eq_iff_iff]; simp [eqD])⟩)
    | (obtain ⟨rfl, _⟩ := hd; obtain ⟨rfl, _⟩ := he; exact ⟨rfl, by first | rfl | (simp [eqD]; done) | (rw [Bool.eq_iff_iff]; simp [eqD])⟩)
theorem same1_rep {G : Gd} {O O' : Own} {H : Hp} {d e : D} {v w : V} (h : same1 d e = true) (r : Rep G O H d v) (r' : Rep G O' H e w) : w = v ∧ L2.flatB v = true := by
  cases d <;> cases e <;> first | (cases h; done) | skip
  · cases r; cases r'
    exact ⟨by rw [of_decide_eq_true h], rfl⟩
  · cases r; cases r'
    exact ⟨by rw [of_decide_eq_true h], rfl⟩
  · obtain ⟨rfl, _⟩ := r
    obtain ⟨rfl, _⟩ := r'
    exact ⟨by rw [of_decide_eq_true h], rfl⟩
theorem dct_hits {G : Gd} {O O' : Own} {H : Hp} {ls : List (Key × D)} {us : List (Key × V)} (ru : RepK G O' H ls us) : ∀ {ks : List (Key × D)} {ws : List (Key × V)}, RepK G O H ks ws →
    (ks.all fun p => match lookKD ls p.1 with | some d => same1 p.2 d | none => false) = true → ∀ p ∈ ws, L2.valV us p.1 = some p.2 ∧ L2.flatB p.2 = true
  | [], _, rfl, _ => fun p hp => by cases hp
  | (k, d) :: ks, _, ⟨v, s, rfl, h1, h2⟩, hall => fun p hp => by
    rw [List.all_cons, Bool.and_eq_true] at hall
    rcases List.mem_cons.mp hp with z | z
    · subst z
      have q := hall.1
      rcases ru.get (k := k) with ⟨g1, g2⟩ | ⟨w, d', g1, g2, g3⟩
      · unfold lookKD at q
        rw [g2] at q
        cases q
      · unfold lookKD at q
        rw [g2] at q
        obtain ⟨e, f⟩ := same1_rep q h1 g3
        exact ⟨by rw [g1, e], f⟩
    · exact dct_hits ru h2 hall.2 p z
theorem eqDct_rep {G : Gd} {O O' : Own} {H : Hp} {d e : D} {x y : V} (h : eqDct d e = true) (r : Rep G O H d x) (r' : Rep G O' H e y) : ∃ a b ks ls, x = .ref a ∧ y = .ref b ∧ Rd H a (.dK ks) ∧ Rd H b (.dK ls) ∧ ks.length = ls.length ∧ ∀ p ∈ ks, L2.valV ls p.1 = some p.2 ∧ L2.flatB p.2 = true := by
  cases d <;> cases e <;> first | (cases h; done) | skip
  obtain ⟨a, ws, rfl, ⟨k1, _⟩, k2, k3, k4⟩ := r
  obtain ⟨b, us, rfl, ⟨l1, _⟩, l2, l3, l4⟩ := r'
  unfold eqDct at h
  rw [Bool.and_eq_true] at h
  exact ⟨a, b, ws, us, rfl, rfl, k1.rd, l1.rd, by rw [k3.length, l3.length]; exact of_decide_eq_true h.1, dct_hits l3 k3 h.2⟩
section
variable {X : Cx}
theorem op_eqDc (hu : X.A.units < cLine) : OpR X (compareOp .Eq) (fun x y H Q => (∃ a b ks ls, x = .ref a ∧ y = .ref b ∧ Rd H a (.dK ks) ∧ Rd H b (.dK ls) ∧ ks.length = ls.length ∧ ∀ p ∈ ks, L2.valV ls p.1 = some p.2 ∧ L2.flatB p.2 = true) ∧ Q (.bl true) H) := by
  intro pins s σ H x y v u Q I rx ry h
  obtain ⟨⟨a, b, ks, ls, rfl, rfl, ea, eb, hlen, hp⟩, q⟩ := h
  obtain rfl : v = Value.ref a := rx
  obtain rfl : u = Value.ref b := ry
  obtain ⟨_, ya, va, ra, da⟩ := dk_rd I.hok ea
  obtain ⟨_, yb, vb, rb, db⟩ := dk_rd I.hok eb
  have hl : va.length = vb.length := by rw [← ra.length, ← rb.length]; exact hlen
  exact PySem.W.keq_eq (knd := mixKind X.prog X.w) (r := true) ya yb da db hu (fun _ => hits_all rb ra hp) (fin_bl I q (by simp [hl]))
theorem op_neDc (hu : X.A.units < cLine) : OpR X (compareOp .NotEq) (fun x y H Q => (∃ a b ks ls, x = .ref a ∧ y = .ref b ∧ Rd H a (.dK ks) ∧ Rd H b (.dK ls) ∧ ks.length = ls.length ∧ ∀ p ∈ ks, L2.valV ls p.1 = some p.2 ∧ L2.flatB p.2 = true) ∧ Q (.bl false) H) := by
  intro pins s σ H x y v u Q I rx ry h
  obtain ⟨⟨a, b, ks, ls, rfl, rfl, ea, eb, hlen, hp⟩, q⟩ := h
  obtain rfl : v = Value.ref a := rx
  obtain rfl : u = Value.ref b := ry
  obtain ⟨_, ya, va, ra, da⟩ := dk_rd I.hok ea
  obtain ⟨_, yb, vb, rb, db⟩ := dk_rd I.hok eb
  have hl : va.length = vb.length := by rw [← ra.length, ← rb.length]; exact hlen
  exact PySem.W.keq_ne (knd := mixKind X.prog X.w) (r := true) ya yb da db hu (fun _ => hits_all rb ra hp) (fin_bl I q (by simp [hl]))
end
section
variable {X : Cx}
theorem eq_ok (hu : X.A.units + 64 < cLine) : OpR X (compareOp .Eq) (rB (gd X) (cmpD .eq)) := by
  intro pins s σ H x y v u Q I rx ry h
  obtain ⟨O, d, e, E, hd, he, dm, h⟩ := h
  simp only [cmpD] at h
  split at h
  · rename_i hz
    exact op_eqDc (by omega) pins s σ H x y v u Q I rx ry ⟨eqDct_rep hz hd he, h.ok_bl⟩
  split at h
  · rename_i hz
    unfold eqOk at hz
    by_cases hs : scalD d e = true
    · obtain ⟨q1, q2⟩ := scalD_scal hs hd he
      exact op_eq pins s σ H x y v u Q I rx ry ⟨q1, by rw [q2]; exact h.ok_bl⟩
    · simp only [hs, Bool.false_or, Bool.and_eq_true, Bool.false_eq_true] at hz
      obtain ⟨p, a1, a2, a3⟩ := cmpOk_toP _ _ hz.1
      obtain ⟨q, b1, b2, b3⟩ := cmpOk_toP _ _ hz.2
      refine op_eqD hu pins s σ H x y v u Q I rx ry ⟨p, q, Rep.dp d x p a1 hd, Rep.dp e y q b1 he, ?_, ?_, ?_⟩
      · simp [SeqAt.shaped, a2, a3]
      · simp [SeqAt.shaped, b2, b3]
      · rw [eqv_toP d e p q a1 b1]; exact h.ok_bl
  · exact h.elim
theorem ne_ok (hu : X.A.units + 64 < cLine) : OpR X (compareOp .NotEq) (rB (gd X) (cmpD .ne)) := by
  intro pins s σ H x y v u Q I rx ry h
  obtain ⟨O, d, e, E, hd, he, dm, h⟩ := h
  simp only [cmpD] at h
  split at h
  · rename_i hz
    exact op_neDc (by omega) pins s σ H x y v u Q I rx ry ⟨eqDct_rep hz hd he, h.ok_bl⟩
  split at h
  · rename_i hz
    unfold eqOk at hz
    by_cases hs : scalD d e = true
    · obtain ⟨q1, q2⟩ := scalD_scal hs hd he
      exact op_ne pins s σ H x y v u Q I rx ry ⟨q1, by rw [q2]; exact h.ok_bl⟩
    · simp only [hs, Bool.false_or, Bool.and_eq_true, Bool.false_eq_true] at hz
      obtain ⟨p, a1, a2, a3⟩ := cmpOk_toP _ _ hz.1
      obtain ⟨q, b1, b2, b3⟩ := cmpOk_toP _ _ hz.2
      refine op_neD hu pins s σ H x y v u Q I rx ry ⟨p, q, Rep.dp d x p a1 hd, Rep.dp e y q b1 he, ?_, ?_, ?_⟩
      · simp [SeqAt.shaped, a2, a3]
      · simp [SeqAt.shaped, b2, b3]
      · rw [eqv_toP d e p q a1 b1]; exact h.ok_bl
  · exact h.elim
theorem Rep.non_iff {G : Gd} {O : Own} {H : Hp} {d : D} {v : V} (h : Rep G O H d v) : decide (v = .non) = (match d with | .non => true | _ => false) := by
  cases d with
  | non => cases h; rfl
  | bl _ => cases h; rfl
  | int _ => cases h; rfl
  | str _ => obtain ⟨rfl, _⟩ := h; rfl
  | tup _ => obtain ⟨a, _, rfl, _⟩ := h; rfl
  | lst _ => obtain ⟨a, _, rfl, _⟩ := h; rfl
  | dct _ _ => obtain ⟨a, _, rfl, _⟩ := h; rfl
  | ins _ _ => obtain ⟨a, _, _, _, rfl, _⟩ := h; rfl
  | exc _ => obtain ⟨a, _, rfl, _⟩ := h; rfl
  | dtn _ _ => obtain ⟨a, _, rfl, _⟩ := h; rfl
  | kl _ => obtain ⟨a, _, rfl, _⟩ := h; rfl
theorem flat_V {G : Gd} {O : Own} {H : Hp} {d : D} {v : V} (h : Rep G O H d v) (f : flat d = true) : flatV v = true := by
  cases d <;> first | (cases f; done) | (cases h; rfl) | (obtain ⟨rfl, _⟩ := h; rfl)
theorem flat_eqV {G : Gd} {O : Own} {H : Hp} {d e : D} {v w : V} (h : Rep G O H d v) (k : Rep G O H e w) (f : flat d = true) (g : flat e = true) : eqV v w = eqD d e := by
  cases d <;> first | (cases f; done) | skip
  all_goals cases e <;> first | (cases g; done) | skip
  all_goals first
    | (cases h; cases k; first | rfl | (simp [eqV, eqD]; done))
    | (obtain ⟨rfl, _⟩ := h; cases k; first | rfl | (simp [eqV, eqD]; done))
    | (obtain ⟨rfl, _⟩ := k; cases h; first | rfl | (simp [eqV, eqD]; done))
    | (obtain ⟨rfl, _⟩ := h; obtain ⟨rfl, _⟩ := k; first | rfl | (simp [eqV, eqD]; done))
theorem all_flat {G : Gd} {O : Own} {H : Hp} : ∀ {ds : List D} {vs : List V}, Reps G O H ds vs → ds.all flat = true → vs.all flatV = true
  | [], _, h, _ => by cases h; rfl
  | d :: ds, _, h, f => by
    obtain ⟨v, r, rfl, h1, h2⟩ := h
    rw [List.all_cons, Bool.and_eq_true] at f
    rw [List.all_cons, flat_V h1 f.1, all_flat h2 f.2]
    rfl
theorem in_eq {G : Gd} {O : Own} {H : Hp} {x : D} {v : V} (hx : Rep G O H x v) (fx : flat x = true) : ∀ {ds : List D} {vs : List V}, Reps G O H ds vs → ds.all flat = true → inV v vs = inD x ds
  | [], _, h, _ => by cases h; rfl
  | d :: ds, _, h, f => by
    obtain ⟨w, r, rfl, h1, h2⟩ := h
    rw [List.all_cons, Bool.and_eq_true] at f
    have ih := in_eq hx fx h2 f.2
    unfold inV inD at ih ⊢
    rw [List.any_cons, List.any_cons, flat_eqV h1 hx f.1 fx, ih]
theorem key_V {G : Gd} {O : Own} {H : Hp} {d : D} {v : V} {k : Key} (h : Rep G O H d v) (e : keyOf d = some k) : v = kV k := by
  cases d with
  | int i => cases h; cases e; rfl
  | str x => obtain ⟨rfl, _⟩ := h; cases e; rfl
  | _ => cases e
theorem dget_rep {G : Gd} {O : Own} {H : Hp} {lk : Bool} {kvs : List (Key × D)} {a : Addr} {ws : List (Key × V)} {k : Key} (h1 : DkAt lk H a ws) (h3 : RepK G O H kvs ws) : ∃ o, DGet H a (kV k) o ∧ o.isSome = (lookKD kvs k).isSome ∧ (∀ d, lookKD kvs k = some d → ∃ v, o = some v ∧ Rep G O H d v) ∧ (lookKD kvs k = none → o = none) := by
  unfold lookKD
  rcases h3.get (k := k) with ⟨e1, e2⟩ | ⟨v, d, e1, e2, e3⟩
  · refine ⟨none, .inl ⟨ws, k, h1.rd, rfl, e1.symm⟩, by rw [e2]; rfl, fun d z => ?_, fun _ => rfl⟩
    rw [e2] at z; cases z
  · refine ⟨some v, .inl ⟨ws, k, h1.rd, rfl, e1.symm⟩, by rw [e2]; rfl, fun d' z => ?_, fun z => ?_⟩
    · rw [e2] at z; cases z; exact ⟨v, rfl, e3⟩
    · rw [e2] at z; cases z
/-! ### dicts with nested keys -/
mutual
theorem keyN_of : ∀ d : D, isKey d = true → ∃ n, keyN d = some n ∧ n.depth = kdep d
  | .int i, _ => ⟨_, rfl, rfl⟩
  | .str x, _ => ⟨_, rfl, rfl⟩
  | .tup ds, h => by
    rw [isKey] at h
    obtain ⟨ns, h1, h2⟩ := keyNs_of ds h
    exact ⟨.tup ns, by rw [keyN, h1]; rfl, by rw [NestedKey.depth, kdep, h2]⟩
  | .non, h => by cases h
  | .bl _, h => by cases h
  | .lst _, h => by cases h
  | .dct _ _, h => by cases h
  | .ins _ _, h => by cases h
  | .exc _, h => by cases h
  | .kl _, h => by cases h
  | .dtn _ _, h => by cases h
theorem keyNs_of : ∀ ds : List D, isKeys ds = true → ∃ ns, keyNs ds = some ns ∧ NestedKey.depthAll ns = kdeps ds
  | [], _ => ⟨[], rfl, rfl⟩
  | d :: ds, h => by
    rw [isKeys, Bool.and_eq_true] at h
    obtain ⟨n, h1, h2⟩ := keyN_of d h.1
    obtain ⟨ns, h3, h4⟩ := keyNs_of ds h.2
    exact ⟨n :: ns, by rw [keyNs, h1, h3], by rw [NestedKey.depthAll, kdeps, h2, h4]⟩
end
mutual
theorem keyN_dep : ∀ (d : D) (n : NestedKey), keyN d = some n → n.depth = kdep d
  | .int i, n, h => by cases h; rfl
  | .str x, n, h => by cases h; rfl
  | .tup ds, n, h => by
    rw [keyN] at h
    cases e : keyNs ds with
    | none => rw [e] at h; cases h
    | some ns =>
      rw [e] at h
      cases h
      rw [NestedKey.depth, kdep, keyNs_dep ds ns e]
  | .non, _, h => by cases h
  | .bl _, _, h => by cases h
  | .lst _, _, h => by cases h
  | .dct _ _, _, h => by cases h
  | .ins _ _, _, h => by cases h
  | .exc _, _, h => by cases h
  | .kl _, _, h => by cases h
  | .dtn _ _, _, h => by cases h
theorem keyNs_dep : ∀ (ds : List D) (ns : List NestedKey), keyNs ds = some ns → NestedKey.depthAll ns = kdeps ds
  | [], ns, h => by cases h; rfl
  | d :: ds, ns, h => by
    rw [keyNs] at h
    cases e1 : keyN d with
    | none => rw [e1] at h; cases h
    | some n =>
      cases e2 : keyNs ds with
      | none => rw [e1, e2] at h; cases h
      | some ms =>
        rw [e1, e2] at h
        cases h
        rw [NestedKey.depthAll, kdeps, keyN_dep d n e1, keyNs_dep ds ms e2]
end
theorem beq_dec {α : Type} [BEq α] [LawfulBEq α] [DecidableEq α] (a b : α) : (a == b) = decide (a = b) := by
  by_cases h : a = b
  · subst h; simp
  · simp [h]
mutual
theorem eqD_keyN : ∀ (x y : D) (a b : NestedKey), keyN x = some a → keyN y = some b → eqD x y = NestedKey.beq a b
  | .int i, y, a, b, h, k => by
    cases h
    cases y with
    | int j => cases k; rw [eqD, NestedKey.beq]; exact beq_dec i j
    | str z => cases k; rfl
    | tup ds =>
      rw [keyN] at k
      cases e : keyNs ds with
      | none => rw [e] at k; cases k
      | some ns => rw [e] at k; cases k; rfl
    | _ => cases k
  | .str x, y, a, b, h, k => by
    cases h
    cases y with
    | int j => cases k; rfl
    | str z => cases k; rw [eqD, NestedKey.beq]; exact beq_dec x z
    | tup ds =>
      rw [keyN] at k
      cases e : keyNs ds with
      | none => rw [e] at k; cases k
      | some ns => rw [e] at k; cases k; rfl
    | _ => cases k
  | .tup xs, y, a, b, h, k => by
    rw [keyN] at h
    cases e : keyNs xs with
    | none => rw [e] at h; cases h
    | some ns =>
      rw [e] at h
      cases h
      cases y with
      | int j => cases k; rfl
      | str z => cases k; rfl
      | tup ys =>
        rw [keyN] at k
        cases e2 : keyNs ys with
        | none => rw [e2] at k; cases k
        | some ms => rw [e2] at k; cases k; rw [eqD, NestedKey.beq, eqDs_keyN xs ys ns ms e e2]
      | _ => cases k
  | .non, _, _, _, h, _ => by cases h
  | .bl _, _, _, _, h, _ => by cases h
  | .lst _, _, _, _, h, _ => by cases h
  | .dct _ _, _, _, _, h, _ => by cases h
  | .ins _ _, _, _, _, h, _ => by cases h
  | .exc _, _, _, _, h, _ => by cases h
  | .kl _, _, _, _, h, _ => by cases h
  | .dtn _ _, _, _, _, h, _ => by cases h
theorem eqDs_keyN : ∀ (xs ys : List D) (as bs : List NestedKey), keyNs xs = some as → keyNs ys = some bs → eqDs xs ys = NestedKey.beqAll as bs
  | [], ys, as, bs, h, k => by
    cases h
    cases ys with
    | nil => cases k; rfl
    | cons y ys =>
      rw [keyNs] at k
      cases e1 : keyN y with
      | none => rw [e1] at k; cases k
      | some n =>
        cases e2 : keyNs ys with
        | none => rw [e1, e2] at k; cases k
        | some ms => rw [e1, e2] at k; cases k; rfl
  | x :: xs, ys, as, bs, h, k => by
    rw [keyNs] at h
    cases e1 : keyN x with
    | none => rw [e1] at h; cases h
    | some n =>
      cases e2 : keyNs xs with
      | none => rw [e1, e2] at h; cases h
      | some ns =>
        rw [e1, e2] at h
        cases h
        cases ys with
        | nil => cases k; rfl
        | cons y ys =>
          rw [keyNs] at k
          cases e3 : keyN y with
          | none => rw [e3] at k; cases k
          | some m =>
            cases e4 : keyNs ys with
            | none => rw [e3, e4] at k; cases k
            | some ms => rw [e3, e4] at k; cases k; rw [eqDs, NestedKey.beqAll, eqD_keyN x y n m e1 e3, eqDs_keyN xs ys ns ms e2 e4]
end
theorem eqD_dec {x y : D} {a b : NestedKey} (h : keyN x = some a) (k : keyN y = some b) : eqD x y = decide (a = b) := by rw [eqD_keyN x y a b h k, NestedKey.decide_eq]
section
variable {P : Program} {w : World} {G : Gd} {O : Own} {H : Hp} {h : Heap}
mutual
theorem rep_nested (ok : HOk P w H h) (hk : G.K.In h) : ∀ (d : D) (n : NestedKey) (v : V) (u : Value), Rep G O H d v → keyN d = some n → RelV v u → NestedIs h n u
  | .int i, n, v, u, r, k, q => by
    cases k; cases r
    obtain ⟨t, rfl⟩ := q
    exact .int i t
  | .str x, n, v, u, r, k, q => by
    cases k
    obtain ⟨rfl, _⟩ := r
    obtain ⟨t, rfl⟩ := q
    exact .text x t
  | .tup ds, n, v, u, r, k, q => by
    rw [keyN] at k
    cases e : keyNs ds with
    | none => rw [e] at k; cases k
    | some ns =>
      rw [e] at k
      cases k
      obtain ⟨a, vs, rfl, h1, h2, h3⟩ := r
      cases (show u = Value.ref a from q)
      rcases h1 with ⟨h1, _⟩ | ⟨o, its, m, l1, l2, l3, _, l5⟩
      · obtain ⟨_, its, rv, o, q1, q2, m, q3⟩ := (show ObjOk P w H h a (.tup vs) from ok a _ h1)
        exact .tup q1 q2 q3 (by simpa using reps_nested ok hk ds ns vs its h3 e rv)
      · exact .tup (hk _ _ l1) l2 l3 (reps_nested ok hk ds ns vs its.toList h3 e l5)
  | .non, _, _, _, _, k, _ => by cases k
  | .bl _, _, _, _, _, k, _ => by cases k
  | .lst _, _, _, _, _, k, _ => by cases k
  | .dct _ _, _, _, _, _, k, _ => by cases k
  | .ins _ _, _, _, _, _, k, _ => by cases k
  | .exc _, _, _, _, _, k, _ => by cases k
  | .kl _, _, _, _, _, k, _ => by cases k
  | .dtn _ _, _, _, _, _, k, _ => by cases k
theorem reps_nested (ok : HOk P w H h) (hk : G.K.In h) : ∀ (ds : List D) (ns : List NestedKey) (vs : List V) (us : List Value), Reps G O H ds vs → keyNs ds = some ns → Vals vs us → NestedAll h ns us
  | [], ns, vs, us, r, k, q => by
    cases k; cases r; cases q
    exact .nil
  | d :: ds, ns, vs, us, r, k, q => by
    rw [keyNs] at k
    cases e1 : keyN d with
    | none => rw [e1] at k; cases k
    | some n =>
      cases e2 : keyNs ds with
      | none => rw [e1, e2] at k; cases k
      | some ms =>
        rw [e1, e2] at k
        cases k
        obtain ⟨v, s, rfl, r1, r2⟩ := r
        cases q with
        | cons q1 q2 => exact .cons (rep_nested ok hk d n v _ r1 e1 q1) (reps_nested ok hk ds ms s _ r2 e2 q2)
end
/-- what a dict with nested keys holds -/
theorem repN_look {n : NestedKey} {k : D} (hk : keyN k = some n) : ∀ {kvs : List (D × D)} {xs : List NEnt} {us : List (NestedKey × Addr × Value)}, RepN G O H kvs xs → KN xs us →
    (lookN kvs k = none ∧ atKey us n = none) ∨ ∃ d v b u, lookN kvs k = some d ∧ atKey us n = some (b, u) ∧ Rep G O H d v ∧ RelV v u
  | [], _, _, r, q => by cases r; cases q; exact .inl ⟨rfl, rfl⟩
  | (k0, d0) :: kvs, _, _, r, q => by
    obtain ⟨n0, b, v, s, rfl, e, r1, r2, r3⟩ := r
    cases q with
    | @cons _ y _ us h1 h2 =>
      obtain ⟨y1, y2, y3⟩ := y
      obtain ⟨g1, g2, g3⟩ := h1
      dsimp only at g1 g2 g3
      subst g1 g2
      have ed := eqD_dec e hk
      by_cases z : n0 = n
      · refine .inr ⟨d0, v, b, y3, ?_, ?_, r2, g3⟩
        · unfold lookN; rw [List.find?_cons_of_pos (by rw [ed]; exact decide_eq_true z)]; rfl
        · unfold atKey; rw [List.find?_cons_of_pos (by exact decide_eq_true z)]; rfl
      · rcases repN_look hk r3 h2 with ⟨a1, a2⟩ | ⟨d, v', b', u', a1, a2, a3, a4⟩
        · refine .inl ⟨?_, ?_⟩
          · unfold lookN; rw [List.find?_cons_of_neg (by rw [ed, decide_eq_false z]; exact Bool.false_ne_true)]; exact a1
          · unfold atKey; rw [List.find?_cons_of_neg (by simpa using z)]; exact a2
        · refine .inr ⟨d, v', b', u', ?_, ?_, a3, a4⟩
          · unfold lookN; rw [List.find?_cons_of_neg (by rw [ed, decide_eq_false z]; exact Bool.false_ne_true)]; exact a1
          · unfold atKey; rw [List.find?_cons_of_neg (by simpa using z)]; exact a2
/-- its keys stand in the heap -/
theorem repN_is (ok : HOk P w H h) (hk : G.K.In h) : ∀ {kvs : List (D × D)} {xs : List NEnt} {us : List (NestedKey × Addr × Value)}, RepN G O H kvs xs → KN xs us → ∀ x ∈ us, NestedIs h x.1 (.ref x.2.1) ∧ ∃ kv ∈ kvs, x.1.depth = kdep kv.1
  | [], _, _, r, q, x, hx => by cases r; cases q; cases hx
  | (k0, d0) :: kvs, _, _, r, q, x, hx => by
    obtain ⟨n0, b, v, s, rfl, e, r1, r2, r3⟩ := r
    cases q with
    | @cons _ y _ us h1 h2 =>
      obtain ⟨y1, y2, y3⟩ := y
      obtain ⟨g1, g2, g3⟩ := h1
      dsimp only at g1 g2 g3
      subst g1 g2
      rcases List.mem_cons.mp hx with z | z
      · subst z
        exact ⟨rep_nested ok hk k0 n0 _ _ r1 e rfl, (k0, d0), List.mem_cons_self, keyN_dep k0 n0 e⟩
      · obtain ⟨a1, kv, a2, a3⟩ := repN_is ok hk r3 h2 x z
        exact ⟨a1, kv, List.mem_cons_of_mem _ a2, a3⟩
theorem dn_rd {a : Addr} {w' : World} {xs : List NEnt} (ok : HOk P w H h) (e : Rd H a (DN w' a xs)) : ∃ o es ep us, h.get? a = some o ∧ o.ExactDict ∧ o.data = .dict es ep ∧ KN xs us ∧ es.toList = us.map (fun x : NestedKey × Addr × Value => ⟨x.1.hash w', .ref x.2.1, x.2.2⟩) ∧ (us.map (·.1)).Nodup ∧ (a == sysModules) = false := by
  obtain ⟨z, _, _⟩ := (show ObjOk P w H h a (DN w' a xs) from rd_of ok e)
  exact z
/-- as the kit's rules want it -/
theorem dn_dict {a : Addr} {kvs : List (D × D)} {xs : List NEnt} (ok : HOk P w H h) (hk : G.K.In h) (e : Rd H a (DN w a xs)) (r : RepN G O H kvs xs) (hd : (kvs.all fun kv => decide (kdep kv.1 ≤ 8)) = true) : ∃ us, KN xs us ∧ (a == sysModules) = false ∧ h.DictOfH (nestedKind P w) a us := by
  obtain ⟨o, es, ep, us, h1, h2, h3, h4, h5, h6, h7⟩ := dn_rd ok e
  refine ⟨us, h4, h7, o, es, ep, h1, h2, h3, h5, fun x hx => ?_, h6⟩
  obtain ⟨q1, kv, q2, q3⟩ := repN_is ok hk r h4 x hx
  exact ⟨q1, by rw [q3]; exact of_decide_eq_true (List.all_eq_true.mp hd kv q2)⟩
end
/-! an empty dict takes any key -/
section
variable {prog : Program} {w : World} {A : Around} {E : Value → Shared → Prop} {s : Shared}
theorem wpAny_dictFind_none {d a : Addr} {o : Obj} {ep : Nat} {hh : Int} {Q : Option Nat → Shared → Prop} (ho : s.heap.get? d = some o) (hd : o.data = .dict #[] ep) (h : Q none s) : wpAny (model prog w) A (dictFind d (.ref a) hh) Q E s := by
  unfold dictFind
  try with_reducible refine wpAny_holding ?_
  refine wpAny_bind (wpAny_dictEntries ho hd ?_)
  dsimp only
  rw [if_neg (show ¬ ((Value.ref a :: (placesWithHash (#[] : Array DictEntry).size (fun i => (#[] : Array DictEntry)[i]?.map (·.hash)) hh).filterMap (fun i => (#[] : Array DictEntry)[i]?.map (·.key))).all carriedByValue) = true by simp [carriedByValue])]
  rw [if_neg (by simp)]
  have e0 : placesWithHash (#[] : Array DictEntry).size (fun i => (#[] : Array DictEntry)[i]?.map (·.hash)) hh = [] := by simp [placesWithHash]
  rw [e0]
  rw [if_neg (by simp)]
  unfold tableMayTell
  refine wpAny_bind ?_
  rw [if_pos (by rfl)]
  refine wpAny_pure ?_
  rw [if_neg (by simp)]
  refine wpAny_bind ?_
  exact wpAny_forIn_list _ (fun rest b s' => s' = s ∧ b = (none, none) ∧ rest = []) _ (fun x rest b s' z => nomatch z.2.2) (fun b s' z => by obtain ⟨rfl, rfl, _⟩ := z; exact wpAny_pure h) _ _ ⟨rfl, rfl, rfl⟩
theorem wpAny_in_none {d a : Addr} {k : NestedKey} {o : Obj} {ep : Nat} {Q : Value → Shared → Prop} (hu : A.units + 1 + k.depth < cLine) (hkey : NestedIs s.heap k (.ref a)) (hd : (d == sysModules) = false) (ho : s.heap.get? d = some o) (hc : o.ExactDict) (hdt : o.data = .dict #[] ep)
    (h : Q (.bool false) { s with toks := s.toks + k.draws }) : wpAny (model prog w) A (compareOp .In (.ref a) (.ref d)) Q E s := by
  have hT : s.TypeIs (.ref d) "dict" := ⟨o, ho, hc.1⟩
  show wpAny _ _ (do return .bool (← contains (.ref d) (.ref a))) Q E s
  refine wpAny_bind ?_
  unfold contains
  try with_reducible refine wpAny_holding ?_
  refine wpAny_bind (wpAny_specialOf hT slot_dict_contains.lookup ?_)
  show wpAny _ _ (if (some (Value.builtin "dict.__contains__") == some Value.none) = true then _ else _) _ E s
  rw [if_neg (by rw [beq_builtin_none]; exact Bool.false_ne_true)]
  refine wpAny_bind (wpAny_callSpecialUnlessNone?_slot (name := Str.ofString "__contains__") hT slot_dict_contains
    (wpAny_call_entry slot_dict_contains hT entry_dict_contains ?_ (args_dict_contains _ _)))
  show wpAny _ _ (dictGet d (.ref a) >>= _) _ _ s
  refine wpAny_bind ?_
  unfold dictGet
  try with_reducible refine wpAny_holding ?_
  refine wpAny_bind (pyHash_key k _ _ s _ hkey (by show A.in1.units + _ < _; rw [Around.in1_units]; omega) (wpAny_bind (wpAny_dictFind_none (s := { s with toks := s.toks + k.draws }) ho hdt ?_)))
  refine wpAny_pure ?_
  show wpAny _ _ (Builtin.Dict.pendingKey? d (.ref a) >>= _) _ _ _
  exact wpAny_bind (wpAny_pendingKey_other hd (wpAny_pure ⟨_, rfl, wpAny_truthy_bool (wpAny_pure h)⟩))
theorem wpAny_notIn_none {d a : Addr} {k : NestedKey} {o : Obj} {ep : Nat} {Q : Value → Shared → Prop} (hu : A.units + 1 + k.depth < cLine) (hkey : NestedIs s.heap k (.ref a)) (hd : (d == sysModules) = false) (ho : s.heap.get? d = some o) (hc : o.ExactDict) (hdt : o.data = .dict #[] ep)
    (h : Q (.bool true) { s with toks := s.toks + k.draws }) : wpAny (model prog w) A (compareOp .NotIn (.ref a) (.ref d)) Q E s := by
  have hT : s.TypeIs (.ref d) "dict" := ⟨o, ho, hc.1⟩
  show wpAny _ _ (do return .bool (!(← contains (.ref d) (.ref a)))) Q E s
  refine wpAny_bind ?_
  unfold contains
  try with_reducible refine wpAny_holding ?_
  refine wpAny_bind (wpAny_specialOf hT slot_dict_contains.lookup ?_)
  show wpAny _ _ (if (some (Value.builtin "dict.__contains__") == some Value.none) = true then _ else _) _ E s
  rw [if_neg (by rw [beq_builtin_none]; exact Bool.false_ne_true)]
  refine wpAny_bind (wpAny_callSpecialUnlessNone?_slot (name := Str.ofString "__contains__") hT slot_dict_contains
    (wpAny_call_entry slot_dict_contains hT entry_dict_contains ?_ (args_dict_contains _ _)))
  show wpAny _ _ (dictGet d (.ref a) >>= _) _ _ s
  refine wpAny_bind ?_
  unfold dictGet
  try with_reducible refine wpAny_holding ?_
  refine wpAny_bind (pyHash_key k _ _ s _ hkey (by show A.in1.units + _ < _; rw [Around.in1_units]; omega) (wpAny_bind (wpAny_dictFind_none (s := { s with toks := s.toks + k.draws }) ho hdt ?_)))
  refine wpAny_pure ?_
  show wpAny _ _ (Builtin.Dict.pendingKey? d (.ref a) >>= _) _ _ _
  exact wpAny_bind (wpAny_pendingKey_other hd (wpAny_pure ⟨_, rfl, wpAny_truthy_bool (wpAny_pure h)⟩))
theorem wpAny_setItem_none {d a : Addr} {k : NestedKey} {o : Obj} {ep : Nat} {v : Value} {Q : Unit → Shared → Prop} (hu : A.units + 1 + k.depth < cLine) (hkey : NestedIs s.heap k (.ref a)) (ho : s.heap.get? d = some o) (hc : o.ExactDict) (hdt : o.data = .dict #[] ep)
    (hQ : ∀ h', (∃ o' ep', h'.get? d = some o' ∧ o'.ExactDict ∧ o'.data = .dict #[⟨k.hash w, .ref a, v⟩] ep') → Heap.SameBut d s.heap h' → Q () { s with heap := h', toks := s.toks + k.draws }) :
    wpAny (model prog w) A (setItem (.ref d) (.ref a) v) Q E s := by
  have hT : s.TypeIs (.ref d) "dict" := ⟨o, ho, hc.1⟩
  unfold setItem
  try with_reducible refine wpAny_holding ?_
  refine wpAny_bind (wpAny_sequenceKey hT (by decide) ?_)
  refine wpAny_bind (wpAny_callSpecial?_slot (name := Str.ofString "__setitem__") hT slot_dict_setitem
    (wpAny_call_entry slot_dict_setitem hT entry_dict_setitem ?_ (args_dict_setitem _ _ _)))
  show wpAny _ _ (Builtin.Dict.notOrdered "__setitem__" ⟨[.ref d, .ref a, v], []⟩ >>= _) _ _ s
  refine wpAny_bind (wpAny_notOrdered_dict hT ?_)
  show wpAny _ _ (dictSet d (.ref a) v >>= _) _ _ s
  refine wpAny_bind ?_
  unfold dictSet
  try with_reducible refine wpAny_holding ?_
  refine wpAny_bind (pyHash_key k _ _ s _ hkey (by show A.in1.units + _ < _; rw [Around.in1_units]; omega) ?_)
  unfold dictSetHashed
  try with_reducible refine wpAny_holding ?_
  refine wpAny_bind (wpAny_dictFind_none (s := { s with toks := s.toks + k.draws }) ho hdt ?_)
  refine wpAny_bind (wpAny_rule (wpAny_updateDictKeys (hz := Nat.zero_le _) (s := { s with toks := s.toks + k.draws }) ho hdt ?_))
  refine wpAny_pure ⟨.none, rfl, wpAny_pure (hQ _ ⟨_, ep + 1, Heap.get?_update_self _ ho (Obj.isFreed_of_dict (Obj.data_mapDictKeys hdt _)), hc.mapDictKeys _, ?_⟩ (Heap.SameBut.update ..))⟩
  rw [Obj.data_mapDictKeys hdt _]
  rfl
end
section
variable {X : Cx} {pins : List (Addr × Obj)} {σ : St} {H : Hp} {s : Shared} {a : Addr} {u r : Value} {A : Around} {E : Value → Shared → Prop} {O : Own} {kvs : List (D × D)} {xs : List NEnt} {d e : D} {x v : V} {lk : Bool}
theorem okN_key (h : okN kvs d = true) : ∃ n, keyN d = some n ∧ n.depth = kdep d ∧ ∃ ds, d = .tup ds := by
  unfold okN at h
  rw [Bool.and_eq_true] at h
  cases d with
  | tup ds =>
    obtain ⟨n, h1, h2⟩ := keyN_of (.tup ds) (by rw [isKey]; exact h.1)
    exact ⟨n, h1, h2, ds, rfl⟩
  | _ => cases h.1
theorem tup_ref {G : Gd} {ds : List D} (h : Rep G O H (.tup ds) x) (ru : RelV x u) : ∃ b, x = .ref b ∧ u = .ref b := by
  obtain ⟨b, _, rfl, _⟩ := h
  exact ⟨b, rfl, ru⟩
theorem okN_empty (h : okN [] d = true) : kdep d ≤ 40 := by
  unfold okN at h
  rw [Bool.and_eq_true] at h
  have := h.2
  simpa using this
theorem okN_more (h : okN kvs d = true) (hne : kvs ≠ []) : kdep d ≤ 8 ∧ (kvs.all fun kv => decide (kdep kv.1 ≤ 8)) = true := by
  unfold okN at h
  rw [Bool.and_eq_true] at h
  have := h.2
  rw [if_neg (by rw [List.isEmpty_iff]; exact hne), Bool.and_eq_true] at this
  exact ⟨of_decide_eq_true this.1, this.2⟩
theorem dn_empty (I : Inv X pins σ H s) (h1 : Rd H a (DN X.w a xs)) (r : RepN (gd X) O H [] xs) : ∃ o ep, s.heap.get? a = some o ∧ o.ExactDict ∧ o.data = .dict #[] ep ∧ (a == sysModules) = false := by
  cases r
  obtain ⟨o, es, ep, us, h1, h2, h3, h4, h5, h6, h7⟩ := dn_rd I.hok h1
  cases h4
  have : es = #[] := by
    apply Array.ext'
    simpa using h5
  subst this
  exact ⟨o, ep, h1, h2, h3, h7⟩
theorem d_inN {Q : Value → Shared → Prop} (hu : A.units + 63 < cLine) (I : Inv X pins σ H s) (h1 : Rd H a (DN X.w a xs)) (r : RepN (gd X) O H kvs xs) (hk : okN kvs d = true) (hd : Rep (gd X) O H d x) (ru : RelV x u) (h : ∀ s', Inv X pins σ H s' → Q (.bool (lookN kvs d).isSome) s') :
    wpAny (model X.prog X.w) A (compareOp .In u (.ref a)) Q E s := by
  obtain ⟨n, e1, e2, ds, rfl⟩ := okN_key hk
  have hn := rep_nested I.hok I.kIn _ n _ _ hd e1 ru
  obtain ⟨b, rfl, rfl⟩ := tup_ref hd ru
  by_cases hne : kvs = []
  · subst hne
    obtain ⟨o, ep, g1, g2, g3, g4⟩ := dn_empty I h1 r
    have := okN_empty hk
    exact wpAny_in_none (by rw [e2]; omega) hn g4 g1 g2 g3 (h _ (I.tok _))
  · obtain ⟨hs1, hs2⟩ := okN_more hk hne
    obtain ⟨us, k1, k2, k3⟩ := dn_dict I.hok I.kIn h1 r hs2
    refine wpAny_in_heap (knd := nestedKind X.prog X.w) (by show A.in1.units + 8 < _; rw [Around.in1_units]; omega) ⟨hn, by rw [e2]; exact hs1⟩ k2 k3 ?_
    rcases repN_look e1 r k1 with ⟨l1, l2⟩ | ⟨d', v', b', u', l1, l2, _, _⟩
    · rw [l2]; have := h _ (I.tok (s.toks + (nestedKind X.prog X.w).draws n)); rw [l1] at this; exact this
    · rw [l2]; have := h _ (I.tok (s.toks + (nestedKind X.prog X.w).draws n)); rw [l1] at this; exact this
theorem d_notInN {Q : Value → Shared → Prop} (hu : A.units + 63 < cLine) (I : Inv X pins σ H s) (h1 : Rd H a (DN X.w a xs)) (r : RepN (gd X) O H kvs xs) (hk : okN kvs d = true) (hd : Rep (gd X) O H d x) (ru : RelV x u) (h : ∀ s', Inv X pins σ H s' → Q (.bool (!(lookN kvs d).isSome)) s') :
    wpAny (model X.prog X.w) A (compareOp .NotIn u (.ref a)) Q E s := by
  obtain ⟨n, e1, e2, ds, rfl⟩ := okN_key hk
  have hn := rep_nested I.hok I.kIn _ n _ _ hd e1 ru
  obtain ⟨b, rfl, rfl⟩ := tup_ref hd ru
  by_cases hne : kvs = []
  · subst hne
    obtain ⟨o, ep, g1, g2, g3, g4⟩ := dn_empty I h1 r
    have := okN_empty hk
    exact wpAny_notIn_none (by rw [e2]; omega) hn g4 g1 g2 g3 (h _ (I.tok _))
  · obtain ⟨hs1, hs2⟩ := okN_more hk hne
    obtain ⟨us, k1, k2, k3⟩ := dn_dict I.hok I.kIn h1 r hs2
    refine PyProof.Rows.wpAny_notIn_heap (knd := nestedKind X.prog X.w) (by show A.in1.units + 8 < _; rw [Around.in1_units]; omega) ⟨hn, by rw [e2]; exact hs1⟩ k2 k3 ?_
    rcases repN_look e1 r k1 with ⟨l1, l2⟩ | ⟨d', v', b', u', l1, l2, _, _⟩
    · rw [l2]; have := h _ (I.tok (s.toks + (nestedKind X.prog X.w).draws n)); rw [l1] at this; exact this
    · rw [l2]; have := h _ (I.tok (s.toks + (nestedKind X.prog X.w).draws n)); rw [l1] at this; exact this
theorem d_getN {Q : Value → Shared → Prop} (hu : A.units + 63 < cLine) (I : Inv X pins σ H s) (h1 : Rd H a (DN X.w a xs)) (r : RepN (gd X) O H kvs xs) (hk : okN kvs d = true) (hd : Rep (gd X) O H d x) (ru : RelV x u) (hl : lookN kvs d = some e) (h : ∀ v w' s', Inv X pins σ H s' → Rep (gd X) O H e v → RelV v w' → Q w' s') :
    wpAny (model X.prog X.w) A (getItem (.ref a) u) Q E s := by
  obtain ⟨n, e1, e2, ds, rfl⟩ := okN_key hk
  have hn := rep_nested I.hok I.kIn _ n _ _ hd e1 ru
  obtain ⟨b, rfl, rfl⟩ := tup_ref hd ru
  have hne : kvs ≠ [] := fun z => by rw [z] at hl; cases hl
  obtain ⟨hs1, hs2⟩ := okN_more hk hne
  obtain ⟨us, k1, k2, k3⟩ := dn_dict I.hok I.kIn h1 r hs2
  rcases repN_look e1 r k1 with ⟨l1, l2⟩ | ⟨d', v', b', u', l1, l2, l3, l4⟩
  · rw [hl] at l1; cases l1
  · rw [hl] at l1
    cases l1
    exact wpAny_getItem_heap (knd := nestedKind X.prog X.w) (by show A.in1.units + 8 < _; rw [Around.in1_units]; omega) ⟨hn, by rw [e2]; exact hs1⟩ k3 l2 (h v' u' _ (I.tok _) l3 l4)
def putX (xs : List NEnt) (n : NestedKey) (b : Addr) (v : V) : List NEnt := if (xs.any fun x => decide (x.1 = n)) = true then xs.map (fun x => if x.1 = n then (x.1, x.2.1, v) else x) else xs ++ [(n, b, v)]
theorem kn_any {n : NestedKey} : ∀ {xs : List NEnt} {us : List (NestedKey × Addr × Value)}, KN xs us → (xs.any fun x => decide (x.1 = n)) = (atKey us n).isSome
  | _, _, .nil => rfl
  | _, _, @Paired.cons _ _ _ p q ps qs h t => by
    obtain ⟨g1, g2, g3⟩ := h
    have ih := kn_any (n := n) t
    rw [List.any_cons, ih]
    unfold atKey
    by_cases z : q.1 = n
    · rw [List.find?_cons_of_pos (by exact decide_eq_true z), g1, decide_eq_true z]; rfl
    · rw [List.find?_cons_of_neg (by simpa using z), g1, decide_eq_false z]; rfl
theorem kn_map {n : NestedKey} (rv : RelV v r) : ∀ {xs : List NEnt} {us : List (NestedKey × Addr × Value)}, KN xs us → KN (xs.map (fun x => if x.1 = n then (x.1, x.2.1, v) else x)) (us.map (putAt n r))
  | _, _, .nil => .nil
  | _, _, @Paired.cons _ _ _ p q ps qs h t => by
    obtain ⟨g1, g2, g3⟩ := h
    refine .cons ?_ (kn_map rv t)
    show (if p.1 = n then (p.1, p.2.1, v) else p).1 = (if q.1 = n then (q.1, q.2.1, r) else q).1 ∧ (if p.1 = n then (p.1, p.2.1, v) else p).2.1 = (if q.1 = n then (q.1, q.2.1, r) else q).2.1 ∧ RelV (if p.1 = n then (p.1, p.2.1, v) else p).2.2 (if q.1 = n then (q.1, q.2.1, r) else q).2.2
    by_cases z : q.1 = n
    · rw [if_pos z, if_pos (g1.trans z)]; exact ⟨g1, g2, rv⟩
    · rw [if_neg z, if_neg fun e => z (g1.symm.trans e)]; exact ⟨g1, g2, g3⟩
theorem kn_put {n : NestedKey} {b : Addr} {us : List (NestedKey × Addr × Value)} (k : KN xs us) (rv : RelV v r) : KN (putX xs n b v) (storedH us n b r) := by
  unfold putX storedH
  rw [kn_any k]
  by_cases z : (atKey us n).isSome = true
  · rw [if_pos z, if_pos z]; exact kn_map rv k
  · rw [if_neg z, if_neg z]; exact Paired.snoc k ⟨rfl, rfl, rv⟩
theorem repN_any {G : Gd} {k : D} {n : NestedKey} (hk : keyN k = some n) : ∀ {kvs : List (D × D)} {xs : List NEnt}, RepN G O H kvs xs → (kvs.any fun kv => eqD kv.1 k) = xs.any fun x => decide (x.1 = n)
  | [], _, r => by cases r; rfl
  | (k0, d0) :: kvs, _, r => by
    obtain ⟨n0, b, v, s, rfl, e, r1, r2, r3⟩ := r
    rw [List.any_cons, List.any_cons, repN_any hk r3, eqD_dec e hk]
theorem repN_map {G : Gd} {k : D} {n : NestedKey} (hk : keyN k = some n) (rd : Rep G O H e v) : ∀ {kvs : List (D × D)} {xs : List NEnt}, RepN G O H kvs xs → RepN G O H (kvs.map fun kv => if eqD kv.1 k = true then (kv.1, e) else kv) (xs.map (fun x => if x.1 = n then (x.1, x.2.1, v) else x))
  | [], _, r => by cases r; rfl
  | (k0, d0) :: kvs, _, r => by
    obtain ⟨n0, b, v0, s, rfl, e0, r1, r2, r3⟩ := r
    rw [List.map_cons, List.map_cons]
    have ih := repN_map hk rd r3
    have ed := eqD_dec e0 hk
    by_cases z : n0 = n
    · rw [if_pos (by rw [ed]; exact decide_eq_true z), if_pos z]
      exact ⟨n0, b, v, _, rfl, e0, r1, rd, ih⟩
    · rw [if_neg (by rw [ed, decide_eq_false z]; exact Bool.false_ne_true), if_neg z]
      exact ⟨n0, b, v0, _, rfl, e0, r1, r2, ih⟩
theorem repN_app {G : Gd} : ∀ {kvs ls : List (D × D)} {xs ys : List NEnt}, RepN G O H kvs xs → RepN G O H ls ys → RepN G O H (kvs ++ ls) (xs ++ ys)
  | [], _, _, _, r, q => by cases r; exact q
  | (k0, d0) :: kvs, _, _, _, r, q => by
    obtain ⟨n0, b, v0, s, rfl, e0, r1, r2, r3⟩ := r
    exact ⟨n0, b, v0, _, rfl, e0, r1, r2, repN_app r3 q⟩
theorem repN_put {G : Gd} {k : D} {n : NestedKey} {b : Addr} (hk : keyN k = some n) (rk : Rep G O H k (.ref b)) (rd : Rep G O H e v) (r : RepN G O H kvs xs) : RepN G O H (putN kvs k e) (putX xs n b v) := by
  unfold putN putX
  rw [repN_any hk r]
  by_cases z : (xs.any fun x => decide (x.1 = n)) = true
  · rw [if_pos z, if_pos z]; exact repN_map hk rd r
  · rw [if_neg z, if_neg z]; exact repN_app r ⟨n, b, v, [], rfl, hk, rk, rd, rfl⟩
theorem putN_length {k : D} : (putN kvs k e).length ≤ kvs.length + 1 := by
  unfold putN
  split
  · rw [List.length_map]; exact Nat.le_succ _
  · rw [List.length_append]; exact Nat.le_refl _
theorem RepN.length {G : Gd} : ∀ {kvs : List (D × D)} {xs : List NEnt}, RepN G O H kvs xs → xs.length = kvs.length
  | [], _, r => by cases r; rfl
  | (k0, d0) :: kvs, _, r => by
    obtain ⟨n0, b, v0, s, rfl, e0, r1, r2, r3⟩ := r
    rw [List.length_cons, List.length_cons, RepN.length r3]
theorem d_setN {Q : Unit → Shared → Prop} (hu : A.units + 63 < cLine) (I : Inv X pins σ H s) (h1 : H a = some (DN X.w a xs)) (rr : RepN (gd X) O H kvs xs) (hk : okN kvs d = true) (hz : kvs.length < sizeLine) (hd : Rep (gd X) O H d x) (ru : RelV x u) (rv : RelV v r)
    (h : ∀ n b s', keyN d = some n → x = .ref b → Inv X pins σ (upd H a (DN X.w a (putX xs n b v))) s' → Q () s') :
    wpAny (model X.prog X.w) A (setItem (.ref a) u r) Q E s := by
  obtain ⟨n, e1, e2, ds, rfl⟩ := okN_key hk
  have hn := rep_nested I.hok I.kIn _ n _ _ hd e1 ru
  obtain ⟨b, rfl, rfl⟩ := tup_ref hd ru
  have mu : Mut (H a) := by rw [h1]; exact True.intro
  by_cases hne : kvs = []
  · subst hne
    obtain ⟨o, ep, g1, g2, g3, g4⟩ := dn_empty I (.inl h1) rr
    have := okN_empty hk
    cases rr
    refine wpAny_setItem_none (by rw [e2]; omega) hn g1 g2 g3 fun h' dd' hs => h n b _ e1 rfl ?_
    obtain ⟨o', ep', q1, q2, q3⟩ := dd'
    refine d_write I mu hs ⟨_, q1⟩ (dn_ok q1 q2 q3 (us := [(n, b, r)]) (.cons ⟨rfl, rfl, rv⟩ .nil) rfl (by simp) g4)
  · obtain ⟨hs1, hs2⟩ := okN_more hk hne
    obtain ⟨us, k1, k2, k3⟩ := dn_dict I.hok I.kIn (.inl h1) rr hs2
    have hlen : us.length = kvs.length := by rw [← Paired.length k1]; exact RepN.length rr
    refine wpAny_setItem_heap (knd := nestedKind X.prog X.w) (hsz := by rw [hlen]; omega) (by show A.in1.units + 8 < _; rw [Around.in1_units]; omega) ⟨hn, by rw [e2]; exact hs1⟩ k3 fun h' dd' hs => h n b _ e1 rfl ?_
    obtain ⟨o', es', ep', q1, q2, q3, q4, _, q6⟩ := dd'
    exact d_write I mu hs ⟨_, q1⟩ (dn_ok q1 q2 q3 (kn_put k1 rv) q4 q6 k2)
end
theorem in_ok (hu : X.A.units + 64 < cLine) : OpR X (compareOp .In) (rB (gd X) (cmpD .isIn)) := by
  intro pins s σ H x y v u Q I rx ry h
  obtain ⟨O, d, e, E, hd, he, dm, h⟩ := h
  have h : PF (gd X) O H E ((inK d e).bind fun k => dBl k) Q := by cases d <;> cases e <;> exact h
  cases e with
  | tup ys =>
    obtain ⟨a, vs, rfl, h1, h2, h3⟩ := he
    simp only [inK] at h
    split at h
    · rename_i hf
      refine op_in_seq pins s σ H _ _ v u Q I rx ry ⟨a, vs, rfl, .inr ?_, flat_V hd hf.1, all_flat h3 hf.2, ?_⟩
      · rcases h1 with ⟨h1, _⟩ | h1
        · exact .inl (.inl h1)
        · exact .inr h1
      · rw [if_neg Bool.false_ne_true, in_eq hd hf.1 h3 hf.2]; exact h.ok_bl
    · exact h.elim
  | lst ys =>
    obtain ⟨a, vs, rfl, h1, h2, h3⟩ := rd_rep he
    simp only [inK] at h
    split at h
    · rename_i hf
      refine op_in_seq pins s σ H _ _ v u Q I rx ry ⟨a, vs, rfl, .inl (.inl h1), flat_V hd hf.1, all_flat h3 hf.2, ?_⟩
      rw [if_neg Bool.false_ne_true, in_eq hd hf.1 h3 hf.2]; exact h.ok_bl
    · exact h.elim
  | dct lk kvs =>
    obtain ⟨a, ws, rfl, ⟨h1, _⟩, h2, h3, _⟩ := he
    simp only [inK] at h
    cases hk : keyOf d with
    | none => rw [hk] at h; exact h.elim
    | some k =>
      rw [hk] at h
      have e := key_V hd hk
      subst e
      cases (show u = Value.ref a from ry)
      obtain ⟨o, g1, g2, _⟩ := dget_rep (k := k) h1 h3
      exact d_in (by omega) I g1 rx fun s' I' => ⟨.bl o.isSome, H, I', rfl, by rw [g2]; exact h.ok_bl⟩
  | dtn lk kvs =>
    obtain ⟨a, ws, rfl, ⟨h1, _⟩, h2, h3⟩ := he
    simp only [inK] at h
    split at h
    · rename_i hk
      cases (show u = Value.ref a from ry)
      exact d_inN (by omega) I h1.rd h3 hk hd rx fun s' I' => ⟨.bl (lookN kvs d).isSome, H, I', rfl, h.ok_bl⟩
    · exact h.elim
  | str z =>
    obtain ⟨rfl, _⟩ := he
    cases d with
    | str w =>
      obtain ⟨rfl, _⟩ := hd
      exact op_in_str pins s σ H _ _ v u Q I rx ry ⟨w, z, rfl, rfl, h.ok_bl⟩
    | _ => exact h.elim
  | _ => exact h.elim
theorem notIn_ok (hu : X.A.units + 64 < cLine) : OpR X (compareOp .NotIn) (rB (gd X) (cmpD .notIn)) := by
  intro pins s σ H x y v u Q I rx ry h
  obtain ⟨O, d, e, E, hd, he, dm, h⟩ := h
  have h : PF (gd X) O H E ((inK d e).bind fun k => dBl (!k)) Q := by cases d <;> cases e <;> exact h
  cases e with
  | tup ys =>
    obtain ⟨a, vs, rfl, h1, h2, h3⟩ := he
    simp only [inK] at h
    split at h
    · rename_i hf
      refine op_notIn_seq pins s σ H _ _ v u Q I rx ry ⟨a, vs, rfl, .inr ?_, flat_V hd hf.1, all_flat h3 hf.2, ?_⟩
      · rcases h1 with ⟨h1, _⟩ | h1
        · exact .inl (.inl h1)
        · exact .inr h1
      · rw [if_pos rfl, in_eq hd hf.1 h3 hf.2]; exact h.ok_bl
    · exact h.elim
  | lst ys =>
    obtain ⟨a, vs, rfl, h1, h2, h3⟩ := rd_rep he
    simp only [inK] at h
    split at h
    · rename_i hf
      refine op_notIn_seq pins s σ H _ _ v u Q I rx ry ⟨a, vs, rfl, .inl (.inl h1), flat_V hd hf.1, all_flat h3 hf.2, ?_⟩
      rw [if_pos rfl, in_eq hd hf.1 h3 hf.2]; exact h.ok_bl
    · exact h.elim
  | dct lk kvs =>
    obtain ⟨a, ws, rfl, ⟨h1, _⟩, h2, h3, _⟩ := he
    simp only [inK] at h
    cases hk : keyOf d with
    | none => rw [hk] at h; exact h.elim
    | some k =>
      rw [hk] at h
      have e := key_V hd hk
      subst e
      cases (show u = Value.ref a from ry)
      obtain ⟨o, g1, g2, _⟩ := dget_rep (k := k) h1 h3
      exact d_notIn (by omega) I g1 rx fun s' I' => ⟨.bl (!o.isSome), H, I', rfl, by rw [g2]; exact h.ok_bl⟩
  | dtn lk kvs =>
    obtain ⟨a, ws, rfl, ⟨h1, _⟩, h2, h3⟩ := he
    simp only [inK] at h
    split at h
    · rename_i hk
      cases (show u = Value.ref a from ry)
      exact d_notInN (by omega) I h1.rd h3 hk hd rx fun s' I' => ⟨.bl (!(lookN kvs d).isSome), H, I', rfl, h.ok_bl⟩
    · exact h.elim
  | str z =>
    obtain ⟨rfl, _⟩ := he
    cases d with
    | str w =>
      obtain ⟨rfl, _⟩ := hd
      exact op_notIn_str pins s σ H _ _ v u Q I rx ry ⟨w, z, rfl, rfl, h.ok_bl⟩
    | _ => exact h.elim
  | _ => exact h.elim
theorem cop_ok (hu : X.A.units + 64 < cLine) (o : Cop) : OpR X (compareOp o.op) (fun x y H Q => rB (gd X) (cmpD o) x y H Q ∧ ((o = .isN ∨ o = .notN) → y = .non)) := by
  intro pins s σ H x y v u Q I rx ry h
  obtain ⟨h, hn⟩ := h
  cases o with
  | eq => exact eq_ok hu pins s σ H x y v u Q I rx ry h
  | ne => exact ne_ok hu pins s σ H x y v u Q I rx ry h
  | lt =>
    obtain ⟨O, d, e, E, hd, he, dm, h⟩ := h
    cases d <;> cases e <;> first | exact h.elim | (cases hd; cases he; exact op_lt pins s σ H _ _ v u Q I rx ry ⟨_, _, rfl, rfl, h.ok_bl⟩) | (obtain ⟨rfl, _⟩ := hd; obtain ⟨rfl, _⟩ := he; exact op_lt_str pins s σ H _ _ v u Q I rx ry ⟨_, _, rfl, rfl, h.ok_bl⟩)
  | le =>
    obtain ⟨O, d, e, E, hd, he, dm, h⟩ := h
    cases d <;> cases e <;> first | exact h.elim | (cases hd; cases he; exact op_le pins s σ H _ _ v u Q I rx ry ⟨_, _, rfl, rfl, h.ok_bl⟩) | (obtain ⟨rfl, _⟩ := hd; obtain ⟨rfl, _⟩ := he; exact op_le_str pins s σ H _ _ v u Q I rx ry ⟨_, _, rfl, rfl, h.ok_bl⟩)
  | gt =>
    obtain ⟨O, d, e, E, hd, he, dm, h⟩ := h
    cases d <;> cases e <;> first | exact h.elim | (cases hd; cases he; exact op_gt pins s σ H _ _ v u Q I rx ry ⟨_, _, rfl, rfl, h.ok_bl⟩) | (obtain ⟨rfl, _⟩ := hd; obtain ⟨rfl, _⟩ := he; exact op_gt_str pins s σ H _ _ v u Q I rx ry ⟨_, _, rfl, rfl, h.ok_bl⟩)
  | ge =>
    obtain ⟨O, d, e, E, hd, he, dm, h⟩ := h
    cases d <;> cases e <;> first | exact h.elim | (cases hd; cases he; exact op_ge pins s σ H _ _ v u Q I rx ry ⟨_, _, rfl, rfl, h.ok_bl⟩) | (obtain ⟨rfl, _⟩ := hd; obtain ⟨rfl, _⟩ := he; exact op_ge_str pins s σ H _ _ v u Q I rx ry ⟨_, _, rfl, rfl, h.ok_bl⟩)
  | isN =>
    obtain ⟨O, d, e, E, hd, he, dm, h⟩ := h
    have e1 := hn (.inl rfl)
    have e2 := Rep.non_iff hd
    refine op_isN pins s σ H _ _ v u Q I rx ry ⟨e1, ?_⟩
    rw [e2]
    cases d <;> exact h.ok_bl
  | notN =>
    obtain ⟨O, d, e, E, hd, he, dm, h⟩ := h
    have e1 := hn (.inr rfl)
    have e2 := Rep.non_iff hd
    refine op_notN pins s σ H _ _ v u Q I rx ry ⟨e1, ?_⟩
    rw [e2]
    cases d <;> exact h.ok_bl
  | isIn => exact in_ok hu pins s σ H x y v u Q I rx ry h
  | notIn => exact notIn_ok hu pins s σ H x y v u Q I rx ry h
  | isB =>
    obtain ⟨O, d, e, E, hd, he, dm, h⟩ := h
    cases d <;> cases e <;> first | exact h.elim | (cases hd; cases he; exact op_isBl pins s σ H _ _ v u Q I rx ry ⟨_, _, rfl, rfl, h.ok_bl⟩)
  | notB =>
    obtain ⟨O, d, e, E, hd, he, dm, h⟩ := h
    cases d <;> cases e <;> first | exact h.elim | (cases hd; cases he; exact op_notBl pins s σ H _ _ v u Q I rx ry ⟨_, _, rfl, rfl, h.ok_bl⟩)
end
end DL

namespace DL
open PySem PySem.Spec L2

/-! ### the form of a piece of text -/
def asBin : Expr → Option (Expr × Operator × Expr)
  | .BinOp a o b _ => some (a, o, b)
  | _ => none
theorem asBin_of {x : Expr} {p} (h : asBin x = some p) : ∃ q, x = .BinOp p.1 p.2.1 p.2.2 q := by
  cases x <;> first | (cases h; exact ⟨_, rfl⟩) | cases h
def asUn : Expr → Option (UnaryOp × Expr)
  | .UnaryOp o a _ => some (o, a)
  | _ => none
theorem asUn_of {x : Expr} {p} (h : asUn x = some p) : ∃ q, x = .UnaryOp p.1 p.2 q := by
  cases x <;> first | (cases h; exact ⟨_, rfl⟩) | cases h
def asBool : Expr → Option (BoolOp × List Expr × Pos)
  | .BoolOp o a p => some (o, a, p)
  | _ => none
theorem asBool_of {x : Expr} {p} (h : asBool x = some p) : x = .BoolOp p.1 p.2.1 p.2.2 := by
  cases x <;> first | (cases h; rfl) | cases h
def asCmp : Expr → Option (Expr × List CmpOp × List Expr)
  | .Compare a o b _ => some (a, o, b)
  | _ => none
theorem asCmp_of {x : Expr} {p} (h : asCmp x = some p) : ∃ q, x = .Compare p.1 p.2.1 p.2.2 q := by
  cases x <;> first | (cases h; exact ⟨_, rfl⟩) | cases h
def asName : Expr → Option Str
  | .Name x _ => some x
  | _ => none
theorem asName_of {x : Expr} {p} (h : asName x = some p) : ∃ q, x = .Name p q := by
  cases x <;> first | (cases h; exact ⟨_, rfl⟩) | cases h
def asConst : Expr → Option Const
  | .Constant c _ _ => some c
  | _ => none
theorem asConst_of {x : Expr} {p} (h : asConst x = some p) : ∃ k q, x = .Constant p k q := by
  cases x <;> first | (cases h; exact ⟨_, _, rfl⟩) | cases h
def asTup : Expr → Option (List Expr)
  | .Tuple es _ _ => some es
  | _ => none
theorem asTup_of {x : Expr} {p} (h : asTup x = some p) : ∃ k q, x = .Tuple p k q := by
  cases x <;> first | (cases h; exact ⟨_, _, rfl⟩) | cases h
def asLst : Expr → Option (List Expr)
  | .List es _ => some es
  | _ => none
theorem asLst_of {x : Expr} {p} (h : asLst x = some p) : ∃ q, x = .List p q := by
  cases x <;> first | (cases h; exact ⟨_, rfl⟩) | cases h
def asSub : Expr → Option (Expr × Expr)
  | .Subscript a b _ => some (a, b)
  | _ => none
theorem asSub_of {x : Expr} {p} (h : asSub x = some p) : ∃ q, x = .Subscript p.1 p.2 q := by
  cases x <;> first | (cases h; exact ⟨_, rfl⟩) | cases h
def asSlice : Expr → Option (Option Expr × Option Expr)
  | .Slice a b none _ => some (a, b)
  | _ => none
theorem asSlice_of {x : Expr} {p} (h : asSlice x = some p) : ∃ q, x = .Slice p.1 p.2 none q := by
  unfold asSlice at h
  split at h
  · cases h; exact ⟨_, rfl⟩
  · cases h
def noKw : List Keyword → Bool
  | [] => true
  | _ => false
def asCall : Expr → Option (Str × List Expr)
  | .Call (.Name f _) es [] _ => some (f, es)
  | _ => none
theorem asCall_of {x : Expr} {p} (h : asCall x = some p) : ∃ q r, x = .Call (.Name p.1 q) p.2 [] r := by
  unfold asCall at h
  split at h
  · cases h; exact ⟨_, _, rfl⟩
  · cases h
def asCallK : Expr → Option (Str × Expr × Str × Expr)
  | .Call (.Name f _) [a] [⟨some k, b, _⟩] _ => some (f, a, k, b)
  | _ => none
theorem asCallK_of {x : Expr} {p} (h : asCallK x = some p) : ∃ q r t, x = .Call (.Name p.1 q) [p.2.1] [⟨some p.2.2.1, p.2.2.2, t⟩] r := by
  unfold asCallK at h
  split at h
  · cases h; exact ⟨_, _, _, rfl⟩
  · cases h
def asComp : Expr → Option (Expr × Expr × Expr × List Expr × Scope)
  | .ListComp e [⟨t, i, ifs, 0⟩] sc _ => some (e, t, i, ifs, sc)
  | _ => none
theorem asComp_of {x : Expr} {p} (h : asComp x = some p) : ∃ q, x = .ListComp p.1 [⟨p.2.1, p.2.2.1, p.2.2.2.1, 0⟩] p.2.2.2.2 q := by
  unfold asComp at h
  split at h
  · cases h; exact ⟨_, rfl⟩
  · cases h
def asDict : Expr → Option (List (Option Expr) × List Expr)
  | .Dict ks vs _ => some (ks, vs)
  | _ => none
theorem asDict_of {x : Expr} {p} (h : asDict x = some p) : ∃ q, x = .Dict p.1 p.2 q := by
  cases x <;> first | (cases h; exact ⟨_, rfl⟩) | cases h
def asCallA : Expr → Option (Expr × Str × List Expr × Nat × Nat)
  | .Call (.Attribute o m ap) es [] cp => some (o, m, es, ap.endLine, cp.line)
  | _ => none
theorem asCallA_of {x : Expr} {p} (h : asCallA x = some p) : ∃ ap cp, x = .Call (.Attribute p.1 p.2.1 ap) p.2.2.1 [] cp ∧ ap.endLine = p.2.2.2.1 ∧ cp.line = p.2.2.2.2 := by
  unfold asCallA at h
  split at h
  · cases h; exact ⟨_, _, rfl, rfl, rfl⟩
  · cases h
def asAttr : Expr → Option (Expr × Str)
  | .Attribute o f _ => some (o, f)
  | _ => none
theorem asAttr_of {x : Expr} {p} (h : asAttr x = some p) : ∃ q, x = .Attribute p.1 p.2 q := by
  unfold asAttr at h
  split at h
  · cases h; exact ⟨_, rfl⟩
  · cases h
/-- no super() -/
def isBase : Expr → Bool
  | .Call (.Name _ _) [] [] _ => false
  | _ => true
theorem isBase_of {o : Expr} {m : Str} {env : Env} {w : Sem Value} (h : isBase o = true) : attributeBase o m env w = w := by
  cases o with
  | Call f es ks p =>
    cases f <;> first | rfl | skip
    cases es <;> first | rfl | skip
    cases ks <;> first | rfl | skip
    cases h
  | _ => rfl
def keysB : List Str → List (Option Expr) → Bool
  | [], [] => true
  | k :: ks, some (.Constant (.str s) _ _) :: r => (k == s) && decide (k.length ≤ LIM) && keysB ks r
  | _, _ => false
def litB : D → Const → Bool
  | .non, .none => true
  | .bl b, .bool c => b == c
  | .int i, .int j => i == j
  | .str x, .str y => x == y && decide (x.length ≤ LIM)
  | _, _ => false

def litsB : List D → List Expr → Bool
  | [], [] => true
  | d :: ds, e :: es => (match asConst e with
    | some c => litB d c
    | none => false) && litsB ds es
  | _, _ => false
def notLC : Expr → Bool
  | .ListComp _ _ _ _ => false
  | _ => true
def needTup : It → Bool
  | .enum _ => true
  | .zip _ _ => true
  | .items _ => true
  | _ => false
def itTg (it : It) (t : Expr) : Bool := !needTup it || (asTup t).isSome
def asFmt : Expr → Option Expr
  | .FormattedValue e (-1) none _ => some e
  | _ => none
theorem asFmt_of {x : Expr} {p} (h : asFmt x = some p) : ∃ q, x = .FormattedValue p (-1) none q := by
  unfold asFmt at h
  split at h
  · cases h; exact ⟨_, rfl⟩
  · cases h
def asFst : Expr → Option (List Expr)
  | .JoinedStr vs _ => some vs
  | _ => none
theorem asFst_of {x : Expr} {p} (h : asFst x = some p) : ∃ q, x = .JoinedStr p q := by
  cases x <;> first | (cases h; exact ⟨_, rfl⟩) | cases h
def isVal : Expr → Bool
  | .Slice _ _ _ _ => false
  | .Starred _ _ => false
  | .Set _ _ _ => false
  | _ => true
/-- its truth is its value's -/
def isPlain : Expr → Bool
  | .UnaryOp .Not _ _ => false
  | .BoolOp _ _ _ => false
  | .IfExp _ _ _ _ => false
  | .Compare _ _ _ _ => false
  | _ => true
theorem isPlain_of {e : Expr} {env : Env} (h : isPlain e = true) (whole : Sem Value) : isTrue e env whole = (do let v ← whole; standAt e.pos; holding [v] (truthy v)) := by
  cases e with
  | UnaryOp o a p => cases o <;> first | (cases h; done) | rfl
  | BoolOp => cases h
  | IfExp => cases h
  | Compare => cases h
  | _ => rfl
theorem isVal_ix {e : Expr} (h : isVal e = true) : PlainIx e := fun o i => by
  cases e <;> first | (cases h; done) | rfl
theorem isVal_star {e : Expr} {es : List Expr} {env : Env} (h : isVal e = true) : starEach (e :: es) env = (false, eval e env) :: starEach es env := by
  cases e <;> first | (cases h; done) | rfl
theorem isVal_any {es : List Expr} {env : Env} {pos : Pos} (h : es.all isVal = true) : (backTo pos (starEach es env)).any (·.1) = false := by
  induction es with
  | nil => rfl
  | cons e es ih =>
    rw [List.all_cons, Bool.and_eq_true] at h
    rw [isVal_star h.1]
    exact ih h.2
theorem isVal_fold {e : Expr} (h : isVal e = true) {env : Env} (x : Value) : foldedSetIterable e env x = pure x := by
  cases e <;> first | (cases h; done) | rfl
theorem isVal_mark {e : Expr} (h : isVal e = true) {op : CmpOp} : behindInMarks op e = false := by
  cases e <;> first | (cases h; done) | rfl
theorem isVal_last {b c : Expr} (h : isVal c = true) {o o' : CmpOp} : lastMarks [o, o'] [b, c] = false := by
  show behindInMarks o' c = false
  exact isVal_mark h

def visB (sc : Scope) (x : Str) : Bool := match sc.names.lookup x with
  | some .local => true
  | some .cell => true
  | some .free => true
  | _ => false
theorem visB_of {sc : Scope} {x : Str} (h : visB sc x = true) : Vis sc x := by
  unfold visB at h
  split at h <;> first | exact .inl (by assumption) | exact .inr (.inl (by assumption)) | exact .inr (.inr (by assumption)) | cases h
def locB (sc : Scope) (x : Str) : Bool := match sc.names.lookup x with
  | some .local => true
  | some .cell => true
  | _ => false
theorem locB_of {sc : Scope} {x : Str} (h : locB sc x = true) : Loc sc x := by
  unfold locB at h
  split at h <;> first | exact .inl (by assumption) | exact .inr (by assumption) | cases h
def glB (sc : Scope) (x : Str) : Bool := match sc.names.lookup x with
  | some .globalImplicit => true
  | _ => false
theorem glB_of {sc : Scope} {x : Str} (h : glB sc x = true) : sc.names.lookup x = some .globalImplicit := by
  unfold glB at h
  split at h
  · assumption
  · cases h
def blB (I : Inf) (sc : Scope) (x : Str) : Bool := glB sc x && I.bns.contains x
def nmB (x : Str) : Bool := !(x == ("__debug__" : Str)) && !(x == ("__classdict__" : Str)) && !(x == ("__name__" : Str))
theorem nmB_of {x : Str} (h : nmB x = true) : (x == ("__debug__" : Str)) = false ∧ (x == ("__classdict__" : Str)) = false ∧ x ≠ ("__name__" : Str) := by
  unfold nmB at h
  simp only [Bool.and_eq_true, Bool.not_eq_true'] at h
  exact ⟨h.1.1, h.1.2, fun e => by have := h.2; rw [e] at this; simp at this⟩
def BF.nm : BF → Str
  | .abs => "abs" | .len => "len" | .max2 => "max" | .min2 => "min" | .int => "int" | .str => "str" | .list => "list" | .tuple => "tuple" | .sum => "sum" | .max1 => "max" | .all => "all" | .any => "any" | .sorted => "sorted" | .dict => "dict"
def Ty.nm : Ty → String
  | .int => "int" | .bool => "bool" | .str => "str" | .tuple => "tuple" | .list => "list" | .dict => "dict"

def tgB (N : List Str) (sc : Scope) : Tg → Expr → Bool
  | .one i, x => match asName x with
    | some n => decide (N[i]? = some n) && locB sc n
    | none => false
  | .many is, x => match asTup x with
    | some es => go is es
    | none => false
where go : List Nat → List Expr → Bool
  | [], [] => true
  | i :: is, e :: es => (match asName e with
    | some n => decide (N[i]? = some n) && locB sc n
    | none => false) && go is es
  | _, _ => false

def isNon : E → Bool
  | .lit .non => true
  | _ => false
def nonB : Cop → E → Bool
  | .isN, b => isNon b
  | .notN, b => isNon b
  | _, _ => true
def isYes : T → Bool
  | .yes => true
  | _ => false
def plainC : Cop → Bool
  | .isN => false
  | .notN => false
  | _ => true
def tgIn : Tg → List Nat → Bool
  | .one i, l => decide (i ∈ l)
  | .many is, l => is.all fun i => decide (i ∈ l)
mutual
def ckE (N : List Str) (I : Inf) : Scope → E → Expr → Bool
  | sc, .var i, x => match asName x with
    | some n => decide (N[i]? = some n) && visB sc n && nmB n
    | none => false
  | sc, .lit d, x => match asConst x with
    | some c => litB d c
    | none => false
  | sc, .glb n, x => match asName x with
    | some m => decide (n = m) && glB sc n && nmB n && (I.gt.lookup n).isSome
    | none => false
  | sc, .tix n a, x => match asSub x with
    | some (l, r) => match asName l with
      | some m => decide (n = m) && glB sc n && nmB n && (I.dt.lookup n).isSome && isVal r && ckE N I sc a r
      | none => false
    | none => false
  | sc, .cald f es, x => match asCall x with
    | some (g, xs) => decide (f = g) && glB sc f && nmB f && (I.df.lookup f).isSome && !xs.isEmpty && ckEs N I sc es xs
    | none => false
  | sc, .mk c es, x => match asCall x with
    | some (g, xs) => decide (c = g) && glB sc c && nmB c && (I.cls.lookup c).isSome && !xs.isEmpty && ckEs N I sc es xs
    | none => false
  | sc, .fld a f, x => match asAttr x with
    | some (o, g) => decide (f = g) && isBase o && ckE N I sc a o
    | none => false
  | sc, .mth a m es, x => match asCallA x with
    | some (o, g, xs, l1, l2) => decide (m = g) && (l1 == l2) && decide (xs.length < 30) && isBase o && ckE N I sc a o && ckEs N I sc es xs
    | none => false
  | sc, .sset a, x => match asCall x with
    | some (f, [u]) => match asCall u with
      | some (g, [v]) => decide (f = ("sorted" : Str)) && decide (g = ("set" : Str)) && blB I sc f && blB I sc g && isVal v && ckE N I sc a v
      | _ => false
    | _ => false
  | sc, .maxd a d, x => match asCallK x with
    | some (f, u, k, v) => decide (f = ("max" : Str)) && decide (k = ("default" : Str)) && blB I sc f && isVal u && ckE N I sc a u && ckE N I sc d v
    | none => false
  | sc, .bin o a b, x => match asBin x with
    | some (l, op, r) => decide (op = o.op) && ckE N I sc a l && ckE N I sc b r
    | none => false
  | sc, .neg a, x => match asUn x with
    | some (o, l) => decide (o = .USub) && ckE N I sc a l
    | none => false
  | sc, .not a, x => match asUn x with
    | some (o, l) => decide (o = .Not) && ckE N I sc a l
    | none => false
  | sc, .and a b, x => match asBool x with
    | some (o, l :: r :: rest, p) => decide (o = .And) && ckE N I sc a l && ckE N I sc b (if rest.isEmpty then r else .BoolOp .And (r :: rest) p)
    | _ => false
  | sc, .or a b, x => match asBool x with
    | some (o, l :: r :: rest, p) => decide (o = .Or) && ckE N I sc a l && ckE N I sc b (if rest.isEmpty then r else .BoolOp .Or (r :: rest) p)
    | _ => false
  | sc, .cmp o a b, x => match asCmp x with
    | some (l, [op], [r]) => decide (op = o.op) && isVal r && ckE N I sc a l && ckE N I sc b r && nonB o b
    | _ => false
  | sc, .chn o o' a b c, x => match asCmp x with
    | some (l, [op, op'], [r, s]) => decide (op = o.op) && decide (op' = o'.op) && isVal s && ckE N I sc a l && ckE N I sc b r && ckE N I sc c s && plainC o && plainC o'
    | _ => false
  | sc, .tup es, x => match asTup x with
    | some xs => ckEs N I sc es xs
    | none => false
  | sc, .lst es, x => match asLst x with
    | some xs => ckEs N I sc es xs
    | none => false
  | sc, .idx a i, x => match asSub x with
    | some (l, r) => isVal r && ckE N I sc a l && ckE N I sc i r
    | none => false
  | sc, .slc a lo hi, x => match asSub x with
    | some (l, r) => match asSlice r with
      | some (u, v) => ckE N I sc a l && ckP N I sc lo u && ckP N I sc hi v
      | none => false
    | none => false
  | sc, .call f es, x => match asCall x with
    | some (g, xs) => decide (f = g) && glB sc f && nmB f && I.has.contains f && !xs.isEmpty && ckEs N I sc es xs
    | none => false
  | sc, .bf f es, x => match asCall x with
    | some (g, xs) => decide (f.nm = g) && blB I sc g && !xs.isEmpty && ckEs N I sc es xs
    | none => false
  | sc, .isi a t, x => match asCall x with
    | some (g, [l, r]) => decide (g = ("isinstance" : Str)) && blB I sc g && isVal l && ckE N I sc a l && (match asName r with | some n => decide (n = Str.ofString t.nm) && blB I sc n | none => false)
    | _ => false
  | sc, .isc a c, x => match asCall x with
    | some (g, [l, r]) => decide (g = ("isinstance" : Str)) && blB I sc g && isVal l && ckE N I sc a l && (match asName r with | some n => decide (n = c) && glB sc n && nmB n && I.ism.any (fun e => decide (e.1.2 = c)) | none => false)
    | _ => false
  | sc, .isx a c, x => match asCall x with
    | some (g, [l, r]) => decide (g = ("isinstance" : Str)) && blB I sc g && isVal l && ckE N I sc a l && (match asName r with | some n => decide (n = c) && glB sc n && nmB n && I.ixm.any (fun e => decide (e.1.2 = c)) | none => false)
    | _ => false
  | sc, .lent is a, x => ckE N I sc a x
  | sc, .comp tg it cnd elt own, x => match asComp x with
    | some (e, t, i, ifs, sc') => blkC N sc sc' own && ckI N I sc it i && itTg it t && tgB N sc' tg t && (match ifs with | [] => isYes cnd | [c] => ckT N I (relS sc' sc) cnd c | _ => false) && ckE N I (relS sc' sc) elt e && tgIn tg (own.map (·.2))
    | none => false
  | sc, .dnew, x => match asDict x with
    | some ([], []) => true
    | _ => false
  | sc, .dnewN, x => match asDict x with
    | some ([], []) => true
    | _ => false
  | sc, .any, x => true
  | sc, .dsp ks ds, x => match asDict x with
    | some (keys, vs) => keysB ks keys && !ks.isEmpty && decide (ks.length ≤ 15) && litsB ds vs && decide (ks.length = ds.length)
    | none => false
  | sc, .get1 a k, x => match asCallA x with
    | some (o, m, [e], l, l') => decide (m = ("get" : Str)) && (l == l') && isBase o && isVal e && ckE N I sc a o && ckE N I sc k e
    | _ => false
  | sc, .get2 a k d, x => match asCallA x with
    | some (o, m, [e, f], l, l') => decide (m = ("get" : Str)) && (l == l') && isBase o && isVal e && isVal f && ckE N I sc a o && ckE N I sc k e && ckE N I sc d f
    | _ => false
  | sc, .join a y, x => match asCallA x with
    | some (o, m, [e], l, l') => decide (m = ("join" : Str)) && (l == l') && isBase o && isVal e && ckE N I sc a o && ckE N I sc y e
    | _ => false
  | sc, .lok a, x => ckE N I sc a x && notLC x
  | sc, .fmt a, x => match asFmt x with
    | some e => ckE N I sc a e
    | none => false
  | sc, .fst es, x => match asFst x with
    | some vs => decide (2 ≤ vs.length) && ckEs N I sc es vs
    | none => false
def ckT (N : List Str) (I : Inf) : Scope → T → Expr → Bool
  | sc, .v e, x => isPlain x && ckE N I sc e x
  | sc, .and a b, x => match asBool x with
    | some (o, l :: r :: rest, p) => decide (o = .And) && ckT N I sc a l && ckT N I sc b (if rest.isEmpty then r else .BoolOp .And (r :: rest) p)
    | _ => false
  | sc, .or a b, x => match asBool x with
    | some (o, l :: r :: rest, p) => decide (o = .Or) && ckT N I sc a l && ckT N I sc b (if rest.isEmpty then r else .BoolOp .Or (r :: rest) p)
    | _ => false
  | sc, .not a, x => match asUn x with
    | some (o, l) => decide (o = .Not) && ckT N I sc a l
    | none => false
  | sc, .cmp o a b, x => match asCmp x with
    | some (l, [op], [r]) => decide (op = o.op) && isVal r && ckE N I sc a l && ckE N I sc b r && nonB o b
    | _ => false
  | sc, .chn o o' a b c, x => match asCmp x with
    | some (l, [op, op'], [r, s]) => decide (op = o.op) && decide (op' = o'.op) && isVal s && ckE N I sc a l && ckE N I sc b r && ckE N I sc c s && plainC o && plainC o'
    | _ => false
  | sc, .lent is a, x => ckT N I sc a x
  | sc, .yes, _ => false
def ckEs (N : List Str) (I : Inf) : Scope → Es → List Expr → Bool
  | sc, .nil, xs => xs.isEmpty
  | sc, .cons e es, xs => match xs with
    | x :: r => isVal x && ckE N I sc e x && ckEs N I sc es r
    | [] => false
def ckP (N : List Str) (I : Inf) : Scope → Pt → Option Expr → Bool
  | sc, .no, x => x.isNone
  | sc, .at e, x => match x with
    | some u => ckE N I sc e u
    | none => false
def ckI (N : List Str) (I : Inf) : Scope → It → Expr → Bool
  | sc, .seq e, x => isVal x && ckE N I sc e x
  | sc, .rng1 e, x => match asCall x with
    | some (g, [l]) => decide (g = ("range" : Str)) && blB I sc g && isVal l && ckE N I sc e l
    | _ => false
  | sc, .rng2 a b, x => match asCall x with
    | some (g, [l, r]) => decide (g = ("range" : Str)) && blB I sc g && isVal l && isVal r && ckE N I sc a l && ckE N I sc b r
    | _ => false
  | sc, .rng3 a b c, x => match asCall x with
    | some (g, [l, r, t]) => decide (g = ("range" : Str)) && blB I sc g && isVal l && isVal r && isVal t && ckE N I sc a l && ckE N I sc b r && ckE N I sc c t
    | _ => false
  | sc, .enum e, x => match asCall x with
    | some (g, [l]) => decide (g = ("enumerate" : Str)) && blB I sc g && isVal l && ckE N I sc e l
    | _ => false
  | sc, .zip a b, x => match asCall x with
    | some (g, [l, r]) => decide (g = ("zip" : Str)) && blB I sc g && isVal l && isVal r && ckE N I sc a l && ckE N I sc b r
    | _ => false
  | sc, .items e, x => match asCallA x with
    | some (o, m, [], l, l') => decide (m = ("items" : Str)) && (l == l') && isBase o && ckE N I sc e o
    | _ => false
  | sc, .rev e, x => match asCall x with
    | some (g, [l]) => decide (g = ("reversed" : Str)) && blB I sc g && isVal l && ckE N I sc e l
    | _ => false
end
end DL

namespace DL
open PySem PySem.Spec L2

/-- an own def's promise, by what it tells -/
def spF (G : Gd) (cal : List D → R) : Sp := fun vs H Q E => ∃ (O : Own) (ds : List D), Dom O H ∧ Reps G O H ds vs ∧ PF G O H E (cal ds) Q


/-- what an __init__ does: it sets the fields to its arguments -/
def spI (Ca : Addr) (fds : List Str) : Sp := fun vs H Q E => ∃ x dx ws, vs = .ref x :: ws ∧ H x = some (.ins Ca dx []) ∧ ws.length = fds.length ∧ Q .non (upd H x (.ins Ca dx (fds.zip ws)))
/-- a class that is made, and its methods -/
def ClsOk (X : Cx) (C : Ctx) (c : Str) (p : List Str × List (Str × Str)) : Prop := ∃ Ca, X.mg c = some (.ref Ca) ∧ Cls X.K Ca ∧ (∀ f ∈ p.1, NoAttr X.K Ca f) ∧
  (∀ m g, p.2.lookup m = some g → ∃ fm fd ps k, Meth X.K Ca m fm ∧ FnOk X.prog X.w X.K X.mg X.base (L2.CX X.prog X.w) k fm fd ps (spF (gd X) (C.cal g)) ∧ Room k X.A ∧ Binds X.K fd ps []) ∧
  (C.cal Str.empty [] ≠ .bad → ∃ f fd ps k, Mk X.K Ca f ∧ FnOk X.prog X.w X.K X.mg X.base CX0 k f fd ps (spI Ca p.1) ∧ Room (k + 1) X.A ∧ Binds X.K fd ps [])
/-- what a class must say for isinstance of what it made -/
structure IsC (K : PySem.W.Frag) (C : Addr) : Prop where
  cl : Cls K C
  ha : PySem.W.findIn K (.ref C) "__class__" = some (some (.builtin "object.__class__"))
  hn : PySem.W.specialIn K (.builtin "object.__class__") "__get__" = some (some (.builtin "getset_descriptor.__get__"))
  htk : PySem.W.takesIn K (.builtin "object.__class__") = some true
  hm : PySem.W.mroIn K C (.type "object") = some true
/-- an asked class: an own one, or a built-in -/
def AskC (mg : Str → Option Value) (c : Str) (v : V) (cv : Value) : Prop := (∀ u, RelV v u → u = cv) ∧ RelV v cv ∧ (mg c = some cv ∨ (mg c = none ∧ bootBuiltins c = some cv ∧ c ≠ ("__name__" : Str) ∧ (c == ("__debug__" : Str)) = false))
def IxmOk (K : PySem.W.Frag) (mg : Str → Option Value) (r c : Str) (b : Bool) : Prop := ∃ Ra v cv, mg r = some (.ref Ra) ∧ AskC mg c v cv ∧ PySem.W.kitOne K (.ref Ra) cv = some b ∧ ExcC K Ra
/-- what a body's context must bear -/
structure XOk (N : List Str) (st sc : Scope) (C : Ctx) (X : Cx) : Prop where
  hN : X.N = N
  hs : X.env.scope = sc
  nd : N.Nodup
  calm : X.calm = true
  fn : ∀ x, st.names.lookup x = some .cell → X.fn x = true
  lk : ∀ x k, k ≠ .free → st.names.lookup x = some k → sc.names.lookup x = some k
  cal : ∀ f, C.inf.has.contains f = true → ∃ fa fd ps k, FnOk X.prog X.w X.K X.mg X.base (L2.CX X.prog X.w) k fa fd ps (spF (gd X) (C.cal f)) ∧ Room k X.A ∧ X.mg f = some (.ref fa) ∧ PySem.W.keepIn X.K (.ref fa) = true ∧ Binds X.K fd ps []
  glb : ∀ x d, C.inf.gt.lookup x = some d → ∃ u v, X.mg x = some u ∧ RelV v u ∧ ∀ O H, Rep (gd X) O H d v
  dtb : ∀ x tb, C.inf.dt.lookup x = some tb → ∃ a, X.mg x = some (.ref a) ∧ ∀ z d, tb.lookup z = some d → ∃ v, KDct X.K X.w a z v ∧ ∀ O H, Rep (gd X) O H d v
  dfl : ∀ f dv, C.inf.df.lookup f = some dv → ∃ fa fd ps k us vs, FnOk X.prog X.w X.K X.mg X.base (L2.CX X.prog X.w) k fa fd ps (spF (gd X) (C.cal f)) ∧ Room k X.A ∧ X.mg f = some (.ref fa) ∧ PySem.W.keepIn X.K (.ref fa) = true ∧ Binds X.K fd ps us ∧ Vals vs us ∧ ∀ O H, Reps (gd X) O H dv vs
  cls : ∀ c p, C.inf.cls.lookup c = some p → ClsOk X C c p
  un : X.A.units + 64 < cLine
  bn : ∀ x ∈ C.inf.bns, X.mg x = none
  po : PassesOwn (model X.prog X.w) X.A X.env X.xe
  kd : sc.kind = .function
  exs : ∀ c, C.inf.exs.contains c = true → ∃ Ca, X.mg c = some (.ref Ca) ∧ PySem.W.excIn X.K Ca [.type "ValueError", .type "Exception", .type "BaseException", .type "object"] "ValueError.__new__" = true ∧ PySem.W.keepIn X.K (.ref Ca) = true ∧ Raises X (.ref Ca)
  ism : ∀ e ∈ C.inf.ism, ∃ Ma Ca, X.mg e.1.1 = some (.ref Ma) ∧ X.mg e.1.2 = some (.ref Ca) ∧ PySem.W.kitOne X.K (.ref Ma) (.ref Ca) = some e.2 ∧ IsC X.K Ma
  ixm : ∀ e ∈ C.inf.ixm, IxmOk X.K X.mg e.1.1 e.1.2 e.2
  exm : ∀ e ∈ C.inf.exm, ∃ Ra Ca, X.mg e.1.1 = some (.ref Ra) ∧ X.mg e.1.2 = some (.ref Ca) ∧ PySem.W.exmOne X.K (.ref Ra) (.ref Ca) = some e.2

theorem _root_.L2.PE.imp {X : Cx} {e : Expr} {t t' : TE} (h : PE X e t) (m : ∀ σ H Q, t' σ H Q → t σ H Q) : PE X e t' := ⟨fun pins s σ H Q I q => h.run pins s σ H Q I (m σ H Q q)⟩
theorem _root_.L2.PT.imp {X : Cx} {e : Expr} {t t' : TT} (h : PT X e t) (m : ∀ σ H Q, t' σ H Q → t σ H Q) : PT X e t' := ⟨fun pins s σ H Q I q => h.run pins s σ H Q I (m σ H Q q)⟩
theorem _root_.L2.PW.imp {X : Cx} {e : Expr} {t t' : TT} (h : PW X e t) (m : ∀ σ H Q, t' σ H Q → t σ H Q) : PW X e t' := ⟨fun wh pins s σ H Q I q => h.run wh pins s σ H Q I (m σ H Q q)⟩
theorem _root_.L2.PA.imp {X : Cx} {e : List Expr} {t t' : TA} (h : PA X e t) (m : ∀ σ H Q, t' σ H Q → t σ H Q) : PA X e t' := ⟨fun pos pins s σ H Q I q => h.run pos pins s σ H Q I (m σ H Q q)⟩
theorem _root_.L2.PI.imp {X : Cx} {tg e : Expr} {t t' : TI} (h : PI X tg e t) (m : ∀ σ H Q, t' σ H Q → t σ H Q) : PI X tg e t' := ⟨fun pins s σ H Q I q => h.run pins s σ H Q I (m σ H Q q)⟩

section
variable {N : List Str} {st sc : Scope} {C : Ctx} {X : Cx} {W : WX} {a b c x : Expr} {ma mb mc : List Sl → R} {pos : Pos} {G : Gd}

theorem gl_of (ok : XOk N st sc C X) {n : Str} (h : glB sc n = true) : Gl X n := by
  show X.env.scope.names.lookup n = _
  rw [ok.hs]
  exact glB_of h
theorem bl_of (ok : XOk N st sc C X) {n : Str} (h : blB C.inf sc n = true) : Gl X n ∧ X.mg n = none := by
  have h : (glB sc n && C.inf.bns.contains n) = true := h
  rw [Bool.and_eq_true] at h
  exact ⟨gl_of ok h.1, ok.bn n (List.contains_iff_mem.mp h.2)⟩
theorem s_var (ok : XOk N st sc C X) {i : Nat} {n : Str} (h1 : N[i]? = some n) (h2 : visB sc n = true) (h3 : nmB n = true) : PE X (.Name n pos) (tE (gd X) W (ev C (.var i))) := by
  obtain ⟨q1, q2, _⟩ := nmB_of h3
  refine (pe_var (i := i) (x := n) (by rw [ok.hN]; exact h1) (by rw [ok.hs]; exact visB_of h2) q1 q2).imp fun σ H Q h => ?_
  obtain ⟨ρ, O, A, h⟩ := h
  simp only [ev] at h
  split at h
  · rename_i d e
    obtain ⟨v, hv, hr⟩ := A.val i d e
    exact ⟨v, hv, h v H (Same.refl H) hr⟩
  · exact h.elim
theorem s_lit {d : D} {k : Const} {j : Nat} (h : litB d k = true) : PE X (.Constant k j pos) (tE (gd X) W (ev C (.lit d))) := by
  unfold litB at h
  split at h
  · exact pe_non.imp fun σ H Q ⟨ρ, O, A, h⟩ => h _ _ (Same.refl H) rfl
  · cases eq_of_beq h
    exact pe_bl.imp fun σ H Q ⟨ρ, O, A, h⟩ => h _ _ (Same.refl H) rfl
  · cases eq_of_beq h
    exact pe_int.imp fun σ H Q ⟨ρ, O, A, h⟩ => h _ _ (Same.refl H) rfl
  · rw [Bool.and_eq_true] at h
    cases eq_of_beq h.1
    have hl := of_decide_eq_true h.2
    rw [limE] at hl
    exact pe_str.imp fun σ H Q ⟨ρ, O, A, h⟩ => h _ _ (Same.refl H) ⟨rfl, hl⟩
  · cases h
theorem s_glb (ok : XOk N st sc C X) {n : Str} (h1 : glB sc n = true) (h2 : nmB n = true) (h3 : (C.inf.gt.lookup n).isSome = true) : PE X (.Name n pos) (tE (gd X) W (ev C (.glb n))) := by
  obtain ⟨d, hd⟩ := Option.isSome_iff_exists.mp h3
  obtain ⟨u, v, q1, q2, q3⟩ := ok.glb n d hd
  refine (pe_glob (gl_of ok h1) q1 q2 (nmB_of h2).1).imp fun σ H Q ⟨ρ, O, A, h⟩ => ?_
  simp only [ev, hd] at h
  exact h v H (Same.refl H) (q3 O H)
theorem s_tix (ok : XOk N st sc C X) {n : Str} {np : Pos} (h1 : glB sc n = true) (h2 : nmB n = true) (h3 : (C.inf.dt.lookup n).isSome = true) (hv : isVal b = true) (hb : PE X b (tE (gd X) W mb)) : PE X (.Subscript (.Name n np) b pos) (tE (gd X) W fun ρ => (mb ρ).bind fun k => tixD C.inf.dt n k.1) := by
  obtain ⟨tb, hd⟩ := Option.isSome_iff_exists.mp h3
  obtain ⟨p, q1, q2⟩ := ok.dtb n tb hd
  refine (pe_ix ix_kdict (pe_glob (gl_of ok h1) q1 (show RelV (.ref p) (.ref p) from rfl) (nmB_of h2).1) hb (isVal_ix hv)).imp fun σ H Q ⟨ρ, O, A, h⟩ => ?_
  refine ⟨ρ, O, A, (PF.bind h).mono fun y H2 ⟨q, s2, v2, h2⟩ => ?_⟩
  have r := v2.rep A.dom
  obtain ⟨d, fr⟩ := q
  cases d with
  | str z =>
    obtain ⟨rfl, _⟩ := r
    simp only [tixD, hd] at h2
    split at h2
    · rename_i e he
      obtain ⟨v, k1, k2⟩ := q2 z e he
      exact ⟨p, z, v, rfl, rfl, k1, h2 v _ (Same.refl _) (k2 O _)⟩
    · exact h2.elim
  | _ => exact h2.elim
theorem s_bin {o : Bop} (ha : PE X a (tE (gd X) W ma)) (hb : PE X b (tE (gd X) W mb)) : PE X (.BinOp a o.op b pos) (tE (gd X) W fun ρ => (ma ρ).bind fun x => (mb ρ).bind fun y => binD o x.1 y.1) := by
  refine (pe_op (bop_ok o) ha hb).imp fun σ H Q ⟨ρ, O, A, h⟩ => ?_
  refine ⟨ρ, O, A, (PF.bind h).mono fun x H1 ⟨p, s1, v1, h1⟩ => ?_⟩
  have A1 := A.same s1
  refine ⟨ρ, O, A1, (PF.bind h1).mono fun y H2 ⟨q, s2, v2, h2⟩ => ?_⟩
  exact ⟨O, p.1, q.1, _, (v1.rep A.dom).same s2, v2.rep A1.dom, A1.dom.same s2, h2⟩
theorem s_neg (ha : PE X a (tE (gd X) W ma)) : PE X (.UnaryOp .USub a pos) (tE (gd X) W fun ρ => (ma ρ).bind fun x => match x.1 with | .int i => dInt (-i) | _ => .bad) := by
  refine (pe_un un_neg ha).imp fun σ H Q ⟨ρ, O, A, h⟩ => ?_
  refine ⟨ρ, O, A, (PF.bind h).mono fun x H1 ⟨p, s1, v1, h1⟩ => ?_⟩
  have r := v1.rep A.dom
  obtain ⟨d, fr⟩ := p
  cases d with
  | int i => cases r; exact ⟨i, rfl, h1.ok_int⟩
  | _ => exact h1.elim
theorem s_not (ha : PE X a (tE (gd X) W ma)) : PE X (.UnaryOp .Not a pos) (tE (gd X) W fun ρ => (ma ρ).bind fun x => match x.1 with | .bl b => dBl (!b) | _ => .bad) := by
  refine (pe_not ha).imp fun σ H Q ⟨ρ, O, A, h⟩ => ?_
  refine ⟨ρ, O, A, (PF.bind h).mono fun x H1 ⟨p, s1, v1, h1⟩ => ?_⟩
  have r := v1.rep A.dom
  obtain ⟨d, fr⟩ := p
  cases d with
  | bl i => cases r; exact ⟨i, rfl, h1.ok_bl⟩
  | _ => exact h1.elim
theorem s_and {rest : List Expr} (ha : PE X a (tE (gd X) W ma)) (hb : PE X (.BoolOp .And (b :: rest) pos) (tE (gd X) W mb)) : PE X (.BoolOp .And (a :: b :: rest) pos) (tE (gd X) W fun ρ => (ma ρ).bind fun x => match x.1 with
    | .bl true => mb ρ
    | .bl false => dBl false
    | _ => .bad) := by
  refine (pe_and ha hb).imp fun σ H Q ⟨ρ, O, A, h⟩ => ?_
  refine ⟨ρ, O, A, (PF.bind h).mono fun x H1 ⟨p, s1, v1, h1⟩ => ?_⟩
  have r := v1.rep A.dom
  obtain ⟨d, fr⟩ := p
  cases d with
  | bl i =>
    cases r
    refine ⟨i, rfl, ?_⟩
    cases i with
    | true => exact iteT ⟨ρ, O, A.same s1, h1⟩
    | false => exact iteF h1.ok_bl
  | _ => exact h1.elim
theorem s_or {rest : List Expr} (ha : PE X a (tE (gd X) W ma)) (hb : PE X (.BoolOp .Or (b :: rest) pos) (tE (gd X) W mb)) : PE X (.BoolOp .Or (a :: b :: rest) pos) (tE (gd X) W fun ρ => (ma ρ).bind fun x => match x.1 with
    | .bl true => dBl true
    | .bl false => mb ρ
    | _ => .bad) := by
  refine (pe_or ha hb).imp fun σ H Q ⟨ρ, O, A, h⟩ => ?_
  refine ⟨ρ, O, A, (PF.bind h).mono fun x H1 ⟨p, s1, v1, h1⟩ => ?_⟩
  have r := v1.rep A.dom
  obtain ⟨d, fr⟩ := p
  cases d with
  | bl i =>
    cases r
    refine ⟨i, rfl, ?_⟩
    cases i with
    | true => exact iteT h1.ok_bl
    | false => exact iteF ⟨ρ, O, A.same s1, h1⟩
  | _ => exact h1.elim

theorem s_cmp (ok : XOk N st sc C X) {o : Cop} (ha : PE X a (tE (gd X) W ma)) (hb : PE X b (tE (gd X) W mb)) (hm : isVal b = true) (hn : (o = .isN ∨ o = .notN) → mb = ev C (.lit .non)) :
    PE X (.Compare a [o.op] [b] pos) (tE (gd X) W fun ρ => (ma ρ).bind fun x => (mb ρ).bind fun y => cmpD o x.1 y.1) := by
  refine (pe_cmpR (cop_ok ok.un o) ha hb (isVal_mark hm)).imp fun σ H Q ⟨ρ, O, A, h⟩ => ?_
  refine ⟨ρ, O, A, (PF.bind h).mono fun x H1 ⟨p, s1, v1, h1⟩ => ?_⟩
  have A1 := A.same s1
  refine ⟨ρ, O, A1, ?_⟩
  have h2 := PF.bind h1
  by_cases hc : o = .isN ∨ o = .notN
  · rw [hn hc] at h2 ⊢
    intro y H2 s2 v2
    obtain ⟨q, s2', v2', h3⟩ := h2 y H2 s2 v2
    have r2 : y = .non := v2
    exact ⟨⟨O, p.1, q.1, _, (v1.rep A.dom).same s2, v2'.rep A1.dom, A1.dom.same s2, h3⟩, fun _ => r2⟩
  · refine h2.mono fun y H2 ⟨q, s2, v2, h3⟩ => ⟨⟨O, p.1, q.1, _, (v1.rep A.dom).same s2, v2.rep A1.dom, A1.dom.same s2, h3⟩, fun z => absurd z hc⟩
theorem t_cmp (ok : XOk N st sc C X) {o : Cop} (ha : PE X a (tE (gd X) W ma)) (hb : PE X b (tE (gd X) W mb)) (hm : isVal b = true) (hn : (o = .isN ∨ o = .notN) → mb = ev C (.lit .non)) :
    PT X (.Compare a [o.op] [b] pos) (tT (gd X) W fun ρ => (ma ρ).bind fun x => (mb ρ).bind fun y => (cmpD o x.1 y.1).bind fun z => match z.1 with | .bl k => .ok k | _ => .bad) := by
  refine (pt_cmpR (cop_ok ok.un o) ha hb (isVal_mark hm)).imp fun σ H Q ⟨ρ, O, A, h⟩ => ?_
  refine ⟨ρ, O, A, (PFa.bindV (O := O) h).mono fun x H1 ⟨p, s1, v1, h1⟩ => ?_⟩
  have A1 := A.same s1
  refine ⟨ρ, O, A1, ?_⟩
  have h2 := PFa.bindV (O := O) h1
  have fin : ∀ {q : D × Bool} {y : V} {H2 : Hp}, Rep (gd X) O H2 p.1 x → Rep (gd X) O H2 q.1 y → Dom O H2 → PFa (gd X) H2 (WE' W σ) ((cmpD o p.1 q.1).bind fun z => match z.1 with | .bl k => Rz.ok k | _ => .bad) Q →
      rB (gd X) (cmpD o) x y H2 fun x H' => ∃ k, x = .bl k ∧ Q k H' := fun {q y H2} r1 r2 dm h3 => by
    refine ⟨O, p.1, q.1, _, r1, r2, dm, (PFa.bindV (O := O) h3).mono fun z H3 ⟨w, s3, v3, h4⟩ => ?_⟩
    have r3 := v3.rep dm
    obtain ⟨d, fr⟩ := w
    cases d with
    | bl k => cases r3; exact ⟨k, rfl, h4 _ (Same.refl _)⟩
    | _ => exact h4.elim
  by_cases hc : o = .isN ∨ o = .notN
  · rw [hn hc] at h2 ⊢
    intro y H2 s2 v2
    obtain ⟨q, s2', v2', h3⟩ := h2 y H2 s2 v2
    exact ⟨fin ((v1.rep A.dom).same s2) (v2'.rep A1.dom) (A1.dom.same s2) h3, fun _ => v2⟩
  · exact h2.mono fun y H2 ⟨q, s2, v2, h3⟩ => ⟨fin ((v1.rep A.dom).same s2) (v2.rep A1.dom) (A1.dom.same s2) h3, fun z => absurd z hc⟩
theorem plainC_of {o : Cop} (h : plainC o = true) : ¬ (o = .isN ∨ o = .notN) := by
  rintro (rfl | rfl) <;> cases h
theorem s_chn (ok : XOk N st sc C X) {o o' : Cop} (ha : PE X a (tE (gd X) W ma)) (hb : PE X b (tE (gd X) W mb)) (hc : PE X c (tE (gd X) W mc)) (hm : isVal c = true) (p1 : plainC o = true) (p2 : plainC o' = true) :
    PE X (.Compare a [o.op, o'.op] [b, c] pos) (tE (gd X) W fun ρ => (ma ρ).bind fun x => (mb ρ).bind fun y => (cmpD o x.1 y.1).bind fun z => match z.1 with
      | .bl true => (mc ρ).bind fun w => cmpD o' y.1 w.1
      | .bl false => dBl false
      | _ => .bad) := by
  refine (pe_chain (cop_ok ok.un o) (cop_ok ok.un o') ha hb hc (isVal_last hm)).imp fun σ H Q ⟨ρ, O, A, h⟩ => ?_
  refine ⟨ρ, O, A, (PF.bind h).mono fun x H1 ⟨p, s1, v1, h1⟩ => ?_⟩
  have A1 := A.same s1
  refine ⟨ρ, O, A1, (PF.bind h1).mono fun y H2 ⟨q, s2, v2, h2⟩ => ⟨?_, fun z => absurd z (plainC_of p1)⟩⟩
  have A2 := A1.same s2
  refine ⟨O, p.1, q.1, _, (v1.rep A.dom).same s2, v2.rep A1.dom, A2.dom, (PF.bind h2).mono fun z H3 ⟨w, s3, v3, h3⟩ => ?_⟩
  have r3 := v3.rep A2.dom
  obtain ⟨d, fr⟩ := w
  cases d with
  | bl k =>
    cases r3
    refine ⟨k, rfl, ?_⟩
    cases k with
    | true =>
      have A3 := A2.same s3
      exact iteT ⟨ρ, O, A3, (PF.bind h3).mono fun w H4 ⟨g, s4, v4, h4⟩ => ⟨⟨O, q.1, g.1, _, ((v2.rep A1.dom).same s3).same s4, v4.rep A3.dom, A3.dom.same s4, h4⟩, fun z => absurd z (plainC_of p2)⟩⟩
    | false => exact iteF h3.ok_bl
  | _ => exact h3.elim
theorem t_chn (ok : XOk N st sc C X) {o o' : Cop} (ha : PE X a (tE (gd X) W ma)) (hb : PE X b (tE (gd X) W mb)) (hc : PE X c (tE (gd X) W mc)) (hm : isVal c = true) (p1 : plainC o = true) (p2 : plainC o' = true) :
    PT X (.Compare a [o.op, o'.op] [b, c] pos) (tT (gd X) W fun ρ => (ma ρ).bind fun x => (mb ρ).bind fun y => (cmpD o x.1 y.1).bind fun z => match z.1 with
      | .bl true => (mc ρ).bind fun w => (cmpD o' y.1 w.1).bind fun z => match z.1 with
        | .bl k => .ok k
        | _ => .bad
      | .bl false => .ok false
      | _ => .bad) := by
  refine (pt_chain (cop_ok ok.un o) (cop_ok ok.un o') ha hb hc (isVal_last hm)).imp fun σ H Q ⟨ρ, O, A, h⟩ => ?_
  refine ⟨ρ, O, A, (PFa.bindV (O := O) h).mono fun x H1 ⟨p, s1, v1, h1⟩ => ?_⟩
  have A1 := A.same s1
  refine ⟨ρ, O, A1, (PFa.bindV (O := O) h1).mono fun y H2 ⟨q, s2, v2, h2⟩ => ⟨?_, fun z => absurd z (plainC_of p1)⟩⟩
  have A2 := A1.same s2
  refine ⟨O, p.1, q.1, _, (v1.rep A.dom).same s2, v2.rep A1.dom, A2.dom, (PFa.bindV (O := O) h2).mono fun z H3 ⟨w, s3, v3, h3⟩ => ?_⟩
  have r3 := v3.rep A2.dom
  obtain ⟨d, fr⟩ := w
  cases d with
  | bl k =>
    cases r3
    refine ⟨k, rfl, ?_⟩
    cases k with
    | true =>
      have A3 := A2.same s3
      refine iteT ⟨ρ, O, A3, (PFa.bindV (O := O) h3).mono fun w H4 ⟨g, s4, v4, h4⟩ => ⟨⟨O, q.1, g.1, _, ((v2.rep A1.dom).same s3).same s4, v4.rep A3.dom, A3.dom.same s4, (PFa.bindV (O := O) h4).mono fun z H5 ⟨w, s5, v5, h5⟩ => ?_⟩, fun z => absurd z (plainC_of p2)⟩⟩
      have r5 := v5.rep (A3.dom.same s4)
      obtain ⟨d, fr⟩ := w
      cases d with
      | bl k => cases r5; exact ⟨k, rfl, h5 _ (Same.refl _)⟩
      | _ => exact h5.elim
    | false => exact iteF ⟨false, rfl, h3 _ (Same.refl _)⟩
  | _ => exact h3.elim

/-! ### tests -/
variable {ta tb : List Sl → Rz Bool}
theorem t_and {rest : List Expr} (ha : PT X a (tT (gd X) W ta)) (hb : PW X (.BoolOp .And (b :: rest) pos) (tT (gd X) W tb)) : PW X (.BoolOp .And (a :: b :: rest) pos) (tT (gd X) W fun ρ => (ta ρ).bind fun x => if x = true then tb ρ else .ok false) := by
  refine (pw_and ha hb).imp fun σ H Q ⟨ρ, O, A, h⟩ => ?_
  refine ⟨ρ, O, A, (PFa.bind h).mono fun k H1 ⟨s1, h1⟩ => ?_⟩
  cases k with
  | true => exact iteT ⟨ρ, O, A.same s1, h1⟩
  | false => exact iteF (h1 _ (Same.refl _))
theorem t_or {rest : List Expr} (ha : PT X a (tT (gd X) W ta)) (hb : PW X (.BoolOp .Or (b :: rest) pos) (tT (gd X) W tb)) : PW X (.BoolOp .Or (a :: b :: rest) pos) (tT (gd X) W fun ρ => (ta ρ).bind fun x => if x = true then .ok true else tb ρ) := by
  refine (pw_or ha hb).imp fun σ H Q ⟨ρ, O, A, h⟩ => ?_
  refine ⟨ρ, O, A, (PFa.bind h).mono fun k H1 ⟨s1, h1⟩ => ?_⟩
  cases k with
  | true => exact iteT (h1 _ (Same.refl _))
  | false => exact iteF ⟨ρ, O, A.same s1, h1⟩
theorem t_not (ha : PT X a (tT (gd X) W ta)) : PT X (.UnaryOp .Not a pos) (tT (gd X) W fun ρ => (ta ρ).bind fun x => .ok (!x)) := by
  refine (pt_not ha).imp fun σ H Q ⟨ρ, O, A, h⟩ => ?_
  exact ⟨ρ, O, A, (PFa.bind h).mono fun k H1 ⟨s1, h1⟩ => h1 _ (Same.refl _)⟩
theorem tru_of {G : Gd} {O : Own} {H : Hp} {d : D} {v : V} {k : Bool} (h : Rep G O H d v) (e : truthD d = .ok k) : TruV G.K v H k := by
  cases d with
  | non => cases h; cases e; rfl
  | bl _ => cases h; cases e; rfl
  | int _ => cases h; cases e; rfl
  | str _ => obtain ⟨rfl, q⟩ := h; cases e; exact ⟨q, rfl⟩
  | tup ds =>
    obtain ⟨a, vs, rfl, h1, h2, h3⟩ := h
    cases e
    refine .inr (.inl ⟨vs, ?_, ?_⟩)
    · rcases h1 with ⟨h1, _⟩ | h1
      · exact .inl (.inl h1)
      · exact .inr h1
    · have := h3.length
      cases ds <;> cases vs <;> first | rfl | simp at this
  | lst ds =>
    obtain ⟨a, vs, rfl, h1, h2, h3⟩ := h
    cases e
    refine .inl ⟨vs, .inl h1.1, ?_⟩
    have := h3.length
    cases ds <;> cases vs <;> first | rfl | simp at this
  | dct lk ds => cases e
  | ins _ _ => cases e
  | exc _ => cases e
  | dtn _ _ => cases e
  | kl _ => cases e
theorem t_val (hp : isPlain a = true) (ha : PE X a (tE (gd X) W ma)) : PT X a (tT (gd X) W fun ρ => (ma ρ).bind fun x => truthD x.1) := by
  refine (pt_truth ha (isPlain_of hp)).imp fun σ H Q ⟨ρ, O, A, h⟩ => ?_
  refine ⟨ρ, O, A, (PFa.bindV (O := O) h).mono fun x H1 ⟨p, s1, v1, h1⟩ => ?_⟩
  have r := v1.rep A.dom
  cases e : truthD p.1 with
  | ok k => rw [e] at h1; exact ⟨k, tru_of r e, h1 _ (Same.refl _)⟩
  | exc c => obtain ⟨d, fr⟩ := p; cases d <;> cases e
  | bad => rw [e] at h1; exact h1.elim
theorem s_lent {is : List Nat} (ha : PE X a (tE (gd X) W ma)) : PE X a (tE (gd X) W fun ρ => (ma (thaw is ρ)).bind lentOk) := by
  refine ha.imp fun σ H Q ⟨ρ, O, A, h⟩ => ?_
  obtain ⟨O', h1, h2, A'⟩ := A.thaw (is := is)
  exact ⟨thaw is ρ, O', A', PF.lent h1 h2 A.dom h⟩
theorem t_lent {is : List Nat} (ha : PT X a (tT (gd X) W ta)) : PT X a (tT (gd X) W fun ρ => ta (thaw is ρ)) := by
  refine ha.imp fun σ H Q ⟨ρ, O, A, h⟩ => ?_
  obtain ⟨O', h1, h2, A'⟩ := A.thaw (is := is)
  exact ⟨thaw is ρ, O', A', h⟩

/-! ### displays, subscripts -/
variable {es : List Expr} {e : Expr} {ms : List Sl → Rz (List D)}
theorem a_nil : PA X [] (tA (gd X) W fun _ => .ok []) := pa_nil.imp fun σ H Q ⟨ρ, O, A, h⟩ => h H (Same.refl H) [] rfl
theorem a_cons (hv : isVal e = true) (he : PE X e (tE (gd X) W ma)) (hr : PA X es (tA (gd X) W ms)) : PA X (e :: es) (tA (gd X) W fun ρ => (ma ρ).bind fun x => (ms ρ).bind fun xs => .ok (x.1 :: xs)) := by
  refine (pa_cons he hr (isVal_star hv)).imp fun σ H Q ⟨ρ, O, A, h⟩ => ?_
  refine ⟨ρ, O, A, (PFa.bindV (O := O) h).mono fun x H1 ⟨p, s1, v1, h1⟩ => ?_⟩
  have A1 := A.same s1
  have h2 := PFa.bind h1
  refine ⟨ρ, O, A1, h2.mono fun ds H2 ⟨s2, h3⟩ vs hv => ?_⟩
  exact h3 _ (Same.refl _) _ ⟨x, vs, rfl, (v1.rep A.dom).same s2, hv⟩
theorem same_upd {H : Hp} {p : Addr} {o : HO} (h : H p = none) : Same H (upd H p o) := fun c u q => by rw [upd_ne (ne_of_none q h)]; exact q
theorem s_tup {k : Nat} (h : PA X es (tA (gd X) W ms)) : PE X (.Tuple es k pos) (tE (gd X) W fun ρ => (ms ρ).bind fun ds => if ds.length ≤ LIM then .ok (.tup ds, false) else .bad) := by
  refine (pe_tup h).imp fun σ H Q ⟨ρ, O, A, h⟩ => ?_
  refine ⟨ρ, O, A, (PF.bindA h).mono fun ds H1 ⟨s1, h1⟩ vs hv => ?_⟩
  split at h1
  · rename_i hz
    rw [limE] at hz
    refine ⟨by rw [hv.length]; exact hz, fun p hp => h1 _ _ (same_upd hp) ?_⟩
    exact ⟨p, vs, rfl, .inl ⟨upd_same, (A.dom.same s1).free hp⟩, hz, hv.same (same_upd hp)⟩
  · exact h1.elim
theorem s_lst (h : PA X es (tA (gd X) W ms)) : PE X (.List es pos) (tE (gd X) W fun ρ => (ms ρ).bind fun ds => if ds.length ≤ LIM then .ok (.lst ds, true) else .bad) := by
  refine (pe_lst h).imp fun σ H Q ⟨ρ, O, A, h⟩ => ?_
  refine ⟨ρ, O, A, (PF.bindA h).mono fun ds H1 ⟨s1, h1⟩ vs hv => ?_⟩
  split at h1
  · rename_i hz
    rw [limE] at hz
    refine ⟨by rw [hv.length]; exact hz, fun p hp => h1 _ _ (same_upd hp) ?_⟩
    exact ⟨p, rfl, hp, vs, upd_same, hz, (hv.more hp).same (same_upd hp)⟩
  · exact h1.elim
theorem kl_sq {K : PySem.W.Frag} {O : Own} {H : Hp} {a : Addr} {vs : List V} (h : (Rd H a (.lst vs) ∧ ¬ O a) ∨ KLst K a vs) : SqL K H a vs := by
  rcases h with ⟨h, _⟩ | h
  · exact .inl h
  · exact .inr h
theorem ix_ok (hu : X.A.units + 64 < cLine) : IxR X (rB (gd X) ixD) := by
  intro value slice pins s σ H x y v u Q I rx ry h hs
  obtain ⟨O, d, e, E, hd, he, dm, h⟩ := h
  cases d with
  | lst xs =>
    cases e with
    | int i =>
      cases he
      obtain ⟨a, vs, rfl, h1, h2, h3⟩ := rd_rep hd
      simp only [ixD] at h
      cases q : atI xs i with
      | none => rw [q] at h; exact h.elim
      | some d =>
        rw [q] at h
        unfold atI at q
        rw [Option.bind_eq_some_iff] at q
        obtain ⟨j, q1, q2⟩ := q
        obtain ⟨w, w1, w2⟩ := h3.get' q2
        refine ix_list value slice pins s σ H _ _ v u Q I rx ry ⟨a, vs, i, w, rfl, rfl, .inl h1, ?_, h _ _ (Same.refl _) w2⟩ hs
        unfold atI
        rw [h3.length, q1]
        exact w1
    | _ => exact h.elim
  | kl xs =>
    cases e with
    | int i =>
      cases he
      obtain ⟨a, vs, rfl, h1, h2, h3⟩ := hd
      simp only [ixD] at h
      cases q : atI xs i with
      | none => rw [q] at h; exact h.elim
      | some d =>
        rw [q] at h
        unfold atI at q
        rw [Option.bind_eq_some_iff] at q
        obtain ⟨j, q1, q2⟩ := q
        obtain ⟨w, w1, w2⟩ := h3.get' q2
        refine ix_list value slice pins s σ H _ _ v u Q I rx ry ⟨a, vs, i, w, rfl, rfl, kl_sq h1, ?_, h _ _ (Same.refl _) w2⟩ hs
        unfold atI
        rw [h3.length, q1]
        exact w1
    | _ => exact h.elim
  | tup xs =>
    cases e with
    | int i =>
      cases he
      obtain ⟨a, vs, rfl, h1, h2, h3⟩ := hd
      simp only [ixD] at h
      cases q : atI xs i with
      | none => rw [q] at h; exact h.elim
      | some d =>
        rw [q] at h
        unfold atI at q
        rw [Option.bind_eq_some_iff] at q
        obtain ⟨j, q1, q2⟩ := q
        obtain ⟨w, w1, w2⟩ := h3.get' q2
        refine ix_tup value slice pins s σ H _ _ v u Q I rx ry ⟨a, vs, i, w, rfl, rfl, ?_, ?_, h _ _ (Same.refl _) w2⟩ hs
        · rcases h1 with ⟨h1, _⟩ | h1
          · exact .inl (.inl h1)
          · exact .inr h1
        · unfold atI
          rw [h3.length, q1]
          exact w1
    | _ => exact h.elim
  | dct lk kvs =>
    obtain ⟨a, ws, rfl, ⟨h1, _⟩, h2, h3, _⟩ := hd
    have h : PF (gd X) O H E (match keyOf e with | some k => (match lookKD kvs k with | some d => .ok (d, false) | none => .bad) | none => .bad) Q := by
      cases e <;> exact h
    cases hk : keyOf e with
    | none => rw [hk] at h; exact h.elim
    | some k =>
      rw [hk] at h
      dsimp only at h
      have ek := key_V he hk
      subst ek
      obtain ⟨o, g1, g2, g3, g4⟩ := dget_rep (k := k) h1 h3
      cases hl : lookKD kvs k with
      | none => rw [hl] at h; exact h.elim
      | some d' =>
        rw [hl] at h
        obtain ⟨w, rfl, hw⟩ := g3 d' hl
        obtain rfl : v = Value.ref a := rx
        exact PyProof.Rows.tail_any (dict_typeIs I g1) PySem.F.slot_dict_getitem.lookup (d_getItem (by omega) I g1 ry fun w' s' I' rw' => ⟨w, H, I', rw', h _ _ (Same.refl _) hw⟩) hs
  | dtn lk kvs =>
    obtain ⟨a, ws, rfl, ⟨h1, _⟩, h2, h3⟩ := hd
    have h : PF (gd X) O H E (if okN kvs e = true then (match lookN kvs e with | some d => .ok (d, false) | none => .bad) else .bad) Q := by
      cases e <;> exact h
    split at h
    · rename_i hk
      cases hl : lookN kvs e with
      | none => rw [hl] at h; exact h.elim
      | some d' =>
        rw [hl] at h
        obtain rfl : v = Value.ref a := rx
        obtain ⟨o, es, ep, us, q1, q2, _⟩ := dn_rd I.hok h1.rd
        exact PyProof.Rows.tail_any ⟨o, q1, q2.1⟩ PySem.F.slot_dict_getitem.lookup (d_getN (by omega) I h1.rd h3 hk he ry hl fun v' w' s' I' r' rw' => ⟨v', H, I', rw', h _ _ (Same.refl _) r'⟩) hs
    · exact h.elim
  | str z =>
    cases e with
    | int i =>
      cases he
      obtain ⟨rfl, hz⟩ := hd
      simp only [ixD] at h
      cases q : atI z.cps.toList i with
      | none => rw [q] at h; exact h.elim
      | some c =>
        rw [q] at h
        exact ix_str value slice pins s σ H _ _ v u Q I rx ry ⟨z, i, c, rfl, rfl, hz, q, h _ _ (Same.refl _) ⟨rfl, by show 1 ≤ sizeLine; decide⟩⟩ hs
    | _ => exact h.elim
  | _ => cases e <;> exact h.elim
theorem s_idx (ok : XOk N st sc C X) (hv : isVal b = true) (ha : PE X a (tE (gd X) W ma)) (hb : PE X b (tE (gd X) W mb)) : PE X (.Subscript a b pos) (tE (gd X) W fun ρ => (ma ρ).bind fun x => (mb ρ).bind fun y => ixD x.1 y.1) := by
  refine (pe_ix (ix_ok ok.un) ha hb (isVal_ix hv)).imp fun σ H Q ⟨ρ, O, A, h⟩ => ?_
  refine ⟨ρ, O, A, (PF.bind h).mono fun x H1 ⟨p, s1, v1, h1⟩ => ?_⟩
  have A1 := A.same s1
  refine ⟨ρ, O, A1, (PF.bind h1).mono fun y H2 ⟨q, s2, v2, h2⟩ => ?_⟩
  exact ⟨O, p.1, q.1, _, (v1.rep A.dom).same s2, v2.rep A1.dom, A1.dom.same s2, h2⟩
end
end DL

namespace DL
open PySem PySem.Spec L2

/-- what stood and was not owned, stands and is not owned -/
def Step (O : Own) (H : Hp) (O' : Own) (H' : Hp) : Prop := ∀ a o, H a = some o → ¬ O a → H' a = some o ∧ ¬ O' a
theorem Step.refl (O : Own) (H : Hp) : Step O H O H := fun _ _ h n => ⟨h, n⟩
theorem Step.trans {O O1 O2 : Own} {H H1 H2 : Hp} (a : Step O H O1 H1) (b : Step O1 H1 O2 H2) : Step O H O2 H2 := fun x o h n => b x o (a x o h n).1 (a x o h n).2
theorem Step.same {O : Own} {H H' : Hp} (e : Same H H') : Step O H O H' := fun a o h n => ⟨e a o h, n⟩
theorem Rep.step {G : Gd} {O O' : Own} {H H' : Hp} {d : D} {v : V} (s : Step O H O' H') (h : Rep G O H d v) : Rep G O' H' d v := Rep.ext s d v h
theorem Reps.step {G : Gd} {O O' : Own} {H H' : Hp} {d : List D} {v : List V} (s : Step O H O' H') (h : Reps G O H d v) : Reps G O' H' d v := Reps.ext s d v h
theorem KTup.step {G : Gd} {O O' : Own} {H H' : Hp} {a : Addr} {vs : List V} (s : Step O H O' H') (h : (H a = some (.tup vs) ∧ ¬ O a) ∨ KTup G.K a vs) : (H' a = some (.tup vs) ∧ ¬ O' a) ∨ KTup G.K a vs := by
  rcases h with ⟨h1, h2⟩ | h
  · exact .inl (s a _ h1 h2)
  · exact .inr h

/-- J walks over ds -/
structure Iter (G : Gd) (O : Own) (J : L2.It) (ds : List D) (H : Hp) : Prop where
  go : ∀ i O' H', Step O H O' H' → i < ds.length → J.go i H'
  stop : ∀ O' H', Step O H O' H' → J.stop ds.length H'
  yld : ∀ i O' H' x H'', Step O H O' H' → Dom O' H' → i < ds.length → J.yld i H' x H'' → ∃ d, ds[i]? = some d ∧ Same H' H'' ∧ Rep G O' H'' d x
def tI (G : Gd) (W : WX) (m : List Sl → Rz (List D)) : TI := fun σ H R => ∃ ρ O, Ag G O ρ σ H ∧ PFa G H (WE' W σ) (m ρ) fun ds H' => ds.length ≤ sizeLine → ∀ J, Iter G O J ds H' → R J H'

theorem getElem?_of_lt {α : Type} {xs : List α} {i : Nat} (h : i < xs.length) : ∃ x, xs[i]? = some x := ⟨_, List.getElem?_eq_getElem h⟩
theorem iter_list {G : Gd} {O : Own} {H : Hp} {a : Addr} {vs : List V} {ds : List D} (h : Rd H a (.lst vs)) (n : ¬ O a) (r : Reps G O H ds vs) : Iter G O (Itl G.K a) ds H := by
  have key : ∀ {O' : Own} {H' : Hp}, Step O H O' H' → SqL G.K H' a vs := fun s => by
    rcases h with h | ⟨o, h⟩
    · exact .inl (.inl (s a _ h n).1)
    · exact .inl (.inr ⟨o, (s a _ h n).1⟩)
  refine ⟨fun i O' H' s hi => ?_, fun O' H' s => ⟨vs, key s, by rw [r.length]; exact Nat.le_refl _⟩, fun i O' H' x H'' s dm hi y => ?_⟩
  · obtain ⟨x, hx⟩ := getElem?_of_lt (xs := vs) (i := i) (by rw [r.length]; exact hi)
    exact ⟨vs, x, key s, hx⟩
  · obtain ⟨rfl, y⟩ := y
    have hx := y vs (key s)
    obtain ⟨d, h1, h2⟩ := r.get hx
    exact ⟨d, h1, Same.refl _, h2.step s⟩
theorem iter_kl {G : Gd} {O : Own} {H : Hp} {a : Addr} {vs : List V} {ds : List D} (h : (Rd H a (.lst vs) ∧ ¬ O a) ∨ KLst G.K a vs) (r : Reps G O H ds vs) : Iter G O (Itl G.K a) ds H := by
  have key : ∀ {O' : Own} {H' : Hp}, Step O H O' H' → SqL G.K H' a vs := fun s => by
    rcases h with ⟨h, n⟩ | h
    · rcases h with h | ⟨o, h⟩
      · exact .inl (.inl (s a _ h n).1)
      · exact .inl (.inr ⟨o, (s a _ h n).1⟩)
    · exact .inr h
  refine ⟨fun i O' H' s hi => ?_, fun O' H' s => ⟨vs, key s, by rw [r.length]; exact Nat.le_refl _⟩, fun i O' H' x H'' s dm hi y => ?_⟩
  · obtain ⟨x, hx⟩ := getElem?_of_lt (xs := vs) (i := i) (by rw [r.length]; exact hi)
    exact ⟨vs, x, key s, hx⟩
  · obtain ⟨rfl, y⟩ := y
    have hx := y vs (key s)
    obtain ⟨d, h1, h2⟩ := r.get hx
    exact ⟨d, h1, Same.refl _, h2.step s⟩
theorem iter_tup {G : Gd} {O : Own} {H : Hp} {a : Addr} {vs : List V} {ds : List D} (h : (H a = some (.tup vs) ∧ ¬ O a) ∨ KTup G.K a vs) (r : Reps G O H ds vs) : Iter G O (Itt G.K a) ds H := by
  have key : ∀ {O' : Own} {H' : Hp}, Step O H O' H' → SqT G.K H' a vs := fun s => by
    rcases h with ⟨h, n⟩ | h
    · exact .inl (.inl (s a _ h n).1)
    · exact .inr h
  refine ⟨fun i O' H' s hi => ?_, fun O' H' s => ⟨vs, key s, by rw [r.length]; exact Nat.le_refl _⟩, fun i O' H' x H'' s dm hi y => ?_⟩
  · obtain ⟨x, hx⟩ := getElem?_of_lt (xs := vs) (i := i) (by rw [r.length]; exact hi)
    exact ⟨vs, x, key s, hx⟩
  · obtain ⟨rfl, y⟩ := y
    have hx := y vs (key s)
    obtain ⟨d, h1, h2⟩ := r.get hx
    exact ⟨d, h1, Same.refl _, h2.step s⟩
theorem rngD_get {lo : Int} {n i : Nat} (h : i < n) : (rngD lo n)[i]? = some (.int (lo + i)) := by
  unfold rngD
  rw [List.getElem?_map, List.getElem?_range h]
  rfl
theorem rngD_length {lo : Int} {n : Nat} : (rngD lo n).length = n := by unfold rngD; rw [List.length_map, List.length_range]
theorem iter_rng {G : Gd} {O : Own} {H : Hp} {lo : Int} {n : Nat} : Iter G O (Itr lo n) (rngD lo n) H := by
  refine ⟨fun i O' H' s hi => ?_, fun O' H' s => ?_, fun i O' H' x H'' s dm hi y => ?_⟩
  · rw [rngD_length] at hi; exact hi
  · rw [rngD_length]; exact Nat.le_refl n
  · obtain ⟨rfl, rfl⟩ := y
    rw [rngD_length] at hi
    exact ⟨_, rngD_get hi, Same.refl _, rfl⟩
theorem getElem?_map_some {α β : Type} {f : α → β} {xs : List α} {i : Nat} {x : α} (h : xs[i]? = some x) : (xs.map f)[i]? = some (f x) := by rw [List.getElem?_map, h]; rfl
/-- a locked dict's keys -/
theorem iter_keysD {G : Gd} {O : Own} {H : Hp} {a : Addr} {o : Obj} {ws : List (Key × V)} {kvs : List (Key × D)} (h : H a = some (.frz o (.dK ws))) (n : ¬ O a) (r : RepK G O H kvs ws) (kl : ∀ kv ∈ kvs, ∀ x, kv.1 = Sum.inr x → x.length ≤ sizeLine) : Iter G O (Itk a o ws) (kvs.map fun kv => kD kv.1) H := by
  have hl := r.length
  refine ⟨fun i O' H' s hi => ?_, fun O' H' s => ?_, fun i O' H' x H'' s dm hi y => ?_⟩
  · rw [List.length_map] at hi
    exact ⟨(s a _ h n).1, by rw [hl]; exact hi⟩
  · exact ⟨(s a _ h n).1, by rw [hl, List.length_map]; exact Nat.le_refl _⟩
  · obtain ⟨rfl, k, v, e, rfl⟩ := y
    have ek : (kvs.map (·.1))[i]? = some k := by rw [← r.keys, List.getElem?_map, e]; rfl
    rw [List.getElem?_map, Option.map_eq_some_iff] at ek
    obtain ⟨kv, e1, e2⟩ := ek
    refine ⟨kD k, ?_, Same.refl _, ?_⟩
    · rw [List.getElem?_map, e1]; subst e2; rfl
    · cases k with
      | inl j => rfl
      | inr x => exact ⟨rfl, kl kv (List.mem_of_getElem? e1) x e2⟩
theorem RepK.at {G : Gd} {O : Own} {H : Hp} : ∀ {kvs : List (Key × D)} {ws : List (Key × V)} {i : Nat} {k : Key} {v : V}, RepK G O H kvs ws → ws[i]? = some (k, v) → ∃ d, kvs[i]? = some (k, d) ∧ Rep G O H d v
  | [], _, i, k, v, h, e => by cases h; simp at e
  | (j, d) :: kvs, _, 0, k, v, h, e => by
    obtain ⟨w, s, rfl, h1, h2⟩ := h
    simp at e
    obtain ⟨rfl, rfl⟩ := e
    exact ⟨d, rfl, h1⟩
  | (j, d) :: kvs, _, i + 1, k, v, h, e => by
    obtain ⟨w, s, rfl, h1, h2⟩ := h
    obtain ⟨d', e', q⟩ := RepK.at h2 (by simpa using e)
    exact ⟨d', by simpa using e', q⟩
theorem rep_kD {G : Gd} {O : Own} {H : Hp} {k : Key} (h : ∀ x, k = Sum.inr x → x.length ≤ sizeLine) : Rep G O H (kD k) (kV k) := by
  cases k with
  | inl j => rfl
  | inr x => exact ⟨rfl, h x rfl⟩
theorem rep_pair {G : Gd} {O : Own} {H : Hp} {T : Addr} {d e : D} {v w : V} (dm : Dom O H) (hT : H T = none) (h1 : Rep G O H d v) (h2 : Rep G O H e w) : Same H (upd H T (.tup [v, w])) ∧ Rep G O (upd H T (.tup [v, w])) (.tup [d, e]) (.ref T) := by
  have s := same_upd (o := .tup [v, w]) hT
  exact ⟨s, T, [v, w], rfl, .inl ⟨upd_same, dm.free hT⟩, by show 2 ≤ sizeLine; decide, v, [w], rfl, h1.same s, w, [], rfl, h2.same s, rfl⟩
/-- a locked dict's pairs -/
theorem iter_itemsD {G : Gd} {O : Own} {H : Hp} {a : Addr} {o : Obj} {ws : List (Key × V)} {kvs : List (Key × D)} (h : H a = some (.frz o (.dK ws))) (n : ¬ O a) (r : RepK G O H kvs ws) (kl : ∀ kv ∈ kvs, ∀ x, kv.1 = Sum.inr x → x.length ≤ sizeLine) : Iter G O (Iti a o ws) (kvs.map fun kv => .tup [kD kv.1, kv.2]) H := by
  have hl := r.length
  refine ⟨fun i O' H' s hi => ?_, fun O' H' s => ?_, fun i O' H' x H'' s dm hi y => ?_⟩
  · rw [List.length_map] at hi
    exact ⟨(s a _ h n).1, by rw [hl]; exact hi⟩
  · exact ⟨(s a _ h n).1, by rw [hl, List.length_map]; exact Nat.le_refl _⟩
  · obtain ⟨T, k, v, e, rfl, hT, rfl⟩ := y
    obtain ⟨d, e1, e2⟩ := r.at e
    obtain ⟨q1, q2⟩ := rep_pair dm hT (rep_kD (G := G) (fun x hx => kl _ (List.mem_of_getElem? e1) x hx)) (e2.step s)
    exact ⟨_, getElem?_map_some e1, q1, q2⟩
theorem enumD_length : ∀ {n : Nat} {ds : List D}, (enumD n ds).length = ds.length
  | _, [] => rfl
  | n, d :: ds => congrArg (· + 1) enumD_length
theorem enumD_get : ∀ {n i : Nat} {ds : List D} {d : D}, ds[i]? = some d → (enumD n ds)[i]? = some (.tup [.int ((n + i : Nat) : Int), d])
  | _, _, [], _, h => by simp at h
  | n, 0, d :: ds, e, h => by
    simp at h; subst h; rfl
  | n, i + 1, d :: ds, e, h => by
    have := enumD_get (n := n + 1) (i := i) (ds := ds) (d := e) (by simpa using h)
    show (enumD (n + 1) ds)[i]? = _
    rw [this, show n + 1 + i = n + (i + 1) by omega]
/-- a list, as it can be looked at -/
theorem lst_view {G : Gd} {O : Own} {H : Hp} {d : D} {v : V} {ds : List D} (h : Rep G O H d v) (e : lstOf d = some ds) : ∃ a vs, v = .ref a ∧ (∀ O' H', Step O H O' H' → SqL G.K H' a vs) ∧ Reps G O H ds vs ∧ ds.length ≤ sizeLine := by
  cases d with
  | lst xs =>
    cases e
    obtain ⟨a, vs, rfl, ⟨h1, h4⟩, h2, h3⟩ := h
    refine ⟨a, vs, rfl, fun O' H' s => ?_, h3, h2⟩
    rcases h1 with h1 | ⟨o, h1⟩
    · exact .inl (.inl (s a _ h1 h4).1)
    · exact .inl (.inr ⟨o, (s a _ h1 h4).1⟩)
  | kl xs =>
    cases e
    obtain ⟨a, vs, rfl, h1, h2, h3⟩ := h
    refine ⟨a, vs, rfl, fun O' H' s => ?_, h3, h2⟩
    rcases h1 with ⟨h1, h4⟩ | h1
    · rcases h1 with h1 | ⟨o, h1⟩
      · exact .inl (.inl (s a _ h1 h4).1)
      · exact .inl (.inr ⟨o, (s a _ h1 h4).1⟩)
    · exact .inr h1
  | _ => cases e
theorem iter_enum {G : Gd} {O : Own} {H : Hp} {a : Addr} {vs : List V} {ds : List D} (key : ∀ O' H', Step O H O' H' → SqL G.K H' a vs) (r : Reps G O H ds vs) : Iter G O (Ite G.K a) (enumD 0 ds) H := by
  refine ⟨fun i O' H' s hi => ?_, fun O' H' s => ⟨vs, key _ _ s, by rw [r.length, enumD_length]; exact Nat.le_refl _⟩, fun i O' H' x H'' s dm hi y => ?_⟩
  · rw [enumD_length] at hi
    obtain ⟨x, hx⟩ := getElem?_of_lt (xs := vs) (i := i) (by rw [r.length]; exact hi)
    exact ⟨vs, x, key _ _ s, hx⟩
  · obtain ⟨T, x, rfl, hT, rfl, y⟩ := y
    obtain ⟨d, h1, h2⟩ := r.get (y vs (key _ _ s))
    obtain ⟨q1, q2⟩ := rep_pair (d := .int (i : Nat)) (v := .int (i : Nat)) dm hT rfl (h2.step s)
    refine ⟨_, enumD_get h1, q1, ?_⟩
    rw [Nat.zero_add]
    exact q2
theorem zipD_get {xs ys : List D} {i : Nat} {x y : D} (h1 : xs[i]? = some x) (h2 : ys[i]? = some y) : (zipD xs ys)[i]? = some (.tup [x, y]) := by
  unfold zipD
  rw [List.getElem?_zipWith, h1, h2]
theorem iter_zip {G : Gd} {O : Own} {H : Hp} {a b : Addr} {vs ws : List V} {ds es : List D} (key : ∀ O' H', Step O H O' H' → SqL G.K H' a vs) (r : Reps G O H ds vs) (key2 : ∀ O' H', Step O H O' H' → SqL G.K H' b ws) (r2 : Reps G O H es ws) : Iter G O (Itz G.K a b) (zipD ds es) H := by
  have hz : (zipD ds es).length = min ds.length es.length := by unfold zipD; rw [List.length_zipWith]
  refine ⟨fun i O' H' s hi => ?_, fun O' H' s => ⟨vs, ws, key _ _ s, key2 _ _ s, ?_⟩, fun i O' H' x H'' s dm hi y => ?_⟩
  · rw [hz] at hi
    obtain ⟨x, hx⟩ := getElem?_of_lt (xs := vs) (i := i) (by rw [r.length]; omega)
    obtain ⟨y, hy⟩ := getElem?_of_lt (xs := ws) (i := i) (by rw [r2.length]; omega)
    exact ⟨vs, ws, x, y, key _ _ s, key2 _ _ s, hx, hy⟩
  · rw [hz, r.length, r2.length]
    omega
  · obtain ⟨T, x, y, rfl, hT, rfl, y1, y2⟩ := y
    obtain ⟨d, h1, h2⟩ := r.get (y1 vs (key _ _ s))
    obtain ⟨e, k1, k2⟩ := r2.get (y2 ws (key2 _ _ s))
    obtain ⟨q1, q2⟩ := rep_pair dm hT (h2.step s) (k2.step s)
    exact ⟨_, zipD_get h1 k1, q1, q2⟩
theorem tup_lst {d : D} {xs ys : List D} (h : tupOf d = some xs) (k : lstOf d = some ys) : False := by cases d <;> simp [tupOf, lstOf] at h k
theorem tup_view {G : Gd} {O : Own} {H : Hp} {d : D} {v : V} {ds : List D} (h : Rep G O H d v) (e : tupOf d = some ds) : ∃ a vs, v = .ref a ∧ (∀ O' H', Step O H O' H' → SqT G.K H' a vs) ∧ Reps G O H ds vs ∧ ds.length ≤ sizeLine := by
  cases d with
  | tup xs =>
    cases e
    obtain ⟨a, vs, rfl, h1, h2, h3⟩ := h
    refine ⟨a, vs, rfl, fun O' H' s => ?_, h3, h2⟩
    rcases h1 with ⟨h1, n⟩ | h1
    · exact .inl (.inl (s a _ h1 n).1)
    · exact .inr h1
  | _ => cases e
theorem iter_zipT {G : Gd} {O : Own} {H : Hp} {a b : Addr} {vs ws : List V} {ds es : List D} (key : ∀ O' H', Step O H O' H' → SqT G.K H' a vs) (r : Reps G O H ds vs) (key2 : ∀ O' H', Step O H O' H' → SqT G.K H' b ws) (r2 : Reps G O H es ws) : Iter G O (RZ.ItzT G.K a b) (zipD ds es) H := by
  have hz : (zipD ds es).length = min ds.length es.length := by unfold zipD; rw [List.length_zipWith]
  refine ⟨fun i O' H' s hi => ?_, fun O' H' s => ⟨vs, ws, key _ _ s, key2 _ _ s, ?_⟩, fun i O' H' x H'' s dm hi y => ?_⟩
  · rw [hz] at hi
    obtain ⟨x, hx⟩ := getElem?_of_lt (xs := vs) (i := i) (by rw [r.length]; omega)
    obtain ⟨y, hy⟩ := getElem?_of_lt (xs := ws) (i := i) (by rw [r2.length]; omega)
    exact ⟨vs, ws, x, y, key _ _ s, key2 _ _ s, hx, hy⟩
  · rw [hz, r.length, r2.length]
    omega
  · obtain ⟨T, x, y, rfl, hT, rfl, y1, y2⟩ := y
    obtain ⟨d, h1, h2⟩ := r.get (y1 vs (key _ _ s))
    obtain ⟨e, k1, k2⟩ := r2.get (y2 ws (key2 _ _ s))
    obtain ⟨q1, q2⟩ := rep_pair dm hT (h2.step s) (k2.step s)
    exact ⟨_, zipD_get h1 k1, q1, q2⟩
section
variable {X : Cx} {tg : Expr} {N : List Str} {st sc : Scope} {C : Ctx} {W : WX} {a b l : Expr} {ma mb : List Sl → R} {pos p : Pos}
/-- a list or a tuple is walked -/
theorem pi_seq {tl : TE} (hl : PE X l tl) : PI X tg l (fun σ H R => tl σ H fun x H1 => (∃ a xs, x = .ref a ∧ SqL X.K H1 a xs ∧ R (Itl X.K a) H1) ∨ (∃ a xs, x = .ref a ∧ SqT X.K H1 a xs ∧ R (Itt X.K a) H1) ∨ (∃ d o kvs, x = .ref d ∧ H1 d = some (.frz o (.dK kvs)) ∧ R (Itk d o kvs) H1) ∨ (∃ z, x = .str z ∧ R (Its z) H1)) := by
  refine ⟨fun pins s σ H R I h => ?_⟩
  refine thn (hl.run pins s σ H _ I h) fun v s1 ⟨x, H1, I1, r1, q1⟩ => ?_
  rcases q1 with ⟨a, xs, e, hq, q⟩ | ⟨a, xs, e, hq, q⟩ | ⟨d, o, kvs, e, hd, q⟩ | ⟨x, e, q⟩
  · subst e
    cases r1
    obtain ⟨its, rv, p, hz⟩ := I1.list hq
    refine wpAny_pyIter_list p.isList ?_
    refine ⟨s1.heap.objs.size, [s1.heap.objs.size], _, _, H1, rfl, I1.kept (t' := s1.toks) fun b o e => Heap.get?_push_of_some _ e, turn_list a _, ⟨_, Heap.get?_push_size _ rfl, rfl, rfl⟩, fun b hb => ?_, q⟩
    have e : b = s1.heap.objs.size := by simpa using hb
    subst e
    exact I1.fpOk (Nat.le_refl _) (I1.hok.fresh (Nat.le_refl _))
  · subst e
    cases r1
    obtain ⟨its, rv, p, hz⟩ := I1.tuple hq
    refine wpAny_pyIter_tuple (show s1.heap.IsTuple a its.toArray from p) ?_
    refine ⟨s1.heap.objs.size, [s1.heap.objs.size], _, _, H1, rfl, I1.kept (t' := s1.toks) fun b o e => Heap.get?_push_of_some _ e, turn_tuple a _, ⟨_, Heap.get?_push_size _ rfl, rfl, rfl⟩, fun b hb => ?_, q⟩
    have e : b = s1.heap.objs.size := by simpa using hb
    subst e
    exact I1.fpOk (Nat.le_refl _) (I1.hok.fresh (Nat.le_refl _))
  · subst e
    obtain rfl : v = Value.ref d := r1
    obtain ⟨hs, hgd, hx, es, ep, vs, hdt, hsz, kv, hm⟩ := I1.frzK hd
    refine L2.iter_keys hs hgd hx hdt (pi_one (tk := s1.toks) I1 _ (turn_keys _ hdt) ⟨_, Heap.get?_push_size _ rfl, rfl, ?_⟩ q)
    rw [hsz] <;> rfl
  · subst e
    obtain ⟨t, rfl⟩ := r1
    cases ha : x.cps.all (· < 128)
    · exact wpAny_pyIter_wide ha (pi_one (tk := s1.toks) I1 _ (turn_str _ x t "str_iterator" (.inr rfl)) ⟨_, Heap.get?_push_size _ rfl, rfl, rfl⟩ q)
    · exact wpAny_pyIter_ascii ha (pi_one (tk := s1.toks) I1 _ (turn_str _ x t "str_ascii_iterator" (.inl rfl)) ⟨_, Heap.get?_push_size _ rfl, rfl, rfl⟩ q)
theorem iter_str {G : Gd} {O : Own} {H : Hp} (x : Str) : Iter G O (Its x) (x.cps.toList.map fun c => D.str ⟨#[c]⟩) H := by
  refine ⟨fun i O' H' s hi => ?_, fun O' H' s => ?_, fun i O' H' y H'' s dm hi q => ?_⟩
  · rw [List.length_map, Array.length_toList] at hi; exact hi
  · rw [List.length_map, Array.length_toList]; exact Nat.le_refl _
  · obtain ⟨rfl, c, hc, rfl⟩ := q
    refine ⟨.str ⟨#[c]⟩, ?_, Same.refl _, rfl, ?_⟩
    · rw [List.getElem?_map, Array.getElem?_toList, hc]; rfl
    · show 1 ≤ sizeLine
      rw [sizeLine_eq]; decide
theorem i_seq (ha : PE X a (tE (gd X) W ma)) : PI X tg a (tI (gd X) W fun ρ => (ma ρ).bind fun x => match itemsOf x.1 with | some ds => .ok ds | none => .bad) := by
  refine (pi_seq ha).imp fun σ H R ⟨ρ, O, A, h⟩ => ?_
  refine ⟨ρ, O, A, (PFa.bindV (O := O) h).mono fun x H1 ⟨p, s1, v1, h1⟩ => ?_⟩
  have r := v1.rep A.dom
  obtain ⟨d, fr⟩ := p
  cases d with
  | lst ds =>
    obtain ⟨a, vs, rfl, ⟨h2, h3⟩, h4, h5⟩ := r
    have k := h1 _ (Same.refl _) h4
    exact .inl ⟨a, vs, rfl, .inl h2, k _ (iter_list (G := gd X) h2 h3 h5)⟩
  | kl ds =>
    obtain ⟨a, vs, rfl, h2, h4, h5⟩ := r
    have k := h1 _ (Same.refl _) h4
    exact .inl ⟨a, vs, rfl, kl_sq h2, k _ (iter_kl (G := gd X) h2 h5)⟩
  | tup ds =>
    obtain ⟨a, vs, rfl, h2, h4, h5⟩ := r
    have k := h1 _ (Same.refl _) h4
    refine .inr (.inl ⟨a, vs, rfl, ?_, k _ (iter_tup (G := gd X) h2 h5)⟩)
    rcases h2 with ⟨h2, _⟩ | h2
    · exact .inl (.inl h2)
    · exact .inr h2
  | dct lk kvs =>
    cases lk with
    | false => exact h1.elim
    | true =>
      obtain ⟨a, ws, rfl, ⟨⟨o, h2⟩, h3⟩, h4, h5, h6⟩ := r
      have k := h1 _ (Same.refl _) (by rw [List.length_map]; exact h4)
      exact .inr (.inr (.inl ⟨a, o, ws, rfl, h2, k _ (iter_keysD (G := gd X) h2 h3 h5 h6)⟩))
  | str x =>
    obtain ⟨rfl, hx⟩ := r
    have k := h1 _ (Same.refl _) (by rw [List.length_map, Array.length_toList]; exact hx)
    exact .inr (.inr (.inr ⟨x, rfl, k _ (iter_str (G := gd X) x)⟩))
  | _ => exact h1.elim
theorem iter_rev {G : Gd} {O : Own} {H : Hp} {a : Addr} {vs : List V} {ds : List D} (key : ∀ O' H', Step O H O' H' → SqL G.K H' a vs) (r : Reps G O H ds vs) : Iter G O (Itv G.K a vs.length) ds.reverse H := by
  have hl := r.length
  refine ⟨fun i O' H' s hi => ?_, fun O' H' s => ?_, fun i O' H' x H'' s dm hi y => ?_⟩
  · rw [List.length_reverse] at hi
    obtain ⟨x, hx⟩ := getElem?_of_lt (xs := vs) (i := vs.length - 1 - i) (by omega)
    exact ⟨by omega, vs, x, key _ _ s, hx⟩
  · rw [List.length_reverse]
    show vs.length ≤ ds.length
    omega
  · rw [List.length_reverse] at hi
    obtain ⟨rfl, y⟩ := y
    obtain ⟨d, h1, h2⟩ := r.get (y vs (key _ _ s))
    refine ⟨d, ?_, Same.refl _, h2.step s⟩
    rw [List.getElem?_reverse hi, ← hl]
    exact h1
theorem enumOf_or {d : D} {ds : List D} (h : enumOf d = some ds) : lstOf d = some ds ∨ ∃ kvs, d = .dct true kvs ∧ ds = kvs.map fun kv => kD kv.1 := by
  cases d with
  | dct lk kvs =>
    cases lk with
    | true => cases h; exact .inr ⟨kvs, rfl, rfl⟩
    | false => exact .inl h
  | _ => exact .inl h
/-- a locked dict's keys, numbered -/
theorem iter_enumK {G : Gd} {O : Own} {H : Hp} {a : Addr} {o : Obj} {ws : List (Key × V)} {kvs : List (Key × D)} (h : H a = some (.frz o (.dK ws))) (n : ¬ O a) (r : RepK G O H kvs ws) (kl : ∀ kv ∈ kvs, ∀ x, kv.1 = Sum.inr x → x.length ≤ sizeLine) : Iter G O (Itek a o ws) (enumD 0 (kvs.map fun kv => kD kv.1)) H := by
  have hl := r.length
  refine ⟨fun i O' H' s hi => ?_, fun O' H' s => ?_, fun i O' H' x H'' s dm hi y => ?_⟩
  · rw [enumD_length, List.length_map] at hi
    exact ⟨(s a _ h n).1, by rw [hl]; exact hi⟩
  · exact ⟨(s a _ h n).1, by rw [hl, enumD_length, List.length_map]; exact Nat.le_refl _⟩
  · obtain ⟨T, k, v, rfl, hT, rfl, e⟩ := y
    have ek : (kvs.map (·.1))[i]? = some k := by rw [← r.keys, List.getElem?_map, e]; rfl
    rw [List.getElem?_map, Option.map_eq_some_iff] at ek
    obtain ⟨kv, e1, e2⟩ := ek
    have hk : Rep G O' H' (kD k) (kV k) := rep_kD fun x hx => kl kv (List.mem_of_getElem? e1) x (e2.trans hx)
    obtain ⟨q1, q2⟩ := rep_pair (d := .int (i : Nat)) (v := .int (i : Nat)) dm hT rfl hk
    have e3 : (kvs.map fun kv => kD kv.1)[i]? = some (kD k) := by rw [List.getElem?_map, e1]; subst e2; rfl
    refine ⟨_, enumD_get e3, q1, ?_⟩
    rw [Nat.zero_add]
    exact q2
theorem i_enum (ok : XOk N st sc C X) {es : List Expr} {kk : Nat} {tp : Pos} (hg : blB C.inf sc "enumerate" = true) (hv : isVal a = true) (ha : PE X a (tE (gd X) W ma)) : PI X (.Tuple es kk tp) (.Call (.Name "enumerate" p) [a] [] pos) (tI (gd X) W fun ρ => (ma ρ).bind fun x => match enumOf x.1 with
    | some ds => .ok (enumD 0 ds)
    | _ => .bad) := by
  refine (pi_enumA (bl_of ok hg).1 (bl_of ok hg).2 (pa_cons ha pa_nil (isVal_star hv)) (isVal_star hv)).imp fun σ H R ⟨ρ, O, A, h⟩ => ?_
  refine ⟨ρ, O, A, (PFa.bindV (O := O) h).mono fun x H1 ⟨p, s1, v1, h1⟩ => ?_⟩
  have r := v1.rep A.dom
  cases hx : enumOf p.1 with
  | none => rw [hx] at h1; exact h1.elim
  | some ds =>
    rw [hx] at h1
    rcases enumOf_or hx with hx | ⟨kvs, e, rfl⟩
    · obtain ⟨a, vs, rfl, key, rs, hl⟩ := lst_view r hx
      exact .inl ⟨a, vs, rfl, key _ _ (Step.refl _ _), h1 _ (Same.refl _) (by rw [enumD_length]; exact hl) _ (iter_enum key rs)⟩
    · rw [e] at r
      obtain ⟨a, ws, rfl, ⟨⟨o, h2⟩, h3⟩, h4, h5, h6⟩ := r
      exact .inr ⟨a, o, ws, rfl, h2, h1 _ (Same.refl _) (by rw [enumD_length, List.length_map]; exact h4) _ (iter_enumK (G := gd X) h2 h3 h5 h6)⟩
theorem i_rev (ok : XOk N st sc C X) (hg : blB C.inf sc "reversed" = true) (hv : isVal a = true) (ha : PE X a (tE (gd X) W ma)) : PI X tg (.Call (.Name "reversed" p) [a] [] pos) (tI (gd X) W fun ρ => (ma ρ).bind fun x => match lstOf x.1 with
    | some ds => .ok ds.reverse
    | _ => .bad) := by
  refine (pi_reversed (bl_of ok hg).1 (bl_of ok hg).2 (pa_cons ha pa_nil (isVal_star hv)) (isVal_star hv)).imp fun σ H R ⟨ρ, O, A, h⟩ => ?_
  refine ⟨ρ, O, A, (PFa.bindV (O := O) h).mono fun x H1 ⟨p, s1, v1, h1⟩ => ?_⟩
  have r := v1.rep A.dom
  cases hx : lstOf p.1 with
  | none => rw [hx] at h1; exact h1.elim
  | some ds =>
    rw [hx] at h1
    obtain ⟨a, vs, rfl, key, rs, hl⟩ := lst_view r hx
    exact ⟨a, vs, rfl, key _ _ (Step.refl _ _), h1 _ (Same.refl _) (by rw [List.length_reverse]; exact hl) _ (iter_rev key rs)⟩
theorem i_zip (ok : XOk N st sc C X) {es : List Expr} {kk : Nat} {tp : Pos} (hg : blB C.inf sc "zip" = true) (hv : isVal a = true) (hv2 : isVal b = true) (ha : PE X a (tE (gd X) W ma)) (hb : PE X b (tE (gd X) W mb)) : PI X (.Tuple es kk tp) (.Call (.Name "zip" p) [a, b] [] pos) (tI (gd X) W fun ρ => (ma ρ).bind fun x => (mb ρ).bind fun y => match zipO x.1 y.1 with
    | some p => .ok (zipD p.1 p.2)
    | none => .bad) := by
  refine (RZ.pi_zipA (bl_of ok hg).1 (bl_of ok hg).2 (pa_cons ha (pa_cons hb pa_nil (isVal_star hv2)) (isVal_star hv)) (isVal_star hv) (by rw [isVal_star hv2]; rfl)).imp fun σ H R ⟨ρ, O, A, h⟩ => ?_
  refine ⟨ρ, O, A, (PFa.bindV (O := O) h).mono fun x H1 ⟨p, s1, v1, h1⟩ => ?_⟩
  have A1 := A.same s1
  refine ⟨ρ, O, A1, (PFa.bindV (O := O) h1).mono fun y H2 ⟨q, s2, v2, h2⟩ => ?_⟩
  have r := (v1.rep A.dom).same s2
  have r2 := v2.rep A1.dom
  unfold zipO at h2
  cases hx : lstOf p.1 with
  | some ds =>
    cases hy : lstOf q.1 with
    | some es =>
      rw [hx, hy] at h2
      obtain ⟨a, vs, rfl, key, rs, hl⟩ := lst_view r hx
      obtain ⟨b, ws, rfl, key2, rs2, hl2⟩ := lst_view r2 hy
      exact ⟨a, b, vs, ws, rfl, .inl ⟨key _ _ (Step.refl _ _), key2 _ _ (Step.refl _ _), h2 _ (Same.refl _) (by unfold zipD; rw [List.length_zipWith]; exact Nat.le_trans (Nat.min_le_left _ _) hl) _ (iter_zip key rs key2 rs2)⟩⟩
    | none =>
      rw [hx, hy] at h2
      cases hp : tupOf p.1 with
      | none => rw [hp] at h2; exact h2.elim
      | some _ => exact (tup_lst hp hx).elim
  | none =>
    rw [hx] at h2
    cases hp : tupOf p.1 with
    | none => rw [hp] at h2; exact h2.elim
    | some ds =>
      cases hq : tupOf q.1 with
      | none => rw [hp, hq] at h2; exact h2.elim
      | some es =>
        rw [hp, hq] at h2
        obtain ⟨a, vs, rfl, key, rs, hl⟩ := tup_view r hp
        obtain ⟨b, ws, rfl, key2, rs2, hl2⟩ := tup_view r2 hq
        exact ⟨a, b, vs, ws, rfl, .inr ⟨key _ _ (Step.refl _ _), key2 _ _ (Step.refl _ _), h2 _ (Same.refl _) (by unfold zipD; rw [List.length_zipWith]; exact Nat.le_trans (Nat.min_le_left _ _) hl) _ (iter_zipT key rs key2 rs2)⟩⟩
theorem i_items {es : List Expr} {kk : Nat} {tp ap cp : Pos} (hb : isBase a = true) (hl : (ap.endLine == cp.line) = true) (ha : PE X a (tE (gd X) W ma)) : PI X (.Tuple es kk tp) (.Call (.Attribute a "items" ap) [] [] cp) (tI (gd X) W fun ρ => (ma ρ).bind fun x => match x.1 with
    | .dct true kvs => .ok (kvs.map fun kv => .tup [kD kv.1, kv.2])
    | _ => .bad) := by
  refine (L2.pi_items ha (isBase_of hb) hl).imp fun σ H R ⟨ρ, O, A, h⟩ => ?_
  refine ⟨ρ, O, A, (PFa.bindV (O := O) h).mono fun x H1 ⟨p, s1, v1, h1⟩ => ?_⟩
  have r := v1.rep A.dom
  obtain ⟨d, fr⟩ := p
  cases d with
  | dct lk kvs =>
    cases lk with
    | false => exact h1.elim
    | true =>
      obtain ⟨a, ws, rfl, ⟨⟨o, h2⟩, h3⟩, h4, h5, h6⟩ := r
      exact ⟨a, o, ws, rfl, h2, h1 _ (Same.refl _) (by rw [List.length_map]; exact h4) _ (iter_itemsD h2 h3 h5 h6)⟩
  | _ => exact h1.elim
theorem i_rng1 (ok : XOk N st sc C X) (hg : blB C.inf sc "range" = true) (hv : isVal a = true) (ha : PE X a (tE (gd X) W ma)) : PI X tg (.Call (.Name "range" p) [a] [] pos) (tI (gd X) W fun ρ => (ma ρ).bind fun x => match x.1 with
    | .int j => if RNG j ∧ j.toNat ≤ LIM then .ok (rngD 0 j.toNat) else .bad
    | _ => .bad) := by
  refine (pi_range1 (bl_of ok hg).1 (bl_of ok hg).2 (pa_cons ha pa_nil (isVal_star hv)) (isVal_star hv)).imp fun σ H R ⟨ρ, O, A, h⟩ => ?_
  refine ⟨ρ, O, A, (PFa.bindV (O := O) h).mono fun x H1 ⟨p, s1, v1, h1⟩ => ?_⟩
  have r := v1.rep A.dom
  obtain ⟨d, fr⟩ := p
  cases d with
  | int j =>
    cases r
    dsimp only at h1
    split at h1
    · rename_i hj
      exact ⟨j, rfl, hj.1.1, hj.1.2, h1 _ (Same.refl _) (by rw [rngD_length, ← limE]; exact hj.2) _ iter_rng⟩
    · exact h1.elim
  | _ => exact h1.elim
theorem i_rng2 (ok : XOk N st sc C X) (hg : blB C.inf sc "range" = true) (hv : isVal a = true) (hv2 : isVal b = true) (ha : PE X a (tE (gd X) W ma)) (hb : PE X b (tE (gd X) W mb)) : PI X tg (.Call (.Name "range" p) [a, b] [] pos) (tI (gd X) W fun ρ => (ma ρ).bind fun x => (mb ρ).bind fun y => match x.1, y.1 with
    | .int i, .int j => if (RNG i ∧ RNG j) ∧ (j - i).toNat ≤ LIM then .ok (rngD i (j - i).toNat) else .bad
    | _, _ => .bad) := by
  refine (pi_range2 (bl_of ok hg).1 (bl_of ok hg).2 (pa_cons ha (pa_cons hb pa_nil (isVal_star hv2)) (isVal_star hv)) (by rw [isVal_star hv, isVal_star hv2]; rfl) (isVal_star hv2)).imp fun σ H R ⟨ρ, O, A, h⟩ => ?_
  refine ⟨ρ, O, A, (PFa.bindV (O := O) h).mono fun x H1 ⟨p, s1, v1, h1⟩ => ?_⟩
  have A1 := A.same s1
  refine ⟨ρ, O, A1, (PFa.bindV (O := O) h1).mono fun y H2 ⟨q, s2, v2, h2⟩ => ?_⟩
  have r := (v1.rep A.dom).same s2
  have r2 := v2.rep A1.dom
  obtain ⟨d, fr⟩ := p
  obtain ⟨e, fr2⟩ := q
  cases d with
  | int i =>
    cases e with
    | int j =>
      cases r; cases r2
      dsimp only at h2
      split at h2
      · rename_i hj
        exact ⟨i, j, rfl, ⟨hj.1.1.1, hj.1.1.2, hj.1.2.1, hj.1.2.2⟩, h2 _ (Same.refl _) (by rw [rngD_length, ← limE]; exact hj.2) _ iter_rng⟩
      · exact h2.elim
    | _ => exact h2.elim
  | _ => cases e <;> exact h2.elim
end

theorem rngC_length {lo c : Int} {n : Nat} : (rngC lo c n).length = n := by unfold rngC; rw [List.length_map, List.length_range]
theorem iter_rngC {G : Gd} {O : Own} {H : Hp} {lo c : Int} {n : Nat} : Iter G O (Itc lo c n) (rngC lo c n) H := by
  refine ⟨fun i O' H' s hi => ?_, fun O' H' s => ?_, fun i O' H' x H'' s dm hi y => ?_⟩
  · rw [rngC_length] at hi; exact hi
  · rw [rngC_length]; exact Nat.le_refl n
  · obtain ⟨rfl, rfl⟩ := y
    rw [rngC_length] at hi
    refine ⟨.int (lo + (i : Nat) * c), ?_, Same.refl _, rfl⟩
    unfold rngC
    rw [List.getElem?_map, List.getElem?_range hi]; rfl
theorem rangeSize_nn {i j c : Int} (h : 0 < c) : 0 ≤ Builtin.Range.rangeSize i j c := by
  unfold Builtin.Range.rangeSize
  rw [if_pos h]
  split
  · have : 0 ≤ (j - i - 1) / c := Int.ediv_nonneg (by omega) (by omega)
    omega
  · exact Int.le_refl _
section
variable {N : List Str} {st sc : Scope} {C : Ctx} {X : Cx} {W : WX} {a b c tg : Expr} {ma mb mc : List Sl → R} {p pos : Pos}
theorem i_rng3 (ok : XOk N st sc C X) (hg : blB C.inf sc "range" = true) (hv : isVal a = true) (hv2 : isVal b = true) (hv3 : isVal c = true) (ha : PE X a (tE (gd X) W ma)) (hb : PE X b (tE (gd X) W mb)) (hc : PE X c (tE (gd X) W mc)) : PI X tg (.Call (.Name "range" p) [a, b, c] [] pos) (tI (gd X) W fun ρ => (ma ρ).bind fun x => (mb ρ).bind fun y => (mc ρ).bind fun z => match x.1, y.1, z.1 with
    | .int i, .int j, .int k => if RgcOk i j k then .ok (rngC i k (Builtin.Range.rangeSize i j k).toNat) else .bad
    | _, _, _ => .bad) := by
  refine (pi_range3 (bl_of ok hg).1 (bl_of ok hg).2 (pa_cons ha (pa_cons hb (pa_cons hc pa_nil (isVal_star hv3)) (isVal_star hv2)) (isVal_star hv)) (isVal_star hv) (by rw [isVal_star hv2, isVal_star hv3]; rfl)).imp fun σ H R ⟨ρ, O, A, h⟩ => ?_
  refine ⟨ρ, O, A, (PFa.bindV (O := O) h).mono fun x H1 ⟨p, s1, v1, h1⟩ => ?_⟩
  have A1 := A.same s1
  refine ⟨ρ, O, A1, (PFa.bindV (O := O) h1).mono fun y H2 ⟨q, s2, v2, h2⟩ => ?_⟩
  have A2 := A1.same s2
  refine ⟨ρ, O, A2, (PFa.bindV (O := O) h2).mono fun z H3 ⟨q3, s3, v3, h3⟩ => ?_⟩
  have r := ((v1.rep A.dom).same s2).same s3
  have r2 := (v2.rep A1.dom).same s3
  have r3 := v3.rep A2.dom
  obtain ⟨d, fr⟩ := p
  obtain ⟨e, fr2⟩ := q
  obtain ⟨f, fr3⟩ := q3
  cases d with
  | int i =>
    cases e with
    | int j =>
      cases f with
      | int k =>
        cases r; cases r2; cases r3
        dsimp only at h3
        split at h3
        · rename_i hj
          obtain ⟨k0, k1, k2, k3⟩ := hj
          exact ⟨i, j, k, _, rfl, ⟨by omega, k1, k2, (Int.toNat_of_nonneg (rangeSize_nn k0)).symm⟩, h3 _ (Same.refl _) (by rw [rngC_length, ← limE]; exact k3) _ iter_rngC⟩
        · exact h3.elim
      | _ => exact h3.elim
    | _ => exact (show False by cases f <;> exact h3).elim
  | _ => exact (show False by cases e <;> exact h3).elim
end

/-! ### targets -/
def gTs : List Nat → TGs
  | [] => gNil
  | i :: is => gCons (gName i) (gTs is)
def gT (K : PySem.W.Frag) : Tg → TG
  | .one i => gName i
  | .many is => gTup K is.length (gTs is)
section
variable {X : Cx} {N : List Str} {st sc : Scope} {C : Ctx} {x : Expr}
theorem fn_of' (ok : XOk N st sc C X) {n : Str} (h : locB st n = true) : X.fn n = true ∨ X.env.scope.names.lookup n = some .local := by
  rcases locB_of h with q | q
  · exact .inr (by rw [ok.hs]; exact ok.lk _ _ (by decide) q)
  · exact .inl (ok.fn n q)
theorem loc_of' (ok : XOk N st sc C X) {n : Str} (h : locB st n = true) : Loc X.env.scope n := by
  rcases locB_of h with q | q
  · exact .inl (by rw [ok.hs]; exact ok.lk _ _ (by decide) q)
  · exact .inr (by rw [ok.hs]; exact ok.lk _ _ (by decide) q)
theorem g_one (ok : XOk N st sc C X) {i : Nat} {e : Expr} (h : (match asName e with | some n => decide (N[i]? = some n) && locB st n | none => false) = true) : PG X e (gName i) ∧ ∃ n p, e = .Name n p := by
  split at h
  · rename_i n hn
    obtain ⟨p, rfl⟩ := asName_of hn
    rw [Bool.and_eq_true] at h
    exact ⟨pg_name (by rw [ok.hN]; exact ok.nd) (by rw [ok.hN]; exact of_decide_eq_true h.1) (loc_of' ok h.2) (fn_of' ok h.2), n, p, rfl⟩
  · cases h
theorem g_many (ok : XOk N st sc C X) : ∀ {is : List Nat} {es : List Expr}, tgB.go N st is es = true → PGs X es (gTs is) ∧ (assignEach es X.env).length = is.length ∧ (assignEach es X.env).findIdx? (·.1) = none
  | [], [], _ => ⟨pgs_nil, rfl, rfl⟩
  | i :: is, e :: es, h => by
    unfold tgB.go at h
    rw [Bool.and_eq_true] at h
    obtain ⟨h1, n, p, rfl⟩ := g_one ok h.1
    obtain ⟨h2, h3, h4⟩ := g_many ok h.2
    refine ⟨pgs_cons h1 h2 rfl, ?_, ?_⟩
    · show (_ :: assignEach es X.env).length = _
      rw [List.length_cons, List.length_cons, h3]
    · show ((false, assign (.Name n p) X.env) :: assignEach es X.env).findIdx? (·.1) = none
      rw [List.findIdx?_cons, h4]
      rfl
  | [], _ :: _, h => by cases h
  | _ :: _, [], h => by cases h
theorem g_ok (ok : XOk N st sc C X) {tg : Tg} (h : tgB N st tg x = true) : PG X x (gT X.K tg) := by
  cases tg with
  | one i => exact (g_one ok h).1
  | many is =>
    have h : (match asTup x with
      | some es => tgB.go N st is es
      | none => false) = true := h
    split at h
    · rename_i es he
      obtain ⟨k, q, rfl⟩ := asTup_of he
      obtain ⟨h1, h2, h3⟩ := g_many ok h
      exact pg_tup ok.calm h1 h2 h3
    · cases h
end

/-! ### slots -/
section
variable {G : Gd} {O O' : Own} {H H' : Hp} {ρ ρ' : List Sl} {σ : L2.St} {d : D} {v : V} {i : Nat}
theorem Ag.step' (h : Ag G O ρ σ H) (dm : Dom O' H') (s : Step O H O' H') (k : ∀ (i : Nat) (d : D) (a : Addr), ρ[i]? = some (Sl.own d) → σ[i]? = some (some (V.ref a)) → O a → OwnAt G O H d a → O' a ∧ OwnAt G O' H' d a) : Ag G O' ρ σ H' :=
  ⟨dm, h.len, fun i d q => let ⟨v, a, b⟩ := h.val i d q; ⟨v, a, b.step s⟩, fun i d q => let ⟨a, b, c, z⟩ := h.own i d q; let ⟨c', z'⟩ := k i d a q b c z; ⟨a, b, c', z'⟩, h.inj⟩
/-- one more owned place, that was free -/
theorem Ag.more {p : Addr} {o : HO} (h : Ag G O ρ σ H) (hp : H p = none) : Ag G (ins1 O p) ρ σ (upd H p o) := by
  have s := same_upd (o := o) hp
  refine ⟨fun a z => z.elim (fun z => h.dom.same s a z) fun z => ⟨o, by rw [z, upd_same]⟩, h.len, fun i d q => let ⟨v, a, b⟩ := h.val i d q; ⟨v, a, (b.more hp).same s⟩, fun i d q => ?_, h.inj⟩
  obtain ⟨a, b, c, z⟩ := h.own i d q
  refine ⟨a, b, .inl c, OwnAt.same s ?_⟩
  cases d with
  | lst ds => obtain ⟨vs, h1, h2, h3⟩ := z; exact ⟨vs, h1, h2, h3.more hp⟩
  | dct lk ds =>
    cases lk with
    | true => exact z
    | false => obtain ⟨vs, h1, h2, h3, h5⟩ := z; exact ⟨vs, h1, h2, RepK.ext (fun b o x n => ⟨x, fun z => z.elim n fun e => by subst e; rw [hp] at x; cases x⟩) _ _ h3, h5⟩
  | dtn lk ds =>
    cases lk with
    | true => exact z
    | false => obtain ⟨vs, h1, h2, h3⟩ := z; exact ⟨vs, h1, h2, RepN.ext (fun b o x n => ⟨x, fun z => z.elim n fun e => by subst e; rw [hp] at x; cases x⟩) _ _ h3⟩
  | _ => exact z
theorem Ag.setV (h : Ag G O ρ σ H) (r : Rep G O H d v) : Ag G O (ρ.set i (.val d)) (σ.set i (some v)) H := by
  refine ⟨h.dom, by simpa using h.len, fun j e q => ?_, fun j e q => ?_, fun j k d' e' a hjk q1 q2 q3 => ?_⟩
  · by_cases hj : i = j
    · subst hj
      have hi : i < ρ.length := by
        have := (List.getElem?_eq_some_iff.mp q).1
        simpa using this
      rw [List.getElem?_set_self hi] at q
      cases q
      exact ⟨v, List.getElem?_set_self (by rw [← h.len]; exact hi), r⟩
    · rw [List.getElem?_set_ne hj] at q
      rw [List.getElem?_set_ne hj]
      exact h.val j e q
  · by_cases hj : i = j
    · subst hj
      have hi : i < ρ.length := by
        have := (List.getElem?_eq_some_iff.mp q).1
        simpa using this
      rw [List.getElem?_set_self hi] at q
      cases q
    · rw [List.getElem?_set_ne hj] at q
      rw [List.getElem?_set_ne hj]
      exact h.own j e q
  · have f : ∀ {j : Nat} {d' : D}, (ρ.set i (.val d))[j]? = some (.own d') → i ≠ j ∧ ρ[j]? = some (.own d') := fun {j d'} q => by
      by_cases hj : i = j
      · subst hj
        have hi : i < ρ.length := by
          have := (List.getElem?_eq_some_iff.mp q).1
          simpa using this
        rw [List.getElem?_set_self hi] at q
        cases q
      · rw [List.getElem?_set_ne hj] at q
        exact ⟨hj, q⟩
    obtain ⟨n1, q1⟩ := f q1
    obtain ⟨n2, q2⟩ := f q2
    rw [List.getElem?_set_ne n1] at q3
    rw [List.getElem?_set_ne n2]
    exact h.inj j k d' e' a hjk q1 q2 q3
theorem Ag.setN (h : Ag G O ρ σ H) : Ag G O (ρ.set i .no) (σ.set i none) H := by
  have f : ∀ {j : Nat} {s : Sl}, s ≠ .no → (ρ.set i .no)[j]? = some s → i ≠ j ∧ ρ[j]? = some s := fun {j s} ns q => by
    by_cases hj : i = j
    · subst hj
      have hi : i < ρ.length := by
        have := (List.getElem?_eq_some_iff.mp q).1
        simpa using this
      rw [List.getElem?_set_self hi] at q
      exact absurd (Option.some.inj q).symm ns
    · rw [List.getElem?_set_ne hj] at q
      exact ⟨hj, q⟩
  refine ⟨h.dom, by simpa using h.len, fun j e q => ?_, fun j e q => ?_, fun j k d' e' a hjk q1 q2 q3 => ?_⟩
  · obtain ⟨n, q⟩ := f (by simp) q
    rw [List.getElem?_set_ne n]
    exact h.val j e q
  · obtain ⟨n, q⟩ := f (by simp) q
    rw [List.getElem?_set_ne n]
    exact h.own j e q
  · obtain ⟨n1, q1⟩ := f (by simp) q1
    obtain ⟨n2, q2⟩ := f (by simp) q2
    rw [List.getElem?_set_ne n1] at q3
    rw [List.getElem?_set_ne n2]
    exact h.inj j k d' e' a hjk q1 q2 q3
end
end DL

namespace DL
open PySem PySem.Spec L2

/-! ### sorting, rows of one kind -/
theorem ltCps_iff : ∀ (a b : List Nat), ltCps a b = decide (a < b)
  | [], [] => by simp [ltCps]
  | [], _ :: _ => by simp [ltCps]
  | _ :: _, [] => by simp [ltCps]
  | a :: r, b :: t => by
    have ih := ltCps_iff r t
    simp only [ltCps, ih]
    by_cases h : a < b
    · simp [h, List.cons_lt_cons_iff]
    · by_cases h2 : a = b
      · subst h2; simp [List.cons_lt_cons_iff]
      · simp [h, h2, List.cons_lt_cons_iff]
theorem Str.ext' {a b : Str} (h : a.cps.toList = b.cps.toList) : a = b := by
  cases a with
  | mk x => cases b with
    | mk y => congr 1; exact Array.toList_inj.mp h
theorem leS_iff (a b : Str) : leS a b = true ↔ a.cps.toList ≤ b.cps.toList := by
  unfold leS
  rw [ltCps_iff]
  simp [List.not_lt]
theorem leS_trans (a b c : Str) (h1 : leS a b = true) (h2 : leS b c = true) : leS a c = true := by
  rw [leS_iff] at *
  exact List.le_trans h1 h2
theorem leS_total (a b : Str) : (leS a b || leS b a) = true := by
  rw [Bool.or_eq_true, leS_iff, leS_iff]
  exact List.le_total _ _
theorem leS_anti {a b : Str} (h1 : leS a b = true) (h2 : leS b a = true) : a = b := by
  rw [leS_iff] at *
  exact Str.ext' (List.le_antisymm h1 h2)
theorem risingS_iff : ∀ (xs : List Str) (p : Str), PyProof.Rows.risingS p xs = true → (p :: xs).Pairwise fun a b => leS a b = true
  | [], p, _ => by simp
  | x :: r, p, h => by
    unfold PyProof.Rows.risingS at h
    rw [Bool.and_eq_true] at h
    have ih := risingS_iff r x h.2
    have h1 : leS p x = true := h.1
    rw [List.pairwise_cons]
    refine ⟨fun y hy => ?_, ih⟩
    rcases List.mem_cons.mp hy with e | hy
    · rw [e]; exact h1
    · exact leS_trans _ _ _ h1 ((List.pairwise_cons.mp ih).1 y hy)
theorem sortedS_pw {xs : List Str} (h : PyProof.Rows.sortedS xs = true) : xs.Pairwise fun a b => leS a b = true := by
  cases xs with
  | nil => exact .nil
  | cons x r => exact risingS_iff r x h
theorem perm_sorted {α : Type} {le : α → α → Prop} (anti : ∀ a b, le a b → le b a → a = b) : ∀ {xs ys : List α}, xs.Perm ys → xs.Pairwise le → ys.Pairwise le → xs = ys
  | [], ys, p, _, _ => by rw [List.nil_perm] at p; exact p.symm
  | x :: xs, [], p, _, _ => by simp at p
  | x :: xs, y :: ys, p, h1, h2 => by
    have e : x = y := by
      have hx : x ∈ y :: ys := p.subset List.mem_cons_self
      have hy : y ∈ x :: xs := p.symm.subset List.mem_cons_self
      rcases List.mem_cons.mp hx with e | hx
      · exact e
      · rcases List.mem_cons.mp hy with e | hy
        · exact e.symm
        · exact anti _ _ ((List.pairwise_cons.mp h1).1 y hy) ((List.pairwise_cons.mp h2).1 x hx)
    subst e
    rw [perm_sorted anti ((List.perm_cons x).mp p) (List.pairwise_cons.mp h1).2 (List.pairwise_cons.mp h2).2]
theorem sortS_pw (xs : List Str) : (sortS xs).Pairwise fun a b => leS a b = true := List.pairwise_mergeSort leS_trans leS_total xs
theorem sortS_perm (xs : List Str) : (sortS xs).Perm xs := List.mergeSort_perm xs leS
theorem sortS_uniq {xs ys : List Str} (p : ys.Perm xs) (h : PyProof.Rows.sortedS ys = true) : ys = sortS xs :=
  perm_sorted (fun _ _ => leS_anti) (p.trans (sortS_perm xs).symm) (sortedS_pw h) (sortS_pw xs)
theorem sortI_pw (xs : List Int) : (sortI xs).Pairwise (· ≤ ·) := by
  have := List.pairwise_mergeSort (le := fun a b : Int => decide (a ≤ b)) (fun a b c h1 h2 => by simp at *; omega) (fun a b => by simp; omega) xs
  exact this.imp fun h => of_decide_eq_true h
theorem sortI_perm (xs : List Int) : (sortI xs).Perm xs := List.mergeSort_perm xs _
theorem sortI_uniq {xs ys : List Int} (p : ys.Perm xs) (h : ys.Pairwise (· ≤ ·)) : ys = sortI xs :=
  perm_sorted (fun _ _ a b => Int.le_antisymm a b) (p.trans (sortI_perm xs).symm) h (sortI_pw xs)
theorem strsOf_reps {G : Gd} {O : Own} {H : Hp} : ∀ {ds : List D} {ks : List Str} {vs : List V}, strsOf ds = some ks → Reps G O H ds vs → vs = ks.map V.str ∧ ∀ k ∈ ks, k.length ≤ sizeLine
  | [], ks, vs, e, h => by cases e; cases h; exact ⟨rfl, fun _ z => by cases z⟩
  | d :: ds, ks, vs, e, h => by
    obtain ⟨v, r, rfl, h1, h2⟩ := h
    cases d with
    | str x =>
      simp only [strsOf, Option.map_eq_some_iff] at e
      obtain ⟨js, e1, rfl⟩ := e
      obtain ⟨rfl, hx⟩ := h1
      obtain ⟨rfl, hr⟩ := strsOf_reps e1 h2
      exact ⟨rfl, fun k hk => by rcases List.mem_cons.mp hk with e | hk; · rw [e]; exact hx
                                 · exact hr k hk⟩
    | _ => cases e
theorem intsOf_reps {G : Gd} {O : Own} {H : Hp} : ∀ {ds : List D} {ks : List Int} {vs : List V}, intsOf ds = some ks → Reps G O H ds vs → vs = ks.map V.int
  | [], ks, vs, e, h => by cases e; cases h; rfl
  | d :: ds, ks, vs, e, h => by
    obtain ⟨v, r, rfl, h1, h2⟩ := h
    cases d with
    | int x =>
      simp only [intsOf, Option.map_eq_some_iff] at e
      obtain ⟨js, e1, rfl⟩ := e
      cases h1
      rw [intsOf_reps e1 h2]
      rfl
    | _ => cases e
theorem blsOf_reps {G : Gd} {O : Own} {H : Hp} : ∀ {ds : List D} {ks : List Bool} {vs : List V}, blsOf ds = some ks → Reps G O H ds vs → vs = ks.map V.bl
  | [], ks, vs, e, h => by cases e; cases h; rfl
  | d :: ds, ks, vs, e, h => by
    obtain ⟨v, r, rfl, h1, h2⟩ := h
    cases d with
    | bl x =>
      simp only [blsOf, Option.map_eq_some_iff] at e
      obtain ⟨js, e1, rfl⟩ := e
      cases h1
      rw [blsOf_reps e1 h2]
      rfl
    | _ => cases e
theorem reps_strs {G : Gd} {O : Own} {H : Hp} : ∀ (ks : List Str), (∀ k ∈ ks, k.length ≤ sizeLine) → Reps G O H (ks.map .str) (ks.map V.str)
  | [], _ => rfl
  | k :: ks, h => ⟨_, _, rfl, ⟨rfl, h k List.mem_cons_self⟩, reps_strs ks fun k hk => h k (List.mem_cons_of_mem _ hk)⟩
theorem reps_ints {G : Gd} {O : Own} {H : Hp} : ∀ (ns : List Int), Reps G O H (ns.map D.int) (ns.map V.int)
  | [] => rfl
  | n :: ns => ⟨_, _, rfl, rfl, reps_ints ns⟩
theorem keyS_eq : ∀ {ks : List Key} {xs : List Str}, keyS ks = some xs → ks = xs.map Sum.inr
  | [], xs, h => by cases h; rfl
  | .inr k :: ks, xs, h => by
    simp only [keyS, Option.map_eq_some_iff] at h
    obtain ⟨js, e1, rfl⟩ := h
    rw [keyS_eq e1]; rfl
  | .inl k :: ks, xs, h => by cases h
theorem reps_keys {G : Gd} {O : Own} {H : Hp} {ws : List (Key × V)} : ∀ {kvs : List (Key × D)}, ws.map (·.1) = kvs.map (·.1) → (∀ kv ∈ kvs, ∀ x, kv.1 = Sum.inr x → x.length ≤ sizeLine) → Reps G O H (kvs.map fun kv => kD kv.1) (ws.map fun kv => kV kv.1) := by
  induction ws with
  | nil =>
    intro kvs h _
    cases kvs with
    | nil => rfl
    | cons _ _ => cases h
  | cons w ws ih =>
    intro kvs h hk
    cases kvs with
    | nil => cases h
    | cons kv kvs =>
      rw [List.map_cons, List.map_cons, List.cons.injEq] at h
      refine ⟨kV w.1, _, rfl, ?_, ih h.2 fun kv h => hk kv (List.mem_cons_of_mem _ h)⟩
      rw [h.1]
      exact rep_kD fun x e => hk kv List.mem_cons_self x e
theorem maxI_spec : ∀ {ns : List Int} {m : Int}, m ∈ ns → (∀ y, y ∈ ns → y ≤ m) → m = maxI ns
  | [], _, h, _ => by cases h
  | [x], m, h, _ => by simpa [maxI] using h
  | x :: y :: r, m, h, hm => by
    unfold maxI
    have key : ∀ (r : List Int) (y : Int), maxI (y :: r) ∈ y :: r ∧ ∀ z ∈ y :: r, z ≤ maxI (y :: r) := by
      intro r
      induction r with
      | nil => intro y; simp [maxI]
      | cons w r ih =>
        intro y
        obtain ⟨a, b⟩ := ih w
        unfold maxI
        split
        · refine ⟨List.mem_cons_self, fun z hz => ?_⟩
          rcases List.mem_cons.mp hz with e | hz
          · omega
          · have := b z hz; omega
        · refine ⟨List.mem_cons_of_mem _ a, fun z hz => ?_⟩
          rcases List.mem_cons.mp hz with e | hz
          · omega
          · exact b z hz
    obtain ⟨a, b⟩ := key r y
    have h2 := hm _ (List.mem_cons_of_mem _ a)
    have h3 := hm x List.mem_cons_self
    rcases List.mem_cons.mp h with e | h
    · subst e
      split
      · rfl
      · omega
    · have h4 := b m h
      split
      · omega
      · omega
/-! ### slices -/
def tP (G : Gd) (W : WX) (m : List Sl → Rz (Option Int)) : TO := fun σ H Q => ∃ ρ O, Ag G O ρ σ H ∧ PFa G H (WE' W σ) (m ρ) Q
theorem _root_.L2.PO.imp {X : Cx} {e : Option Expr} {t t' : TO} (h : PO X e t) (m : ∀ σ H Q, t' σ H Q → t σ H Q) : PO X e t' := ⟨fun pins s σ H Q I q => h.run pins s σ H Q I (m σ H Q q)⟩
section
variable {X : Cx} {N : List Str} {st sc : Scope} {C : Ctx} {W : WX} {a b l : Expr} {ma mb : List Sl → R} {pos p p2 : Pos} {ml mh : List Sl → Rz (Option Int)} {lo hi : Option Expr}
theorem o_no : PO X none (tP (gd X) W fun _ => .ok none) := po_none.imp fun σ H Q ⟨ρ, O, A, h⟩ => h H (Same.refl H)
theorem o_at (ha : PE X a (tE (gd X) W ma)) : PO X (some a) (tP (gd X) W fun ρ => (ma ρ).bind fun x => match x.1 with | .int i => .ok (some i) | _ => .bad) := by
  refine (po_some ha).imp fun σ H Q ⟨ρ, O, A, h⟩ => ?_
  refine ⟨ρ, O, A, (PFa.bindV (O := O) h).mono fun x H1 ⟨p, s1, v1, h1⟩ => ?_⟩
  have r := v1.rep A.dom
  obtain ⟨d, fr⟩ := p
  cases d with
  | int i => cases r; exact ⟨i, rfl, h1 _ (Same.refl _)⟩
  | _ => exact h1.elim
def rSl (G : Gd) : V → Option Int → Option Int → Hp → VK → Prop := fun x lo hi H Q => ∃ (O : Own) (d : D) (E : XK), Rep G O H d x ∧ Dom O H ∧ PF G O H E (slD d lo hi) Q
theorem cutD_reps {G : Gd} {O : Own} {H : Hp} {ds : List D} {vs : List V} {lo hi : Option Int} (h : Reps G O H ds vs) : Reps G O H (cutD ds lo hi) (cutV vs lo hi) := by
  unfold cutD cutV
  rw [h.length]
  exact (h.drop _).take _
theorem cutD_length {ds : List D} {lo hi : Option Int} : (cutD ds lo hi).length ≤ ds.length := by
  unfold cutD
  rw [List.length_take, List.length_drop]
  omega
theorem cutS_length {z : Str} {lo hi : Option Int} : (cutS z lo hi).length ≤ z.length := by
  unfold cutS
  show (List.toArray _).size ≤ z.cps.size
  rw [List.size_toArray, List.length_take, List.length_drop, Array.length_toList]
  omega
theorem sl_ok : SlR X (rSl (gd X)) := by
  intro pins s σ H x v vl vu lo hi sl Q I rx hs pl pu h
  obtain ⟨O, d, E, hd, dm, h⟩ := h
  cases d with
  | lst ds =>
    obtain ⟨a, vs, rfl, ⟨h1, h4⟩, h2, h3⟩ := hd
    refine sl_list pins s σ H _ v vl vu lo hi sl Q I rx hs pl pu ⟨a, vs, rfl, .inl h1, fun p hp => h _ _ (same_upd hp) ⟨p, rfl, hp, _, upd_same, Nat.le_trans cutD_length h2, ?_⟩⟩
    exact ((cutD_reps h3).more hp).same (same_upd hp)
  | kl ds =>
    obtain ⟨a, vs, rfl, h1, h2, h3⟩ := hd
    refine sl_list pins s σ H _ v vl vu lo hi sl Q I rx hs pl pu ⟨a, vs, rfl, kl_sq h1, fun p hp => h _ _ (same_upd hp) ⟨p, rfl, hp, _, upd_same, Nat.le_trans cutD_length h2, ?_⟩⟩
    exact ((cutD_reps h3).more hp).same (same_upd hp)
  | tup ds =>
    obtain ⟨a, vs, rfl, h1, h2, h3⟩ := hd
    simp only [slD] at h
    split at h
    · exact h.elim
    · rename_i hw
      refine sl_tup pins s σ H _ v vl vu lo hi sl Q I rx hs pl pu ⟨a, vs, rfl, ?_, by rw [h3.length]; exact hw, fun p hp => h _ _ (same_upd hp) ⟨p, _, rfl, .inl ⟨upd_same, dm.free hp⟩, Nat.le_trans cutD_length h2, (cutD_reps h3).same (same_upd hp)⟩⟩
      rcases h1 with ⟨h1, _⟩ | h1
      · exact .inl (.inl h1)
      · exact .inr h1
  | str z =>
    obtain ⟨rfl, hz⟩ := hd
    refine sl_str pins s σ H _ v vl vu lo hi sl Q I rx hs pl pu ⟨z, rfl, hz, h _ _ (Same.refl _) ⟨rfl, Nat.le_trans cutS_length hz⟩⟩
  | _ => exact h.elim
theorem s_slc (ha : PE X a (tE (gd X) W ma)) (hl : PO X lo (tP (gd X) W ml)) (hh : PO X hi (tP (gd X) W mh)) : PE X (.Subscript a (.Slice lo hi none p2) pos) (tE (gd X) W fun ρ => (ma ρ).bind fun x => (ml ρ).bind fun l => (mh ρ).bind fun h => slD x.1 l h) := by
  refine (pe_slice sl_ok ha hl hh).imp fun σ H Q ⟨ρ, O, A, h⟩ => ?_
  refine ⟨ρ, O, A, (PF.bind h).mono fun x H1 ⟨p, s1, v1, h1⟩ => ?_⟩
  have A1 := A.same s1
  refine ⟨ρ, O, A1, (PF.bindA h1).mono fun l H2 ⟨s2, h2⟩ => ?_⟩
  have A2 := A1.same s2
  refine ⟨ρ, O, A2, (PF.bindA h2).mono fun u H3 ⟨s3, h3⟩ => ?_⟩
  exact ⟨O, p.1, _, ((v1.rep A.dom).same s2).same s3, A2.dom.same s3, h3⟩
end

/-! ### calls of own defs -/
section
variable {X : Cx} {N : List Str} {st sc : Scope} {C : Ctx} {W : WX} {a e : Expr} {es : List Expr} {ma : List Sl → R} {ms : List Sl → Rz (List D)} {pos p p2 : Pos}
theorem s_call (ok : XOk N st sc C X) (tk : Takes X W) {f : Str} (hg : glB sc f = true) (hn : nmB f = true) (hf : C.inf.has.contains f = true) (hv : (e :: es).all isVal = true) (ha : PA X (e :: es) (tA (gd X) W ms)) :
    PE X (.Call (.Name f p) (e :: es) [] pos) (tE (gd X) W fun ρ => (ms ρ).bind fun ds => C.cal f ds) := by
  obtain ⟨fa, fd, ps, k, F, hr, hm, hk, hb⟩ := ok.cal f hf
  have hv' := (Bool.and_eq_true _ _ ▸ (List.all_cons ▸ hv : (isVal e && es.all isVal) = true))
  refine (pe_callS (E := WE W) F hr (gl_of ok hg) hm hk hb (fun σ => passAt tk σ) ha (nmB_of hn).1 (isVal_star hv'.1) (isVal_any hv'.2)).imp fun σ H Q ⟨ρ, O, A, h⟩ => ?_
  exact ⟨ρ, O, A, (PF.bindA h).mono fun ds H1 ⟨s1, h1⟩ vs hv => ⟨O, ds, A.dom.same s1, hv, h1⟩⟩

end
/-! ### defaults, classes, methods -/
theorem reps_append {G : Gd} {O : Own} {H : Hp} : ∀ {ds es : List D} {vs ws : List V}, Reps G O H ds vs → Reps G O H es ws → Reps G O H (ds ++ es) (vs ++ ws)
  | [], _, _, _, h, k => by cases h; exact k
  | d :: ds, _, _, _, h, k => by
    obtain ⟨v, r, rfl, h1, h2⟩ := h
    exact ⟨v, _, rfl, h1, reps_append h2 k⟩
theorem run_fnSD {X : Cx} {CX : CXT} {k : Nat} {f : Addr} {fd : FuncData} {ps : List Str} {sp : Sp} {E : St → XK} {dvs : List V} {dus : List Value} {pins : List (Addr × Obj)} {σ : St} {H : Hp} {s : Shared} {Q : VK} {us : List Value} {vs : List V} (F : FnOk X.prog X.w X.K X.mg X.base CX k f fd ps sp) (hr : Room k X.A) (hb : Binds X.K fd ps dus) (hd : Vals dvs dus) (hx : PassesAt CX X σ (E σ))
    (I : Inv X pins σ H s) (r : Vals vs us) (h : sp (vs ++ dvs) H Q (E σ)) : wpAny (model X.prog X.w) X.A (call (.ref f) us) (EP X pins σ Q) X.xe s := by
  have r2 : Vals (vs ++ dvs) (us ++ dus) := r.append hd
  have hl : (us ++ dus).length = ps.length := by rw [← r2.length]; exact F.len _ _ _ _ h
  refine wpAny_call (codeAny_mono (F.run X.A X.stack s H ⟨us, []⟩ (us ++ dus) (vs ++ dvs) Q (E σ) hr I.env0 (hb s us I.kIn hl) r2 h) fun r s' hq => ?_)
  cases r with
  | error e => exact hx pins H s e s' I hq
  | ok fl =>
    cases fl with
    | ret u => exact I.after hq
    | next => exact False.elim hq
    | brk => exact False.elim hq
    | cont => exact False.elim hq
def tCallSD (sp : Sp) (dvs : List V) (E : St → XK) (t : TA) : TE := fun σ H Q => t σ H fun vs H1 => sp (vs ++ dvs) H1 Q (E σ)
theorem pe_callSD {X : Cx} {CX : CXT} {k : Nat} {f : Addr} {fd : FuncData} {ps : List Str} {sp : Sp} {E : St → XK} {dvs : List V} {dus : List Value} {x : Str} {e : Expr} {es : List Expr} {p pos : Pos} {t : TA} (F : FnOk X.prog X.w X.K X.mg X.base CX k f fd ps sp) (hr : Room k X.A) (hg : Gl X x) (hm : X.mg x = some (.ref f)) (hk : PySem.W.keepIn X.K (.ref f) = true) (hb : Binds X.K fd ps dus) (hd : Vals dvs dus) (hx : ∀ σ, PassesAt CX X σ (E σ))
    (ha : PA X (e :: es) t) (hdb : (x == ("__debug__" : Str)) = false) (he : starEach (e :: es) X.env = (false, eval e X.env) :: starEach es X.env) (hpl : (backTo pos (starEach es X.env)).any (·.1) = false) :
    PE X (.Call (.Name x p) (e :: es) [] pos) (tCallSD sp dvs E t) := by
  refine ⟨fun pins s σ H Q I h => ?_⟩
  refine wpAny_Call_Name_kw (ld_glob I hg hm ?_ hdb)
  refine PySem.W.callWith_K (h₀ := X.base) I.ok.mod.kin hk (thn (ha.run pos pins s σ H _ I h) fun us s1 ⟨vs, H1, I1, r, q⟩ => ⟨I1.kIn, ?_⟩) he hpl
  exact run_fnSD F hr hb hd (hx σ) I1 r q
theorem ht_of {o : Expr} {m : Str} {apos pos : Pos} {env : Env} {es : List Expr} (hb : isBase o = true) (hl : (apos.endLine == pos.line) = true) (hf : methodCallForm (es.length + 0) (backTo pos (starEach es env)) (backToKw pos (keywordEach [] env)) = true) : eval (.Call (.Attribute o m apos) es [] pos) env = (do
      let ov ← eval o env
      standAt apos.atName
      let (f, first) ← holding [ov] (getMethod ov m (do return (← importBound o env).getD true))
      callWith pos f first (backTo pos (starEach es env)) (backToKw pos (keywordEach [] env))) := by
  show (do
    let ov ← attributeBase o m env (eval o env)
    standAt apos.atName
    methodCall o m apos pos env ov (es.length + 0) (backTo pos (starEach es env)) (backToKw pos (keywordEach [] env))) = _
  rw [isBase_of hb]
  unfold methodCall calleeOf methodCallPos
  rw [hf]
  simp only [hl, Bool.or_true, if_true, Bool.not_true, Bool.false_or]
  rfl
theorem few_of {X : Cx} {cpos : Pos} : ∀ {es : List Expr}, es.all isVal = true → es.length < 30 → methodCallForm (es.length + 0) (backTo cpos (starEach es X.env)) (backToKw cpos (keywordEach [] X.env)) = true := by
  intro es hv hl
  have h1 : (backTo cpos (starEach es X.env)).all (fun x => !x.1) = true := by
    have := isVal_any (env := X.env) (pos := cpos) hv
    rw [List.all_eq_true]
    intro x hx
    rw [List.any_eq_false] at this
    simpa using this x hx
  unfold methodCallForm
  rw [h1]
  have h2 : (backToKw cpos (keywordEach [] X.env)).all (fun x => x.1.isSome) = true := rfl
  have h3 : (backToKw cpos (keywordEach [] X.env)).isEmpty = true := rfl
  rw [h2, h3]
  simp
  exact hl
section
variable {X : Cx} {N : List Str} {st sc : Scope} {C : Ctx} {W : WX} {a e o : Expr} {es : List Expr} {ma : List Sl → R} {ms : List Sl → Rz (List D)} {pos p apos : Pos} {ta : TE} {t : TA} {m : Str}
/-- o.m(..), the class seen when o is there -/
def tMethD (X : Cx) (E : St → XK) (m : Str) (ta : TE) (t : TA) : TE := fun σ H Q => ta σ H fun x H1 => ∃ a Ca dx fs f fd ps k sp, x = .ref a ∧ H1 a = some (.ins Ca dx fs) ∧ fs.lookup m = none ∧ Cls X.K Ca ∧ Meth X.K Ca m f ∧
  FnOk X.prog X.w X.K X.mg X.base (L2.CX X.prog X.w) k f fd ps sp ∧ Room k X.A ∧ Binds X.K fd ps [] ∧ t σ H1 fun vs H2 => sp (x :: vs) H2 Q (E σ)
theorem pe_methD {E : St → XK} (he : PE X o ta) (hx : ∀ σ, PassesAt (L2.CX X.prog X.w) X σ (E σ)) (ha : PA X (e :: es) t) (hb : isBase o = true) (hl : (apos.endLine == pos.line) = true) (hv : (e :: es).all isVal = true) (hn : (e :: es).length < 30) :
    PE X (.Call (.Attribute o m apos) (e :: es) [] pos) (tMethD X E m ta t) := by
  have hv' := (Bool.and_eq_true _ _ ▸ (List.all_cons ▸ hv : (isVal e && es.all isVal) = true))
  refine ⟨fun pins s σ H Q I h => ?_⟩
  refine PySem.W.methodCall_KW (thn (he.run pins s σ H _ I h) fun u s1 ⟨x, H1, I1, rx, a, Ca, dx, fs, f, fd, ps, k, sp, ex, ea, l, c, hm, F, hr, hbd, q⟩ => ?_) (ht_of hb hl (few_of hv hn))
  subst ex
  obtain rfl : u = Value.ref a := rx
  refine getmeth_ok I1 ea c hm l ?_
  refine PySem.W.callWith_K (first := [.ref a]) (h₀ := X.base) I.ok.mod.kin hm.kp (thn (ha.run pos pins s1 σ H1 _ I1 q) fun us s2 ⟨vs, H2, I2, r, q2⟩ => ⟨I2.kIn, ?_⟩) (isVal_star hv'.1) (isVal_any hv'.2)
  exact run_fnS (us := .ref a :: us) (vs := .ref a :: vs) F hr hbd (hx σ) I2 (.cons rfl r) q2
theorem pe_methD0 {E : St → XK} (he : PE X o ta) (hx : ∀ σ, PassesAt (L2.CX X.prog X.w) X σ (E σ)) (hb : isBase o = true) (hl : (apos.endLine == pos.line) = true) :
    PE X (.Call (.Attribute o m apos) [] [] pos) (tMethD X E m ta tNil) := by
  refine ⟨fun pins s σ H Q I h => ?_⟩
  refine PySem.W.methodCall_KW (thn (he.run pins s σ H _ I h) fun u s1 ⟨x, H1, I1, rx, a, Ca, dx, fs, f, fd, ps, k, sp, ex, ea, l, c, hm, F, hr, hbd, q⟩ => ?_) (ht_of hb hl (few_of rfl (by decide)))
  subst ex
  obtain rfl : u = Value.ref a := rx
  refine getmeth_ok I1 ea c hm l ?_
  exact PySem.W.callWith_K0 (first := [.ref a]) I1.kIn hm.kp (run_fnS (us := [.ref a]) (vs := [.ref a]) F hr hbd (hx σ) I1 (.cons rfl .nil) q)
theorem repF_none {G : Gd} {O : Own} {H : Hp} {f : Str} : ∀ {fs : List (Str × D)} {ws : List (Str × V)}, RepF G O H fs ws → fs.lookup f = none → ws.lookup f = none
  | [], _, h, _ => by cases h; rfl
  | (g, d) :: fs, _, h, e => by
    obtain ⟨v, s, rfl, h1, h2⟩ := h
    rw [List.lookup_cons] at e ⊢
    cases hq : (f == g) with
    | true => rw [hq] at e; cases e
    | false => rw [hq] at e; exact repF_none h2 e
theorem repF_some {G : Gd} {O : Own} {H : Hp} {f : Str} {d : D} : ∀ {fs : List (Str × D)} {ws : List (Str × V)}, RepF G O H fs ws → fs.lookup f = some d → ∃ v, ws.lookup f = some v ∧ Rep G O H d v
  | [], _, h, e => by cases e
  | (g, d') :: fs, _, h, e => by
    obtain ⟨v, s, rfl, h1, h2⟩ := h
    rw [List.lookup_cons] at e ⊢
    cases hq : (f == g) with
    | true => rw [hq] at e; cases e; exact ⟨v, rfl, h1⟩
    | false => rw [hq] at e; exact repF_some h2 e
theorem repF_zip {G : Gd} {O : Own} {H : Hp} : ∀ {fds : List Str} {ds : List D} {vs : List V}, Reps G O H ds vs → RepF G O H (fds.zip ds) (fds.zip vs)
  | [], _, _, _ => rfl
  | f :: fds, [], vs, h => by cases h; exact rfl
  | f :: fds, d :: ds, vs, h => by
    obtain ⟨v, r, rfl, h1, h2⟩ := h
    exact ⟨v, _, rfl, h1, repF_zip h2⟩
theorem s_fld (ok : XOk N st sc C X) {f : Str} (hb : isBase a = true) (ha : PE X a (tE (gd X) W ma)) : PE X (.Attribute a f pos) (tE (gd X) W fun ρ => (ma ρ).bind fun x => fldD C.inf.cls x.1 f) := by
  refine (pe_fld ha (isBase_of hb)).imp fun σ H Q ⟨ρ, O, A, h⟩ => ?_
  refine ⟨ρ, O, A, (PF.bind h).mono fun x H1 ⟨p, s1, v1, h1⟩ => ?_⟩
  have r := v1.rep A.dom
  obtain ⟨d, fr⟩ := p
  cases d with
  | ins c fs =>
    obtain ⟨b, cb, dx, ws, rfl, hm, ⟨hH, _⟩, hf⟩ := r
    simp only [fldD] at h1
    split at h1
    · rename_i p hp
      split at h1
      · rename_i hc
        split at h1
        · rename_i d hd
          obtain ⟨Ca, k1, k2, k3, _⟩ := ok.cls c p hp
          have e : cb = Ca := by
            have := hm.symm.trans k1
            cases this; rfl
          subst e
          obtain ⟨v, l1, l2⟩ := repF_some hf hd
          exact ⟨b, cb, dx, ws, v, rfl, hH, k2, k3 f (List.contains_iff_mem.mp hc), l1, h1 v _ (Same.refl _) l2⟩
        · exact h1.elim
      · exact h1.elim
    · exact h1.elim
  | _ => exact h1.elim
theorem mth_read (ok : XOk N st sc C X) {ρ : List Sl} {O : Own} {H : Hp} {σ : St} {Q : VK} {m : Str} {f : D → Option Str → R} {x : V} {d : D} {g : Str} (r : Rep (gd X) O H d x) (hg : mthD C.inf.cls d m = some g) :
    ∃ a Ca dx fs fm fd ps k, x = .ref a ∧ H a = some (.ins Ca dx fs) ∧ fs.lookup m = none ∧ Cls X.K Ca ∧ Meth X.K Ca m fm ∧ FnOk X.prog X.w X.K X.mg X.base (L2.CX X.prog X.w) k fm fd ps (spF (gd X) (C.cal g)) ∧ Room k X.A ∧ Binds X.K fd ps [] := by
  cases d with
  | ins c fs =>
    obtain ⟨b, cb, dx, ws, rfl, hm, ⟨hH, _⟩, hf⟩ := r
    simp only [mthD] at hg
    split at hg
    · rename_i p hp
      split at hg
      · rename_i hn
        obtain ⟨Ca, k1, k2, k3, k4, _⟩ := ok.cls c p hp
        have e : cb = Ca := by
          have := hm.symm.trans k1
          cases this; rfl
        subst e
        obtain ⟨fm, fd, ps, k, q1, q2, q3, q4⟩ := k4 m g hg
        exact ⟨b, cb, dx, ws, fm, fd, ps, k, rfl, hH, repF_none hf (Option.isNone_iff_eq_none.mp hn), k2, q1, q2, q3, q4⟩
      · cases hg
    · cases hg
  | _ => cases hg
theorem s_mth (ok : XOk N st sc C X) (tk : Takes X W) {m : Str} (hb : isBase o = true) (hl : (apos.endLine == pos.line) = true) (hv : (e :: es).all isVal = true) (hn : (e :: es).length < 30) (ho : PE X o (tE (gd X) W ma)) (ha : PA X (e :: es) (tA (gd X) W ms)) :
    PE X (.Call (.Attribute o m apos) (e :: es) [] pos) (tE (gd X) W fun ρ => (ma ρ).bind fun x => match mthD C.inf.cls x.1 m with
      | some g => (ms ρ).bind fun ds => C.cal g (x.1 :: ds)
      | none => .bad) := by
  refine (pe_methD (E := WE W) ho (fun σ => passAt tk σ) ha hb hl hv hn).imp fun σ H Q ⟨ρ, O, A, h⟩ => ?_
  refine ⟨ρ, O, A, (PF.bind h).mono fun x H1 ⟨p, s1, v1, h1⟩ => ?_⟩
  have r := v1.rep A.dom
  have A1 := A.same s1
  cases hg : mthD C.inf.cls p.1 m with
  | none => rw [hg] at h1; exact h1.elim
  | some g =>
    rw [hg] at h1
    obtain ⟨b, Ca, dx, fs, fm, fd, ps, k, e1, e2, e3, e4, e5, e6, e7, e8⟩ := mth_read (ρ := ρ) (σ := σ) (Q := Q) (f := fun _ _ => .bad) ok r hg
    refine ⟨b, Ca, dx, fs, fm, fd, ps, k, _, e1, e2, e3, e4, e5, e6, e7, e8, ρ, O, A1, (PF.bindA h1).mono fun ds H2 ⟨s2, h2⟩ vs hv => ?_⟩
    exact ⟨O, p.1 :: ds, A1.dom.same s2, ⟨x, vs, rfl, r.same s2, hv⟩, h2⟩
theorem s_mth0 (ok : XOk N st sc C X) (tk : Takes X W) {m : Str} (hb : isBase o = true) (hl : (apos.endLine == pos.line) = true) (ho : PE X o (tE (gd X) W ma)) :
    PE X (.Call (.Attribute o m apos) [] [] pos) (tE (gd X) W fun ρ => (ma ρ).bind fun x => match mthD C.inf.cls x.1 m with
      | some g => C.cal g [x.1]
      | none => .bad) := by
  refine (pe_methD0 (E := WE W) ho (fun σ => passAt tk σ) hb hl).imp fun σ H Q ⟨ρ, O, A, h⟩ => ?_
  refine ⟨ρ, O, A, (PF.bind h).mono fun x H1 ⟨p, s1, v1, h1⟩ => ?_⟩
  have r := v1.rep A.dom
  have A1 := A.same s1
  cases hg : mthD C.inf.cls p.1 m with
  | none => rw [hg] at h1; exact h1.elim
  | some g =>
    rw [hg] at h1
    obtain ⟨b, Ca, dx, fs, fm, fd, ps, k, e1, e2, e3, e4, e5, e6, e7, e8⟩ := mth_read (ρ := ρ) (σ := σ) (Q := Q) (f := fun _ _ => .bad) ok r hg
    exact ⟨b, Ca, dx, fs, fm, fd, ps, k, _, e1, e2, e3, e4, e5, e6, e7, e8, O, [p.1], A1.dom, ⟨x, [], rfl, r, rfl⟩, h1⟩
theorem s_mk (ok : XOk N st sc C X) {c : Str} (hg : glB sc c = true) (hn : nmB c = true) (hc : (C.inf.cls.lookup c).isSome = true) (hv : (e :: es).all isVal = true) (ha : PA X (e :: es) (tA (gd X) W ms)) :
    PE X (.Call (.Name c p) (e :: es) [] pos) (tE (gd X) W fun ρ => match C.cal Str.empty [] with
      | .ok _ => (ms ρ).bind fun ds => mkD C.inf.cls c ds
      | _ => .bad) := by
  obtain ⟨pp, hp⟩ := Option.isSome_iff_exists.mp hc
  have hv' := (Bool.and_eq_true _ _ ▸ (List.all_cons ▸ hv : (isVal e && es.all isVal) = true))
  obtain ⟨Ca, k1, k2, k3, k4, k5⟩ := ok.cls c pp hp
  cases hcal : C.cal Str.empty [] with
  | bad => exact ⟨fun pins s σ H Q I ⟨ρ, O, A, h⟩ => h.elim⟩
  | exc x => exact ⟨fun pins s σ H Q I ⟨ρ, O, A, h⟩ => h.elim⟩
  | ok q0 =>
    obtain ⟨f, fd, ps, k, M, F, hr, hb⟩ := k5 (by rw [hcal]; exact fun z => by cases z)
    refine (pe_make (dvs := []) (ds := []) (E := fun _ _ _ => True) M F hr (gl_of ok hg) k1 hb .nil pass0 ha (nmB_of hn).1 (isVal_star hv'.1) (isVal_any hv'.2)).imp fun σ H Q ⟨ρ, O, A, h⟩ => ?_
    refine ⟨ρ, O, A, (PF.bindA h).mono fun ds H1 ⟨s1, h2⟩ vs hvs x dx hx hdx hne => ?_⟩
    simp only [mkD, hp] at h2
    split at h2
    · rename_i hl
      have hwl : vs.length = pp.1.length := by rw [hvs.length]; exact hl
      rw [List.append_nil]
      have hxd : (upd H1 dx (.own x)) x = none := by rw [upd_ne (fun z => hne z.symm)]; exact hx
      refine ⟨x, dx, vs, rfl, upd_same, hwl, rfl, ?_⟩
      have sm : Same H1 (upd (upd (upd H1 dx (.own x)) x (.ins Ca dx [])) x (.ins Ca dx (pp.1.zip vs))) := by
        intro b u q
        have b1 : b ≠ x := ne_of_none q hx
        have b2 : b ≠ dx := ne_of_none q hdx
        rw [upd_ne b1, upd_ne b1, upd_ne b2]; exact q
      refine h2 (.ref x) _ sm ⟨x, Ca, dx, pp.1.zip vs, rfl, k1, ⟨upd_same, (A.dom.same s1).free hx⟩, repF_zip (hvs.same sm)⟩
    · exact h2.elim
theorem s_cald (ok : XOk N st sc C X) (tk : Takes X W) {f : Str} {dv : List D} (hg : glB sc f = true) (hn : nmB f = true) (hf : C.inf.df.lookup f = some dv) (hv : (e :: es).all isVal = true) (ha : PA X (e :: es) (tA (gd X) W ms)) :
    PE X (.Call (.Name f p) (e :: es) [] pos) (tE (gd X) W fun ρ => (ms ρ).bind fun ds => C.cal f (ds ++ dv)) := by
  obtain ⟨fa, fd, ps, k, us, vs', F, hr, hm, hk, hb, hvl, hrp⟩ := ok.dfl f dv hf
  have hv' := (Bool.and_eq_true _ _ ▸ (List.all_cons ▸ hv : (isVal e && es.all isVal) = true))
  refine (pe_callSD (E := WE W) F hr (gl_of ok hg) hm hk hb hvl (fun σ => passAt tk σ) ha (nmB_of hn).1 (isVal_star hv'.1) (isVal_any hv'.2)).imp fun σ H Q ⟨ρ, O, A, h⟩ => ?_
  exact ⟨ρ, O, A, (PF.bindA h).mono fun ds H1 ⟨s1, h1⟩ vs hv => ⟨O, ds ++ dv, A.dom.same s1, reps_append hv (hrp O H1), h1⟩⟩
end
section
variable {X : Cx} {N : List Str} {st sc : Scope} {C : Ctx} {W : WX} {a e : Expr} {es : List Expr} {ma : List Sl → R} {ms : List Sl → Rz (List D)} {pos p p2 : Pos}
end
theorem pairOf_eq {d : D} {p : Str × Int} (h : pairOf d = some p) : d = pairD p := by
  unfold pairOf at h
  split at h
  · cases h; rfl
  · cases h
theorem pairsOf_eq : ∀ {ds : List D} {ps : List (Str × Int)}, pairsOf ds = some ps → ds = ps.map pairD
  | [], ps, h => by cases h; rfl
  | d :: ds, ps, h => by
    unfold pairsOf at h
    cases e : pairOf d with
    | none => rw [e] at h; cases h
    | some p =>
      rw [e] at h
      cases e2 : pairsOf ds with
      | none => rw [e2] at h; cases h
      | some qs =>
        rw [e2] at h
        cases h
        rw [List.map_cons, ← pairsOf_eq e2, ← pairOf_eq e]
section
open PyProof.Rows PySem.W
theorem each_of_reps {G : Gd} {O : Own} {H : Hp} : ∀ {ps : List (Str × Int)} {vs : List V} {us : List Value}, Reps G O H (ps.map pairD) vs → Vals vs us → EachIs (fun u p => ∃ a, u = Value.ref a ∧ Rep G O H (pairD p) (.ref a)) us ps
  | [], _, _, h, r => by cases h; cases r; exact .nil
  | p :: ps, _, _, h, r => by
    obtain ⟨v, s, rfl, h1, h2⟩ := h
    cases r with
    | cons rv rr =>
      obtain ⟨a, ws, e, _⟩ := id h1
      subst e
      exact .cons ⟨a, rv, h1⟩ (each_of_reps h2 rr)
theorem reps_of_each {G : Gd} {O : Own} {H : Hp} : ∀ {ps : List (Str × Int)} {us : List Value}, EachIs (fun u p => ∃ a, u = Value.ref a ∧ Rep G O H (pairD p) (.ref a)) us ps → ∃ vs, Vals vs us ∧ Reps G O H (ps.map pairD) vs
  | [], _, .nil => ⟨[], .nil, rfl⟩
  | p :: ps, _, .cons ⟨a, e, h1⟩ r => by
    obtain ⟨vs, k1, k2⟩ := reps_of_each r
    exact ⟨.ref a :: vs, .cons e k1, ⟨.ref a, vs, rfl, h1, k2⟩⟩
theorem reads_pair {X : Cx} {pins : List (Addr × Obj)} {σ : L2.St} {H : Hp} {s : Shared} {O : Own} {a : Addr} {p : Str × Int} (I : L2.Inv X pins σ H s) (h : Rep ⟨X.K, X.mg, X.w⟩ O H (pairD p) (.ref a)) : ∃ as, Reads s.heap (.ref a) (encP p) as := by
  obtain ⟨b, ws, e, h1, h2, h3⟩ := h
  cases e
  have hq : SqT X.K H a ws := by
    rcases h1 with ⟨h1, _⟩ | h1
    · exact .inl (.inl h1)
    · exact .inr h1
  obtain ⟨v1, r1, rfl, ⟨rfl, _⟩, h3⟩ := h3
  obtain ⟨v2, r2, rfl, e2, h3⟩ := h3
  cases e2
  cases h3
  obtain ⟨its, rv, ht, _⟩ := I.tuple hq
  cases rv with
  | cons ra rr =>
    cases rr with
    | cons rb rn =>
      cases rn
      obtain ⟨t1, rfl⟩ := ra
      obtain ⟨t2, rfl⟩ := rb
      obtain ⟨o, ho, hc, n, hd⟩ := ht
      exact ⟨_, .tuple ho hc hd (.cons (.str _ _) (.cons (.int _ _) .nil))⟩
def rSortPr (G : Gd) : List V → Hp → VK → Prop := fun vs H Q => ∃ (O : Own) (a : Addr) (ws : List V) (ps : List (Str × Int)), vs = [.ref a] ∧ SqL G.K H a ws ∧ Dom O H ∧ Reps G O H (ps.map pairD) ws ∧ ps.length ≤ sizeLine ∧
  ∀ p ys, H p = none → Reps G O H ((sortP ps).map pairD) ys → Q (.ref p) (upd H p (.lst ys))
theorem cr_sortPr {X : Cx} (hu : X.A.units + 64 < cLine) : CallR X (.builtin "sorted") (rSortPr ⟨X.K, X.mg, X.w⟩) := by
  intro pins s σ H vs us Q I r h
  obtain ⟨O, a, ws, ps, rfl, hs, dm, rp, hl, q⟩ := h
  obtain ⟨its, rv, hL, hz⟩ := I.list hs
  obtain ⟨u, rfl, ru⟩ := vals1 r
  obtain rfl : u = Value.ref a := ru
  have e := each_of_reps rp rv
  refine PySem.W.sorted_data (enc := encP) (vs := its) (bs := ps) (R := fun u p => ∃ a, u = Value.ref a ∧ Rep ⟨X.K, X.mg, X.w⟩ O H (pairD p) (.ref a)) hL.isList e (e.mono fun u p ⟨a, e1, e2⟩ => by subst e1; exact reads_pair I e2) (AllAlike.of fun b b' => rfl) (Sortable.tuples fun b => ⟨_, _, rfl⟩) hl (fun b _ => by
    have : (encP b).depth ≤ 2 := by unfold encP; simp [PyData.depth, PyData.depthAll]
    omega) fun out hlen e2 => ?_
  obtain ⟨ys, k1, k2⟩ := reps_of_each e2
  obtain ⟨n, hn⟩ := sortedAll_at s.heap its (List.toArray out)
  have hfree : s.heap.objs.size ≤ s.heap.objs.size + 1 := Nat.le_succ _
  refine ⟨.ref (s.heap.objs.size + 1), upd H (s.heap.objs.size + 1) (.lst ys), I.laid (t' := s.toks) (fun b o hb => sortedAll_old hb) hfree ⟨?_, out, n, k1, hn⟩, rfl, q _ ys (I.hok.fresh hfree) k2⟩
  rw [k1.length, hlen]; exact hl
end
section
variable {X : Cx} {N : List Str} {st sc : Scope} {C : Ctx} {W : WX} {a e : Expr} {es : List Expr} {ma : List Sl → R} {ms : List Sl → Rz (List D)} {pos p p2 : Pos}
/-! ### built-ins -/
def BF.val : BF → Value
  | .abs => .builtin "abs" | .len => .builtin "len" | .max2 => .builtin "max" | .min2 => .builtin "min" | .int => .type "int" | .str => .type "str" | .list => .type "list" | .tuple => .type "tuple" | .sum => .builtin "sum" | .max1 => .builtin "max" | .all => .builtin "all" | .any => .builtin "any" | .sorted => .builtin "sorted" | .dict => .type "dict"
def rBF (G : Gd) (f : BF) : List V → Hp → VK → Prop := fun xs H Q => ∃ (O : Own) (ds : List D) (E : XK), Reps G O H ds xs ∧ Dom O H ∧ PF G O H E (bfD f ds) Q
theorem reps1 {G : Gd} {O : Own} {H : Hp} {d : D} {xs : List V} (h : Reps G O H [d] xs) : ∃ v, xs = [v] ∧ Rep G O H d v := by
  obtain ⟨v, r, rfl, h1, h2⟩ := h
  cases h2
  exact ⟨v, rfl, h1⟩
theorem reps2 {G : Gd} {O : Own} {H : Hp} {d e : D} {xs : List V} (h : Reps G O H [d, e] xs) : ∃ v w, xs = [v, w] ∧ Rep G O H d v ∧ Rep G O H e w := by
  obtain ⟨v, r, rfl, h1, h2⟩ := h
  obtain ⟨w, rfl, h3⟩ := reps1 h2
  exact ⟨v, w, rfl, h1, h3⟩
theorem tup_sq {G : Gd} {O : Own} {H : Hp} {a : Addr} {vs : List V} (h : (H a = some (.tup vs) ∧ ¬ O a) ∨ KTup G.K a vs) : SqT G.K H a vs := by
  rcases h with ⟨h, _⟩ | h
  · exact .inl (.inl h)
  · exact .inr h
def rB1 (G : Gd) (f : D → R) : List V → Hp → VK → Prop := fun xs H Q => ∃ (O : Own) (d : D) (v : V) (E : XK), xs = [v] ∧ Rep G O H d v ∧ Dom O H ∧ PF G O H E (f d) Q
def rB2 (G : Gd) (f : D → D → R) : List V → Hp → VK → Prop := fun xs H Q => ∃ (O : Own) (d e : D) (v w : V) (E : XK), xs = [v, w] ∧ Rep G O H d v ∧ Rep G O H e w ∧ Dom O H ∧ PF G O H E (f d e) Q
theorem call_strS {X : Cx} : CallR X (.type "str") (fun xs H Q => ∃ a, xs = [.str a] ∧ Q (.str a) H) := by
  intro pins s σ H xs us Q I r h
  obtain ⟨a, rfl, q⟩ := h
  obtain ⟨u, rfl, t, rfl⟩ := vals1 r
  exact PySem.P.str_of_str ⟨.str _, H, I, ⟨_, rfl⟩, q⟩
theorem bf1_ok (hc : X.calm = true) (hu : X.A.units + 64 < cLine) (f : BF) : CallR X f.val (rB1 (gd X) (bf1 f)) := by
  intro pins s σ H xs us Q I r h
  obtain ⟨O, d, v, E, rfl, hd, dm, h⟩ := h
  cases f with
  | abs =>
    cases d with
    | int i => cases hd; exact call_abs pins s σ H _ us Q I r ⟨i, rfl, h.ok_int⟩
    | _ => exact h.elim
  | len =>
    cases d with
    | lst ds =>
      obtain ⟨a, vs, rfl, k1, k2, k3⟩ := rd_rep hd
      exact call_len_seq pins s σ H _ us Q I r ⟨a, vs, rfl, .inl (.inl k1), by rw [k3.length]; exact h.ok_int⟩
    | kl ds =>
      obtain ⟨a, vs, rfl, k1, k2, k3⟩ := hd
      exact call_len_seq pins s σ H _ us Q I r ⟨a, vs, rfl, .inl (kl_sq k1), by rw [k3.length]; exact h.ok_int⟩
    | tup ds =>
      obtain ⟨a, vs, rfl, k1, k2, k3⟩ := hd
      exact call_len_seq pins s σ H _ us Q I r ⟨a, vs, rfl, .inr (tup_sq k1), by rw [k3.length]; exact h.ok_int⟩
    | str x =>
      obtain ⟨rfl, k⟩ := hd
      exact call_len_str pins s σ H _ us Q I r ⟨x, rfl, k, h.ok_int⟩
    | dct lk kvs =>
      obtain ⟨a, ws, rfl, ⟨k1, _⟩, k2, k3, _⟩ := hd
      obtain ⟨u, rfl, rx⟩ := vals1 r
      cases rx
      exact d_len I k1.rd fun t s' I' => ⟨.int ws.length, H, I', ⟨_, rfl⟩, by rw [k3.length]; exact h.ok_int⟩
    | _ => exact h.elim
  | int =>
    cases d with
    | int i => cases hd; exact call_int1 pins s σ H _ us Q I r (.inl ⟨i, rfl, h.ok_int⟩)
    | bl b => cases hd; exact call_int1 pins s σ H _ us Q I r (.inr ⟨b, rfl, h.ok_int⟩)
    | _ => exact h.elim
  | list =>
    cases d with
    | lst ds =>
      obtain ⟨a, vs, rfl, k1, k2, k3⟩ := rd_rep hd
      exact call_list_of pins s σ H _ us Q I r ⟨a, vs, rfl, .inl (.inl k1), fun p hp => h _ _ (same_upd hp) ⟨p, rfl, hp, vs, upd_same, k2, (k3.more hp).same (same_upd hp)⟩⟩
    | kl ds =>
      obtain ⟨a, vs, rfl, k1, k2, k3⟩ := hd
      exact call_list_of pins s σ H _ us Q I r ⟨a, vs, rfl, .inl (kl_sq k1), fun p hp => h _ _ (same_upd hp) ⟨p, rfl, hp, vs, upd_same, k2, (k3.more hp).same (same_upd hp)⟩⟩
    | tup ds =>
      obtain ⟨a, vs, rfl, k1, k2, k3⟩ := hd
      exact call_list_of pins s σ H _ us Q I r ⟨a, vs, rfl, .inr (tup_sq k1), fun p hp => h _ _ (same_upd hp) ⟨p, rfl, hp, vs, upd_same, k2, (k3.more hp).same (same_upd hp)⟩⟩
    | dct lk kvs =>
      obtain ⟨a, ws, rfl, ⟨k1, _⟩, k2, k3, k4⟩ := hd
      exact call_listD hc pins s σ H _ us Q I r ⟨a, ws, rfl, k1.rd, fun p hp => h _ _ (same_upd hp) ⟨p, rfl, hp, _, upd_same, by rw [List.length_map]; exact k2, ((reps_keys k3.keys k4).more hp).same (same_upd hp)⟩⟩
    | _ => exact h.elim
  | tuple =>
    cases d with
    | lst ds =>
      obtain ⟨a, vs, rfl, k1, k2, k3⟩ := rd_rep hd
      exact call_tuple_of pins s σ H _ us Q I r ⟨a, vs, rfl, .inl ⟨.inl k1, fun p hp => h _ _ (same_upd hp) ⟨p, vs, rfl, .inl ⟨upd_same, dm.free hp⟩, k2, k3.same (same_upd hp)⟩⟩⟩
    | tup ds =>
      obtain ⟨a, vs, rfl, k1, k2, k3⟩ := id hd
      exact call_tuple_of pins s σ H _ us Q I r ⟨a, vs, rfl, .inr ⟨tup_sq k1, h _ _ (Same.refl _) hd⟩⟩
    | _ => exact h.elim
  | dict =>
    cases d with
    | dct lk kvs =>
      obtain ⟨a, ws, rfl, ⟨k1, _⟩, k2, k3, k4⟩ := hd
      exact call_dictD pins s σ H _ us Q I r ⟨a, ws, rfl, k1.rd, fun p hp => h _ _ (same_upd hp) ⟨p, rfl, hp, ws, upd_same, k2, RepK.ext (fun b o x n => ⟨same_upd hp b o x, fun z => z.elim n fun e => by subst e; rw [hp] at x; cases x⟩) _ _ k3, k4⟩⟩
    | _ => exact h.elim
  | sorted =>
    have fin : ∀ (ks : List Str) (p : Addr), (∀ k ∈ ks, k.length ≤ sizeLine) → ks.length < 64 → PF (gd X) O H E (.ok (.lst ((sortS ks).map .str), true)) Q → H p = none → Q (.ref p) (upd H p (.lst ((sortS ks).map V.str))) := fun ks p hk hl h hp => by
      have hl2 : (sortS ks).length = ks.length := (sortS_perm ks).length_eq
      refine h _ _ (same_upd hp) ⟨p, rfl, hp, _, upd_same, ?_, reps_strs _ fun k hk' => hk k ((sortS_perm ks).subset hk')⟩
      rw [List.length_map, hl2]
      exact Nat.le_trans (Nat.le_of_lt hl) (by decide)
    cases d with
    | dct lk kvs =>
      obtain ⟨a, ws, rfl, ⟨k1, _⟩, k2, k3, k4⟩ := hd
      simp only [bf1] at h
      cases hk : keyS (kvs.map (·.1)) with
      | none => rw [hk] at h; exact h.elim
      | some ks =>
        rw [hk] at h
        dsimp only at h
        split at h
        · rename_i hl
          have e := keyS_eq hk
          have lens : ∀ k ∈ ks, k.length ≤ sizeLine := fun k hk' => by
            have : Sum.inr k ∈ kvs.map (·.1) := by rw [e]; exact List.mem_map_of_mem hk'
            obtain ⟨kv, m1, m2⟩ := List.mem_map.mp this
            exact k4 kv m1 k m2
          exact call_sortedD hc pins s σ H _ us Q I r ⟨a, ws, ks, rfl, k1.rd, k3.keys.trans e, hl, fun ys p hp hs hn => by
            rw [sortS_uniq hp hs]
            exact fin ks p lens hl h hn⟩
        · exact h.elim
    | lst ds =>
      obtain ⟨a, vs, rfl, k1, k2, k3⟩ := rd_rep hd
      simp only [bf1] at h
      cases hk : strsOf ds with
      | some ks =>
        rw [hk] at h
        dsimp only at h
        split at h
        · rename_i hl
          obtain ⟨rfl, lens⟩ := strsOf_reps hk k3
          exact cr_sortedS pins s σ H _ us Q I r ⟨a, ks, rfl, .inl k1, hl, fun ys p hp hs hn => by
            rw [sortS_uniq hp hs]
            exact fin ks p lens hl h hn⟩
        · exact h.elim
      | none =>
        rw [hk] at h
        dsimp only at h
        cases hi : intsOf ds with
        | none =>
          rw [hi] at h
          dsimp only at h
          cases hpp : pairsOf ds with
          | none => rw [hpp] at h; exact h.elim
          | some ps =>
            rw [hpp] at h
            dsimp only at h
            split at h
            · rename_i hl
              have e := pairsOf_eq hpp
              subst e
              have hsz : ps.length ≤ sizeLine := Nat.le_trans (Nat.le_of_lt hl) (by decide)
              exact cr_sortPr hu pins s σ H _ us Q I r ⟨O, a, vs, ps, rfl, .inl k1, dm, k3, hsz, fun p ys hp hy => by
                refine h _ _ (same_upd hp) ⟨p, rfl, hp, _, upd_same, ?_, (hy.more hp).same (same_upd hp)⟩
                · rw [List.length_map]
                  have := (List.mergeSort_perm ps leP).length_eq
                  show (sortP ps).length ≤ _
                  unfold sortP
                  rw [this]; exact hsz⟩
            · exact h.elim
        | some ns =>
          rw [hi] at h
          dsimp only at h
          split at h
          · rename_i hl
            have e := intsOf_reps hi k3
            subst e
            exact cr_sorted pins s σ H _ us Q I r ⟨a, ns, rfl, .inl k1, hl, fun ns' p hp hs hn => by
              rw [sortI_uniq hp hs]
              refine h _ _ (same_upd hn) ⟨p, rfl, hn, _, upd_same, ?_, reps_ints _⟩
              rw [List.length_map, (sortI_perm ns).length_eq]
              exact Nat.le_trans (Nat.le_of_lt hl) (by decide)⟩
          · exact h.elim
    | _ => exact h.elim
  | sum =>
    cases d with
    | lst ds =>
      obtain ⟨a, vs, rfl, k1, k2, k3⟩ := rd_rep hd
      simp only [bf1] at h
      cases hi : intsOf ds with
      | none => rw [hi] at h; exact h.elim
      | some ns =>
        rw [hi] at h
        have e := intsOf_reps hi k3
        subst e
        exact cr_sum hc pins s σ H _ us Q I r ⟨a, ns, rfl, .inl k1, h.ok_int⟩
    | _ => exact h.elim
  | max1 =>
    cases d with
    | lst ds =>
      obtain ⟨a, vs, rfl, k1, k2, k3⟩ := rd_rep hd
      simp only [bf1] at h
      cases hi : intsOf ds with
      | none => rw [hi] at h; exact h.elim
      | some ns =>
        rw [hi] at h
        dsimp only at h
        split at h
        · exact h.elim
        · rename_i hl
          have e := intsOf_reps hi k3
          subst e
          exact cr_max hc pins s σ H _ us Q I r ⟨a, ns, rfl, .inl k1, Nat.pos_of_ne_zero hl, fun m h1 h2 => by rw [maxI_spec h1 h2]; exact h.ok_int⟩
    | _ => exact h.elim
  | all =>
    cases d with
    | lst ds =>
      obtain ⟨a, vs, rfl, k1, k2, k3⟩ := rd_rep hd
      simp only [bf1] at h
      cases hi : blsOf ds with
      | none => rw [hi] at h; exact h.elim
      | some ns =>
        rw [hi] at h
        have e := blsOf_reps hi k3
        subst e
        exact cr_all hc pins s σ H _ us Q I r ⟨a, ns, rfl, .inl k1, h.ok_bl⟩
    | _ => exact h.elim
  | any =>
    cases d with
    | lst ds =>
      obtain ⟨a, vs, rfl, k1, k2, k3⟩ := rd_rep hd
      simp only [bf1] at h
      cases hi : blsOf ds with
      | none => rw [hi] at h; exact h.elim
      | some ns =>
        rw [hi] at h
        have e := blsOf_reps hi k3
        subst e
        exact cr_any hc pins s σ H _ us Q I r ⟨a, ns, rfl, .inl k1, h.ok_bl⟩
    | _ => exact h.elim
  | str =>
    cases d with
    | int i =>
      cases hd
      simp only [bf1] at h
      split at h
      · rename_i hl
        rw [limE] at hl
        exact call_str_int pins s σ H _ us Q I r ⟨i, rfl, hl.1, h _ _ (Same.refl _) ⟨rfl, hl.2⟩⟩
      · exact h.elim
    | str x =>
      have hx := hd
      obtain ⟨rfl, k⟩ := hd
      exact call_strS pins s σ H _ us Q I r ⟨x, rfl, h _ _ (Same.refl _) hx⟩
    | _ => exact h.elim
  | _ => exact h.elim
theorem bf2_ok (hc : X.calm = true) (f : BF) : CallR X f.val (rB2 (gd X) (bf2 f)) := by
  intro pins s σ H xs us Q I r h
  obtain ⟨O, d, e, v, w, E, rfl, hd, he, dm, h⟩ := h
  cases f with
  | max2 =>
    cases d with
    | int i =>
      cases e with
      | int j => cases hd; cases he; exact call_max2 hc pins s σ H _ us Q I r ⟨i, j, rfl, h.ok_int⟩
      | _ => exact h.elim
    | _ => cases e <;> exact h.elim
  | min2 =>
    cases d with
    | int i =>
      cases e with
      | int j => cases hd; cases he; exact call_min2 hc pins s σ H _ us Q I r ⟨i, j, rfl, h.ok_int⟩
      | _ => exact h.elim
    | _ => cases e <;> exact h.elim
  | _ => exact h.elim
theorem bf_ok (hc : X.calm = true) (hu : X.A.units + 64 < cLine) (f : BF) : CallR X f.val (rBF (gd X) f) := by
  intro pins s σ H xs us Q I r h
  obtain ⟨O, ds, E, hd, dm, h⟩ := h
  cases ds with
  | nil => exact h.elim
  | cons d ds =>
    cases ds with
    | nil =>
      obtain ⟨v, rfl, h1⟩ := reps1 hd
      exact bf1_ok hc hu f pins s σ H _ us Q I r ⟨O, d, v, E, rfl, h1, dm, h⟩
    | cons e ds =>
      cases ds with
      | nil =>
        obtain ⟨v, w, rfl, h1, h2⟩ := reps2 hd
        exact bf2_ok hc f pins s σ H _ us Q I r ⟨O, d, e, v, w, E, rfl, h1, h2, dm, h⟩
      | cons _ _ => exact h.elim
theorem s_bf (ok : XOk N st sc C X) {f : BF} (hg : blB C.inf sc f.nm = true) (hv : (e :: es).all isVal = true) (ha : PA X (e :: es) (tA (gd X) W ms)) :
    PE X (.Call (.Name f.nm p) (e :: es) [] pos) (tE (gd X) W fun ρ => (ms ρ).bind fun ds => bfD f ds) := by
  have hv' := (Bool.and_eq_true _ _ ▸ (List.all_cons ▸ hv : (isVal e && es.all isVal) = true))
  obtain ⟨hg', hm⟩ := bl_of ok hg
  have key : ∀ {t : TE}, PE X (.Call (.Name f.nm p) (e :: es) [] pos) (tCB (rBF (gd X) f) (tA (gd X) W ms)) → PE X (.Call (.Name f.nm p) (e :: es) [] pos) (tE (gd X) W fun ρ => (ms ρ).bind fun ds => bfD f ds) := fun h =>
    h.imp fun σ H Q ⟨ρ, O, A, h⟩ => ⟨ρ, O, A, (PF.bindA h).mono fun ds H1 ⟨s1, h1⟩ vs hv => ⟨O, ds, _, hv, A.dom.same s1, h1⟩⟩
  have st := isVal_star (es := es) (env := X.env) hv'.1
  have an := isVal_any (env := X.env) (pos := pos) hv'.2
  cases f with
  | abs => exact key (t := fun _ _ _ => True) (pe_callB (bf_ok ok.calm ok.un .abs) hg' hm (by decide +kernel) ha (by decide) (by decide) st an)
  | len => exact key (t := fun _ _ _ => True) (pe_callB (bf_ok ok.calm ok.un .len) hg' hm (by decide +kernel) ha (by decide) (by decide) st an)
  | max2 => exact key (t := fun _ _ _ => True) (pe_callB (bf_ok ok.calm ok.un .max2) hg' hm (by decide +kernel) ha (by decide) (by decide) st an)
  | min2 => exact key (t := fun _ _ _ => True) (pe_callB (bf_ok ok.calm ok.un .min2) hg' hm (by decide +kernel) ha (by decide) (by decide) st an)
  | int => exact key (t := fun _ _ _ => True) (pe_callTy (bf_ok ok.calm ok.un .int) hg' hm (by decide +kernel) ha (by decide) (by decide) st an)
  | str => exact key (t := fun _ _ _ => True) (pe_callTy (bf_ok ok.calm ok.un .str) hg' hm (by decide +kernel) ha (by decide) (by decide) st an)
  | list => exact key (t := fun _ _ _ => True) (pe_callTy (bf_ok ok.calm ok.un .list) hg' hm (by decide +kernel) ha (by decide) (by decide) st an)
  | tuple => exact key (t := fun _ _ _ => True) (pe_callTy (bf_ok ok.calm ok.un .tuple) hg' hm (by decide +kernel) ha (by decide) (by decide) st an)
  | sum => exact key (t := fun _ _ _ => True) (pe_callB (bf_ok ok.calm ok.un .sum) hg' hm (by decide +kernel) ha (by decide) (by decide) st an)
  | max1 => exact key (t := fun _ _ _ => True) (pe_callB (bf_ok ok.calm ok.un .max1) hg' hm (by decide +kernel) ha (by decide) (by decide) st an)
  | all => exact key (t := fun _ _ _ => True) (pe_callB (bf_ok ok.calm ok.un .all) hg' hm (by decide +kernel) ha (by decide) (by decide) st an)
  | sorted => exact key (t := fun _ _ _ => True) (pe_callB (bf_ok ok.calm ok.un .sorted) hg' hm (by decide +kernel) ha (by decide) (by decide) st an)
  | dict => exact key (t := fun _ _ _ => True) (pe_callTy (bf_ok ok.calm ok.un .dict) hg' hm (by decide +kernel) ha (by decide) (by decide) st an)
  | any => exact key (t := fun _ _ _ => True) (pe_callB (bf_ok ok.calm ok.un .any) hg' hm (by decide +kernel) ha (by decide) (by decide) st an)

theorem s_maxd (ok : XOk N st sc C X) {k1 : Pos} {u v : Expr} {mu mv : List Sl → R} (hg : blB C.inf sc "max" = true) (hv : isVal u = true) (ha : PE X u (tE (gd X) W mu)) (hb : PE X v (tE (gd X) W mv)) :
    PE X (.Call (.Name "max" p) [u] [⟨some "default", v, k1⟩] pos) (tE (gd X) W fun ρ => (mu ρ).bind fun x => (mv ρ).bind fun y => maxdD x.1 y.1) := by
  obtain ⟨hg', hm⟩ := bl_of ok hg
  refine (pe_callBK (cr_maxDf ok.calm) hg' hm (by decide +kernel) (pa_cons ha pa_nil (isVal_star hv)) (pk_cons hb pk_nil) (by decide) (by decide) (by rw [isVal_star hv]; rfl) (by rw [isVal_star hv]; rfl)).imp fun σ H Q ⟨ρ, O, A, h⟩ => ?_
  refine ⟨ρ, O, A, (PF.bind h).mono fun x H1 ⟨p, s1, v1, h1⟩ => ?_⟩
  have A1 := A.same s1
  refine ⟨ρ, O, A1, (PF.bind h1).mono fun y H2 ⟨q, s2, v2, h2⟩ => ?_⟩
  have r := (v1.rep A.dom).same s2
  have r2 := v2.rep A1.dom
  obtain ⟨d, fr⟩ := p
  obtain ⟨e, fr2⟩ := q
  cases d with
  | lst ds =>
    obtain ⟨a, vs, rfl, k1, k2, k3⟩ := rd_rep r
    simp only [maxdD] at h2
    cases hi : intsOf ds with
    | none => rw [hi] at h2; exact h2.elim
    | some ns =>
      rw [hi] at h2
      cases e with
      | int k =>
        cases r2
        have e := intsOf_reps hi k3
        subst e
        dsimp only at h2
        refine ⟨a, ns, k, rfl, rfl, .inl k1, fun z => ?_, fun m q1 q2 => ?_⟩
        · rw [if_pos (by rw [z]; rfl)] at h2; exact h2.ok_int
        · rw [if_neg (fun z => by rw [List.eq_nil_of_length_eq_zero z] at q1; cases q1)] at h2
          rw [maxI_spec q1 q2]; exact h2.ok_int
      | _ => exact h2.elim
  | _ => exact h2.elim

/-! ### sorted(set(..)) -/
theorem ddS_mem : ∀ {xs : List Str} {k : Str}, k ∈ ddS xs ↔ k ∈ xs
  | [], k => by rw [ddS]
  | x :: xs, k => by
    rw [ddS]
    have ih := ddS_mem (xs := xs) (k := k)
    split
    · next h =>
      rw [ih, List.mem_cons]
      exact ⟨.inr, fun z => z.elim (fun e => e ▸ h) id⟩
    · rw [List.mem_cons, List.mem_cons, ih]
theorem ddS_nodup : ∀ xs : List Str, (ddS xs).Nodup
  | [] => by rw [ddS]; exact List.nodup_nil
  | x :: xs => by
    rw [ddS]
    split
    · exact ddS_nodup xs
    · next h => exact List.nodup_cons.mpr ⟨fun z => h (ddS_mem.mp z), ddS_nodup xs⟩
theorem ddS_len : ∀ xs : List Str, (ddS xs).length ≤ xs.length
  | [] => by rw [ddS]; exact Nat.le_refl _
  | x :: xs => by
    rw [ddS]
    have := ddS_len xs
    split <;> simp only [List.length_cons] <;> omega
theorem s_sset (ok : XOk N st sc C X) {p2 q : Pos} {v : Expr} {mu : List Sl → R} (hg : blB C.inf sc "sorted" = true) (hg2 : blB C.inf sc "set" = true) (hv : isVal v = true) (ha : PE X v (tE (gd X) W mu)) :
    PE X (.Call (.Name "sorted" p) [.Call (.Name "set" p2) [v] [] q] [] pos) (tE (gd X) W fun ρ => (mu ρ).bind fun x => ssetD x.1) := by
  obtain ⟨hg', hm⟩ := bl_of ok hg
  obtain ⟨hg2', hm2⟩ := bl_of ok hg2
  have na := isVal_star (es := []) (env := X.env) hv
  refine ⟨fun pins s σ H Q I ⟨ρ, O, A, h⟩ => ?_⟩
  have b1 : bootBuiltins "sorted" = some (.builtin "sorted") := by decide +kernel
  have b2 : bootBuiltins "set" = some (.type "set") := by decide +kernel
  refine PyProof.Rows.Call_ (ld_blt I hg' hm b1 ?_)
  refine PyProof.Rows.callWith_builtin1 (PyProof.Rows.args_cons ?_ rfl) rfl rfl
  refine PyProof.Rows.Call_ (ld_blt I hg2' hm2 b2 ?_)
  refine PyProof.Rows.callWith_type1 (PyProof.Rows.args_cons (thn (ha.run pins s σ H _ I ⟨ρ, O, A, (PF.bind h)⟩) fun v s1 ⟨x, H1, I1, r1, p, s1', v1, h1⟩ => PyProof.Rows.args_nil ?_) na) na rfl
  have A1 := A.same s1'
  have r := v1.rep A.dom
  obtain ⟨d, fr⟩ := p
  cases d with
  | lst ds =>
    obtain ⟨a, vs, rfl, k1, k2, k3⟩ := rd_rep r
    simp only [ssetD] at h1
    cases hk : strsOf ds with
    | none => rw [hk] at h1; exact h1.elim
    | some ks =>
      rw [hk] at h1
      dsimp only at h1
      split at h1
      · rename_i hl
        obtain ⟨rfl, lens⟩ := strsOf_reps hk k3
        obtain ⟨its, rv, hL, hz⟩ := I1.list (.inl k1)
        cases r1
        refine call_tset ks (I1.ok.hd ok.calm) hL.isList (by simpa using rv.strs) hl fun h' tk hS hk => ?_
        have I2 : Inv X pins σ H1 { s1 with heap := h', toks := tk } := I1.kept hk
        have hS2 : TxtSet X.prog X.w ({ s1 with heap := h', toks := tk } : Shared).heap s1.heap.objs.size (· ∈ ks) := hS
        refine PyProof.Rows.args_nil ?_
        generalize ({ s1 with heap := h', toks := tk } : Shared) = s2 at I2 hS2 ⊢
        refine sorted_tset hS2 (I2.ok.hd ok.calm) fun s' p out c ys k g o hp hg a1 a2 nd mem => ?_
        have pm : ys.Perm (ddS ks) := (List.perm_ext_iff_of_nodup nd (ddS_nodup ks)).mpr fun j => (mem j).trans ddS_mem.symm
        rw [sortS_uniq pm a2] at a1
        have hl2 : (sortS (ddS ks)).length ≤ ks.length := by rw [(sortS_perm _).length_eq]; exact ddS_len ks
        have hlen : ((sortS (ddS ks)).map V.str).length ≤ sizeLine := by rw [List.length_map, sizeLine_eq]; omega
        have hn : H1 p = none := I2.hok.fresh hp
        have J : Inv X pins σ (upd H1 p (.lst ((sortS (ddS ks)).map V.str))) { s2 with heap := s'.heap, gens := s'.gens, drawn := s'.drawn, toks := s'.toks } :=
          I2.call (ch := []) (Un.laid k hp hn) (I2.hok.laid k hp ⟨hlen, out.toList, c, vals_of_strs a1, hg⟩) (by rw [g]; exact I2.bare) (fun _ z => nomatch z)
        have e : s' = { s2 with heap := s'.heap, gens := s'.gens, drawn := s'.drawn, toks := s'.toks } := by
          cases s'
          cases s2
          cases o
          rfl
        rw [e]
        exact ⟨.ref p, _, J, rfl, h1 _ _ (same_upd hn) ⟨p, rfl, hn, _, upd_same, by rw [List.length_map, ← List.length_map (f := V.str)]; exact hlen, reps_strs _ fun k hk' => lens k (ddS_mem.mp ((sortS_perm _).subset hk'))⟩⟩
      · exact h1.elim
  | _ => exact h1.elim

/-! ### isinstance -/
def tyS : D → String
  | .non => "NoneType" | .bl _ => "bool" | .int _ => "int" | .str _ => "str" | .tup _ => "tuple" | .lst _ => "list" | .dct _ _ => "dict" | .kl _ => "list" | _ => "object"
theorem tyX_of {G : Gd} {O : Own} {H : Hp} {d : D} {v : V} (h : Rep G O H d v) (hh : hasTy d = true) : TyX G.K H v (.type (tyS d)) := by
  cases d with
  | non => cases h; exact .base .non
  | bl _ => cases h; exact .base (.bl _)
  | int _ => cases h; exact .base (.int _)
  | str _ => obtain ⟨rfl, _⟩ := h; exact .base (.str _)
  | tup _ =>
    obtain ⟨a, vs, rfl, h1, _⟩ := h
    rcases h1 with ⟨h1, _⟩ | ⟨o, its, n, h1, h2, _⟩
    · exact .base (.tup h1)
    · exact .kTuple h1 h2
  | lst _ =>
    obtain ⟨a, vs, rfl, h1, _⟩ := rd_rep h
    rcases h1 with h1 | ⟨o, h1⟩
    · exact .base (.lst h1)
    · exact .base (.frz h1)
  | dct lk _ =>
    obtain ⟨a, ws, rfl, ⟨h1, _⟩, _⟩ := h
    rcases h1.rd with h1 | ⟨o, h1⟩
    · exact .base (.dK h1)
    · exact .fDict h1
  | ins _ _ => cases hh
  | exc _ => cases hh
  | dtn _ _ => cases hh
  | kl _ =>
    obtain ⟨a, vs, rfl, h1, _⟩ := h
    rcases h1 with ⟨h1 | ⟨o, h1⟩, _⟩ | ⟨o, its, n, h1, h2, _⟩
    · exact .base (.lst h1)
    · exact .base (.frz h1)
    · exact .kList h1 h2
theorem kit_n {K : PySem.W.Frag} (t : Ty) : PySem.W.kitOne K (.type "NoneType") (.type t.nm) = some (isTy t .non) := by cases t <;> exact kit_ty (by decide +kernel)
theorem kit_b {K : PySem.W.Frag} (t : Ty) : PySem.W.kitOne K (.type "bool") (.type t.nm) = some (isTy t (.bl true)) := by cases t <;> exact kit_ty (by decide +kernel)
theorem kit_i {K : PySem.W.Frag} (t : Ty) : PySem.W.kitOne K (.type "int") (.type t.nm) = some (isTy t (.int 0)) := by cases t <;> exact kit_ty (by decide +kernel)
theorem kit_s {K : PySem.W.Frag} (t : Ty) : PySem.W.kitOne K (.type "str") (.type t.nm) = some (isTy t (.str default)) := by cases t <;> exact kit_ty (by decide +kernel)
theorem kit_t {K : PySem.W.Frag} (t : Ty) : PySem.W.kitOne K (.type "tuple") (.type t.nm) = some (isTy t (.tup [])) := by cases t <;> exact kit_ty (by decide +kernel)
theorem kit_l {K : PySem.W.Frag} (t : Ty) : PySem.W.kitOne K (.type "list") (.type t.nm) = some (isTy t (.lst [])) := by cases t <;> exact kit_ty (by decide +kernel)
theorem kit_d {K : PySem.W.Frag} (t : Ty) : PySem.W.kitOne K (.type "dict") (.type t.nm) = some (isTy t (.dct true [])) := by cases t <;> exact kit_ty (by decide +kernel)
theorem kit_kl {K : PySem.W.Frag} (t : Ty) : PySem.W.kitOne K (.type "list") (.type t.nm) = some (isTy t (.kl [])) := by cases t <;> exact kit_ty (by decide +kernel)
theorem kit_isTy {K : PySem.W.Frag} (d : D) (t : Ty) (h : hasTy d = true) : PySem.W.kitOne K (.type (tyS d)) (.type t.nm) = some (isTy t d) := by
  cases d with
  | non => exact kit_n t
  | bl b => exact (kit_b t).trans (by cases t <;> rfl)
  | int b => exact (kit_i t).trans (by cases t <;> rfl)
  | str b => exact (kit_s t).trans (by cases t <;> rfl)
  | tup b => exact (kit_t t).trans (by cases t <;> rfl)
  | lst b => exact (kit_l t).trans (by cases t <;> rfl)
  | dct _ b => exact (kit_d t).trans (by cases t <;> rfl)
  | ins _ _ => cases h
  | exc _ => cases h
  | dtn _ _ => cases h
  | kl _ => exact (kit_kl t).trans (by cases t <;> rfl)
theorem s_isi (ok : XOk N st sc C X) {t : Ty} (hg : blB C.inf sc "isinstance" = true) (hv : isVal a = true) (ha : PE X a (tE (gd X) W ma)) (hg2 : blB C.inf sc (Str.ofString t.nm) = true) :
    PE X (.Call (.Name "isinstance" p) [a, .Name (Str.ofString t.nm) p2] [] pos) (tE (gd X) W fun ρ => (ma ρ).bind fun x => if hasTy x.1 then dBl (isTy t x.1) else .bad) := by
  obtain ⟨hg2, hm⟩ := bl_of ok hg2
  have hb : bootBuiltins (Str.ofString t.nm) = some (.type t.nm) := by cases t <;> decide +kernel
  have nn : Str.ofString t.nm ≠ ("__name__" : Str) ∧ (Str.ofString t.nm == ("__debug__" : Str)) = false := by cases t <;> decide
  refine (pe_callB call_isi (bl_of ok hg).1 (bl_of ok hg).2 (by decide +kernel) (pa_cons ha (pa_cons (pe_bltn (v := .ty t.nm) hg2 hm hb rfl nn.1 nn.2) pa_nil) (isVal_star hv)) (by decide) (by decide) (isVal_star hv) rfl).imp fun σ H Q ⟨ρ, O, A, h⟩ => ?_
  refine ⟨ρ, O, A, (PF.bind h).mono fun x H1 ⟨q, s1, v1, h1⟩ => ?_⟩
  have r := v1.rep A.dom
  split at h1
  · rename_i hh
    exact ⟨x, .ty t.nm, _, _, _, rfl, .ty _, tyX_of r hh, kit_isTy q.1 t hh, h1.ok_bl⟩
  · exact h1.elim

theorem look_mem'' {α β : Type} [BEq α] [LawfulBEq α] : ∀ {l : List (α × β)} {a : α} {b : β}, l.lookup a = some b → (a, b) ∈ l
  | [], a, b, h => by cases h
  | (x, y) :: l, a, b, h => by
    rw [List.lookup_cons] at h
    split at h
    · rename_i e
      cases h
      rw [eq_of_beq e]
      exact List.mem_cons_self
    · exact List.mem_cons_of_mem _ (look_mem'' h)
theorem s_isc (ok : XOk N st sc C X) {c : Str} (hg : blB C.inf sc "isinstance" = true) (hv : isVal a = true) (ha : PE X a (tE (gd X) W ma)) (h1 : glB sc c = true) (h2 : nmB c = true) (hx : (C.inf.ism.any fun e => decide (e.1.2 = c)) = true) :
    PE X (.Call (.Name "isinstance" p) [a, .Name c p2] [] pos) (tE (gd X) W fun ρ => (ma ρ).bind fun x => match x.1 with | .ins c0 _ => (match C.inf.ism.lookup (c0, c) with | some b => dBl b | none => .bad) | _ => .bad) := by
  obtain ⟨e, he, hec⟩ := List.any_eq_true.mp hx
  have hec : e.1.2 = c := of_decide_eq_true hec
  subst hec
  obtain ⟨_, Ca, _, hCa, _⟩ := ok.ism e he
  refine (pe_callB call_isi (bl_of ok hg).1 (bl_of ok hg).2 (by decide +kernel) (pa_cons ha (pa_cons (pe_glob (gl_of ok h1) hCa (show RelV (.ref Ca) (.ref Ca) from rfl) (nmB_of h2).1) pa_nil) (isVal_star hv)) (by decide) (by decide) (isVal_star hv) rfl).imp fun σ H Q ⟨ρ, O, A, h⟩ => ?_
  refine ⟨ρ, O, A, (PF.bind h).mono fun x H1 ⟨q, s1, v1, h1⟩ => ?_⟩
  have r := v1.rep A.dom
  obtain ⟨d, fr⟩ := q
  cases d with
  | ins c0 fs =>
    dsimp only at h1
    cases el : C.inf.ism.lookup (c0, e.1.2) with
    | none => rw [el] at h1; exact h1.elim
    | some b =>
      rw [el] at h1
      obtain ⟨Ma, Cb, k1, k2, k3, k4⟩ := ok.ism _ (look_mem'' el)
      obtain ⟨aa, c1, dx, ws, rfl, hc, ⟨hH, _⟩, _⟩ := r
      have e1 : c1 = Ma := by
        have := hc.symm.trans k1
        cases this; rfl
      have e2 : Cb = Ca := by
        have := k2.symm.trans hCa
        cases this; rfl
      subst e1 e2
      exact ⟨.ref aa, .ref Cb, _, _, b, rfl, .own _, .base (.ins hH k4.cl k4.ha k4.hn k4.htk k4.hm), k3, h1.ok_bl⟩
  | _ => exact h1.elim
/-- isinstance(e, c), e a caught exception that is kept -/
def rIsK (K : PySem.W.Frag) (D a : Addr) : List V → Hp → VK → Prop := fun xs H Q => ∃ (c : V) (cv : Value) (b : Bool), xs = [.ref a, c] ∧ H a = some (ExK (.ref D) a) ∧ (∀ u, RelV c u → u = cv) ∧ PySem.W.kitOne K (.ref D) cv = some b ∧ Q (.bl b) H
def rIsKs (K : PySem.W.Frag) : List V → Hp → VK → Prop := fun xs H Q => ∃ D a, ExcC K D ∧ rIsK K D a xs H Q
theorem call_isK {X : Cx} : CallR X (.builtin "isinstance") (rIsKs X.K) := by
  intro pins s σ H xs us Q I r h
  obtain ⟨D, a, C, c, cv, b, rfl, hH, hcv, e, q⟩ := h
  cases r with
  | cons rx rr =>
    cases rr with
    | cons rt rr =>
      cases rr
      cases rx
      have ec := hcv _ rt
      subst ec
      obtain ⟨⟨oe, vs, hget, hz, hv⟩, _, _⟩ := I.hok a _ hH
      have J : PySem.W.InstAt s.heap a oe D none := by
        obtain ⟨oc, od, oda, osl⟩ := oe
        obtain ⟨h1, h2⟩ := hz
        dsimp only at h1 h2 hv
        subst h1 h2 hv
        exact ⟨hget, rfl, rfl, trivial⟩
      exact PySem.W.kia_one (PySem.W.handS_kitx_exc C.hg C.hk C.hs C.hd C.ha C.hn C.ht C.hm) I.kIn J e (fun z => nomatch z) fun tk => ⟨.bl b, H, I.kept (t' := tk) fun _ _ z => z, rfl, q⟩
theorem s_isx (ok : XOk N st sc C X) {c : Str} (hg : blB C.inf sc "isinstance" = true) (hv : isVal a = true) (ha : PE X a (tE (gd X) W ma)) (h1 : glB sc c = true) (h2 : nmB c = true) (hx : (C.inf.ixm.any fun e => decide (e.1.2 = c)) = true) :
    PE X (.Call (.Name "isinstance" p) [a, .Name c p2] [] pos) (tE (gd X) W fun ρ => (ma ρ).bind fun x => match x.1 with | .exc c0 => (match C.inf.ixm.lookup (c0, c) with | some b => dBl b | none => .bad) | _ => .bad) := by
  obtain ⟨e, he, hec⟩ := List.any_eq_true.mp hx
  have hec : e.1.2 = c := of_decide_eq_true hec
  subst hec
  obtain ⟨_, v0, cv0, _, ⟨g1, g2, g3⟩, _, _⟩ := ok.ixm e he
  have hpe : PE X (.Name e.1.2 p2) (tC v0) := by
    rcases g3 with g | ⟨g, gb, gn, gd'⟩
    · exact pe_glob (gl_of ok h1) g g2 (nmB_of h2).1
    · exact pe_bltn (gl_of ok h1) g gb g2 gn gd'
  refine (pe_callB call_isK (bl_of ok hg).1 (bl_of ok hg).2 (by decide +kernel) (pa_cons ha (pa_cons hpe pa_nil) (isVal_star hv)) (by decide) (by decide) (isVal_star hv) rfl).imp fun σ H Q ⟨ρ, O, A, h⟩ => ?_
  refine ⟨ρ, O, A, (PF.bind h).mono fun x H1 ⟨q, s1, w1, h1⟩ => ?_⟩
  have r := w1.rep A.dom
  obtain ⟨d, fr⟩ := q
  cases d with
  | exc c0 =>
    dsimp only at h1
    cases el : C.inf.ixm.lookup (c0, e.1.2) with
    | none => rw [el] at h1; exact h1.elim
    | some b =>
      rw [el] at h1
      obtain ⟨Ma, v1, cv1, k1, ⟨_, k2, k3⟩, k4, k5⟩ := ok.ixm _ (look_mem'' el)
      obtain ⟨aa, c1, rfl, hc, hH, _⟩ := r
      have e1 : c1 = Ma := by
        have := hc.symm.trans k1
        cases this; rfl
      have e2 : cv1 = cv0 := by
        rcases g3 with g | ⟨g, gb, _⟩
        · rcases k3 with k | ⟨k, _⟩
          · have := k.symm.trans g
            cases this; rfl
          · have := k.symm.trans g
            cases this
        · rcases k3 with k | ⟨k, kb, _⟩
          · have := k.symm.trans g
            cases this
          · have := kb.symm.trans gb
            cases this; rfl
      subst e1 e2
      exact ⟨_, aa, k5, v0, _, b, rfl, hH, g1, k4, h1.ok_bl⟩
  | _ => exact h1.elim
/-! ### dicts, texts' methods -/
theorem few1' {a : Expr} {X : Cx} {cpos : Pos} (h : isVal a = true) : ((backTo cpos (starEach [a] X.env)).all (fun x => !x.1) && (backToKw cpos (keywordEach [] X.env)).all (fun x => x.1.isSome)
      && decide (([a] : List Expr).length + ([] : List Keyword).length + (if ([] : List Keyword).isEmpty then 0 else 1) < 30)) = true := by
  rw [isVal_star h]
  rfl
theorem few2' {a b : Expr} {X : Cx} {cpos : Pos} (h : isVal a = true) (h2 : isVal b = true) : ((backTo cpos (starEach [a, b] X.env)).all (fun x => !x.1) && (backToKw cpos (keywordEach [] X.env)).all (fun x => x.1.isSome)
      && decide (([a, b] : List Expr).length + ([] : List Keyword).length + (if ([] : List Keyword).isEmpty then 0 else 1) < 30)) = true := by
  rw [isVal_star h, isVal_star h2]
  rfl
theorem isD_of {lk : Bool} {H : Hp} {a : Addr} {ws : List (Key × V)} (h : DkAt lk H a ws) : IsD H a := .inl ⟨ws, h.rd⟩
theorem getD_rep {G : Gd} {O : Own} {H : Hp} {E : XK} {lk : Bool} {kvs : List (Key × D)} {a : Addr} {ws : List (Key × V)} {y z : V} {k d : D} {Q : VK} (h1 : DkAt lk H a ws) (h3 : RepK G O H kvs ws) (hk : Rep G O H k y) (hd : Rep G O H d z) (h : PF G O H E (getD1 (.dct lk kvs) k d) Q) : ∃ o, DGet H a y o ∧ Q (o.getD z) H := by
  simp only [getD1] at h
  cases e : keyOf k with
  | none => rw [e] at h; exact h.elim
  | some k' =>
    rw [e] at h
    have ey := key_V hk e
    subst ey
    obtain ⟨o, g1, g2, g3, g4⟩ := dget_rep (k := k') h1 h3
    refine ⟨o, g1, h _ _ (Same.refl _) ?_⟩
    cases hl : lookKD kvs k' with
    | none => rw [g4 hl]; exact hd
    | some d' => obtain ⟨w, rfl, hw⟩ := g3 d' hl; exact hw
variable {mb mc : List Sl → R} {f : Expr} {ap cp : Pos}
theorem s_get1 (ok : XOk N st sc C X) (hb : isBase a = true) (hl : (ap.endLine == cp.line) = true) (hv : isVal e = true) (ha : PE X a (tE (gd X) W ma)) (he : PE X e (tE (gd X) W mb)) :
    PE X (.Call (.Attribute a "get" ap) [e] [] cp) (tE (gd X) W fun ρ => (ma ρ).bind fun x => onD x.1 ((mb ρ).bind fun y => getD1 x.1 y.1 .non)) := by
  refine (pe_dget1 (by have := ok.un; omega) ha he ⟨isBase_of hb, few1' hv, hl, by rw [isVal_star hv]; rfl⟩).imp fun σ H Q ⟨ρ, O, A, h⟩ => ?_
  refine ⟨ρ, O, A, (PF.bind h).mono fun x H1 ⟨p, s1, v1, h1⟩ => ?_⟩
  have A1 := A.same s1
  have r := v1.rep A.dom
  obtain ⟨d, fr⟩ := p
  cases d with
  | dct lk kvs =>
    have h2 := PF.bind h1
    obtain ⟨b, ws, rfl, ⟨k1, k5⟩, k2, k3, k4⟩ := r
    refine ⟨b, rfl, isD_of k1, ρ, O, A1, h2.mono fun y H2 ⟨q, s2, v2, h3⟩ => ?_⟩
    exact getD_rep (d := .non) (k1.to fun o x => s2 _ _ x) (RepK.ext (fun a o x n => ⟨s2 a o x, n⟩) _ _ k3) (v2.rep A1.dom) rfl h3
  | _ => exact h1.elim
theorem s_get2 (ok : XOk N st sc C X) (hb : isBase a = true) (hl : (ap.endLine == cp.line) = true) (hv : isVal e = true) (hv2 : isVal f = true) (ha : PE X a (tE (gd X) W ma)) (he : PE X e (tE (gd X) W mb)) (hf : PE X f (tE (gd X) W mc)) :
    PE X (.Call (.Attribute a "get" ap) [e, f] [] cp) (tE (gd X) W fun ρ => (ma ρ).bind fun x => onD x.1 ((mb ρ).bind fun y => (mc ρ).bind fun z => getD1 x.1 y.1 z.1)) := by
  refine (pe_dget2 (by have := ok.un; omega) ha he hf ⟨isBase_of hb, few2' hv hv2, hl, by rw [isVal_star hv, isVal_star hv2]; rfl⟩).imp fun σ H Q ⟨ρ, O, A, h⟩ => ?_
  refine ⟨ρ, O, A, (PF.bind h).mono fun x H1 ⟨p, s1, v1, h1⟩ => ?_⟩
  have A1 := A.same s1
  have r := v1.rep A.dom
  obtain ⟨d, fr⟩ := p
  cases d with
  | dct lk kvs =>
    have h2 := PF.bind h1
    obtain ⟨b, ws, rfl, ⟨k1, k5⟩, k2, k3, k4⟩ := r
    refine ⟨b, rfl, isD_of k1, ρ, O, A1, h2.mono fun y H2 ⟨q, s2, v2, h3⟩ => ?_⟩
    have A2 := A1.same s2
    refine ⟨ρ, O, A2, (PF.bind h3).mono fun z H3 ⟨q3, s3, v3, h4⟩ => ?_⟩
    have s23 := s2.trans s3
    exact getD_rep (k1.to fun o x => s23 _ _ x) (RepK.ext (fun a o x n => ⟨s23 a o x, n⟩) _ _ k3) ((v2.rep A1.dom).same s3) (v3.rep A2.dom) h4
  | _ => exact h1.elim
theorem s_join (hb : isBase a = true) (hl : (ap.endLine == cp.line) = true) (hv : isVal e = true) (ha : PE X a (tE (gd X) W ma)) (he : PE X e (tE (gd X) W mb)) :
    PE X (.Call (.Attribute a "join" ap) [e] [] cp) (tE (gd X) W fun ρ => (ma ρ).bind fun x => onS x.1 ((mb ρ).bind fun y => joinD x.1 y.1)) := by
  refine (pe_join ha he (isVal_star hv) (isBase_of hb) hl).imp fun σ H Q ⟨ρ, O, A, h⟩ => ?_
  refine ⟨ρ, O, A, (PF.bind h).mono fun x H1 ⟨p, s1, v1, h1⟩ => ?_⟩
  have A1 := A.same s1
  have r := v1.rep A.dom
  obtain ⟨d, fr⟩ := p
  cases d with
  | str z =>
    have h2 := PF.bind h1
    obtain ⟨rfl, hz⟩ := r
    refine ⟨⟨z, rfl⟩, ρ, O, A1, h2.mono fun y H2 ⟨q, s2, v2, h3⟩ => ?_⟩
    have r2 := v2.rep A1.dom
    obtain ⟨e2, fr2⟩ := q
    have go : ∀ (ds : List D) (b : Addr) (vs : List V), Reps (gd X) O H2 ds vs → (SqL X.K H2 b vs ∨ SqT X.K H2 b vs) → PF (gd X) O H2 (WE' W σ) (joinS z ds) Q → ∃ a p, ∃ ys : List Str, V.str z = .str a ∧ [V.ref b] = [.ref p] ∧ (SqL X.K H2 p (ys.map V.str) ∨ SqT X.K H2 p (ys.map V.str)) ∧
      (ys.map (·.length)).sum + ys.length * a.length ≤ 16777216 ∧ Q (.str (Txt.join a ys)) H2 := fun ds b vs k3 hs h3 => by
      unfold joinS at h3
      cases hk : strsOf ds with
      | none => rw [hk] at h3; exact h3.elim
      | some ks =>
        rw [hk] at h3
        dsimp only at h3
        split at h3
        · rename_i hl
          obtain ⟨rfl, _⟩ := strsOf_reps hk k3
          exact ⟨z, b, ks, rfl, rfl, hs, hl.1, h3 _ _ (Same.refl _) ⟨rfl, by have := hl.2; rwa [limE] at this⟩⟩
        · exact h3.elim
    cases e2 with
    | lst ds =>
      obtain ⟨b, vs, rfl, k1, k2, k3⟩ := rd_rep r2
      exact go ds b vs k3 (.inl (.inl k1)) h3
    | tup ds =>
      obtain ⟨b, vs, rfl, k1, k2, k3⟩ := r2
      exact go ds b vs k3 (.inr (tup_sq k1)) h3
    | _ => exact h3.elim
  | _ => exact h1.elim
theorem dn_new {P : Program} {w w' : World} {H : Hp} (h : Heap) (hb : sysModules < h.objs.size) : ObjOk P w H (h.push { cls := .type "dict", data := .dict #[] }) h.objs.size (DN w' h.objs.size []) :=
  dn_ok (us := []) (Heap.get?_push_size _ rfl) ⟨rfl, rfl, rfl⟩ rfl .nil rfl List.nodup_nil (beq_eq_false_iff_ne.mpr (Ne.symm (Nat.ne_of_lt hb)))
def tDNewN (w : World) : TE := fun _ H Q => ∀ p, H p = none → Q (.ref p) (upd H p (DN w p []))
theorem pe_dnewN : PE X (.Dict [] [] pos) (tDNewN X.w) := ⟨fun pins s σ H Q I h =>
  wpAny_Dict_empty ⟨.ref s.heap.objs.size, _, I.laid (a := s.heap.objs.size) (o := DN X.w s.heap.objs.size []) (t' := s.toks) (fun _ _ q => Heap.get?_push_of_some _ q) (Nat.le_refl _) (dn_new s.heap I.big), rfl, h _ (I.hok.fresh (Nat.le_refl _))⟩⟩
theorem s_dnewN : PE X (.Dict [] [] pos) (tE (gd X) W fun _ => .ok (.dtn false [], true)) := by
  refine pe_dnewN.imp fun σ H Q ⟨ρ, O, A, h⟩ p hp => ?_
  exact h _ _ (same_upd hp) ⟨p, rfl, hp, [], upd_same, Nat.zero_le _, rfl⟩
theorem s_any {x : Expr} : PE X x (tE (gd X) W fun _ => .bad) := ⟨fun pins s σ H Q I h => by
  obtain ⟨_, _, _, h⟩ := h
  exact h.elim⟩
theorem s_dnew : PE X (.Dict [] [] pos) (tE (gd X) W fun _ => .ok (.dct false [], true)) := by
  refine pe_dnewK.imp fun σ H Q ⟨ρ, O, A, h⟩ p hp => ?_
  exact h _ _ (same_upd hp) ⟨p, rfl, hp, [], upd_same, Nat.zero_le _, rfl, fun _ z => by cases z⟩
/-- a new dict is locked -/
theorem s_lok (ha : PE X a (tE (gd X) W ma)) : PE X a (tE (gd X) W fun ρ => (ma ρ).bind lokD) := by
  refine ⟨fun pins s σ H Q I ⟨ρ, O, A, h⟩ => ?_⟩
  have h : PF (gd X) O H (WE' W σ) ((ma ρ).bind lokD) Q := h
  cases hm : ma ρ with
  | exc c => rw [hm] at h; exact ha.run pins s σ H Q I ⟨ρ, O, A, by rw [hm]; exact h⟩
  | bad => rw [hm] at h; exact h.elim
  | ok p =>
    rw [hm] at h
    have h : PF (gd X) O H (WE' W σ) (lokD p) Q := h
    refine thn (ha.run pins s σ H (fun v H' => Same H H' ∧ PV (gd X) O H H' p.1 p.2 v) I ⟨ρ, O, A, by rw [hm]; exact fun v H' s q => ⟨s, q⟩⟩) fun v s1 ⟨x, H1, I1, r1, sm, v1⟩ => ?_
    obtain ⟨d, fr⟩ := p
    have plain : lokD (d, fr) = .ok (d, fr) → EP X pins σ Q v s1 := fun e => by
      rw [e] at h
      exact ⟨x, H1, I1, r1, h x H1 sm v1⟩
    cases d with
    | dct lk kvs =>
      cases lk with
      | true => exact plain rfl
      | false =>
        cases fr with
        | false => exact plain rfl
        | true =>
          obtain ⟨b, rfl, n, ws, k1, k2, k3, k4⟩ := v1
          obtain ⟨od, I2⟩ := I1.lock k1 True.intro
          have ne : ∀ c o, H1 c = some o → ¬ ins1 O b c → upd H1 b (.frz od (.dK ws)) c = some o ∧ ¬ O c := fun c o q z => ⟨by rw [upd_ne fun e => z (.inr e)]; exact q, fun w => z (.inl w)⟩
          refine ⟨.ref b, _, I2, r1, h _ _ (fun c o q => by rw [upd_ne (ne_of_none q n)]; exact sm c o q) ⟨b, ws, rfl, ⟨⟨od, upd_same⟩, A.dom.free n⟩, k2, RepK.ext ne _ _ k3, k4⟩⟩
    | _ => exact plain rfl
def litV : D → V
  | .non => .non
  | .bl b => .bl b
  | .int i => .int i
  | .str x => .str x
  | _ => .non
theorem lit_pe {d : D} {c : Const} {j : Nat} {p : Pos} (h : litB d c = true) : PE X (.Constant c j p) (tC (litV d)) ∧ ∀ (G : Gd) (O : Own) (H : Hp), Rep G O H d (litV d) := by
  unfold litB at h
  split at h
  · exact ⟨pe_non, fun _ _ _ => rfl⟩
  · cases eq_of_beq h
    exact ⟨pe_bl, fun _ _ _ => rfl⟩
  · cases eq_of_beq h
    exact ⟨pe_int, fun _ _ _ => rfl⟩
  · rw [Bool.and_eq_true] at h
    cases eq_of_beq h.1
    have hl := of_decide_eq_true h.2
    rw [limE] at hl
    exact ⟨pe_str, fun _ _ _ => ⟨rfl, hl⟩⟩
  · cases h
/-- the pairs of a display of constants -/
theorem pps_of : ∀ {ks : List Str} {ds : List D} {keys : List (Option Expr)} {vs : List Expr}, keysB ks keys = true → litsB ds vs = true → ks.length = ds.length → ∃ trs, PPs X pos keys vs trs ∧ (∀ k ∈ ks, k.length ≤ sizeLine) ∧ keys.length = ks.length ∧ keys.all (·.isSome) = true ∧ keys.length = vs.length ∧
    ∀ (G : Gd) (O : Own) (σ : L2.St) (H : Hp) (Q : List (V × V) → Hp → Prop), (∀ vs, vs.length = ds.length → Reps G O H ds vs → Q (List.zipWith (fun k v => (V.str k, v)) ks vs) H) → tPairs trs σ H Q
  | [], [], [], [], _, _, _ => ⟨[], pps_nil, fun _ z => (by cases z), rfl, rfl, rfl, fun G O σ H Q q => q [] rfl rfl⟩
  | k :: ks, d :: ds, key :: keys, v :: vs, h, hd, hl => by
    cases key with
    | none => cases h
    | some kx =>
      cases kx with
      | Constant c j p =>
        cases c with
        | str s =>
          have h : ((k == s) && decide (k.length ≤ LIM) && keysB ks keys) = true := h
          rw [Bool.and_eq_true, Bool.and_eq_true] at h
          have e := eq_of_beq h.1.1
          subst e
          have hz := of_decide_eq_true h.1.2
          rw [limE] at hz
          have hd : ((match asConst v with | some c => litB d c | none => false) && litsB ds vs) = true := hd
          rw [Bool.and_eq_true] at hd
          obtain ⟨h1, h2⟩ := hd
          split at h1
          · rename_i c hc
            obtain ⟨j2, p2, rfl⟩ := asConst_of hc
            obtain ⟨l1, l2⟩ := lit_pe (X := X) (j := j2) (p := p2) h1
            obtain ⟨trs, t1, t2, t3, t4, t5, t6⟩ := pps_of h.2 h2 (by simpa using hl)
            refine ⟨_, pps_cons pe_str l1 t1, fun x hx => ?_, congrArg (· + 1) t3, ?_, congrArg (· + 1) t5, fun G O σ H Q q => ?_⟩
            · rcases List.mem_cons.mp hx with e | hx
              · rw [e]; exact hz
              · exact t2 x hx
            · rw [List.all_cons, t4]; rfl
            · exact t6 G O σ H _ fun ws hw r => q (litV d :: ws) (by rw [List.length_cons, hw]; rfl) ⟨litV d, ws, rfl, l2 G O H, r⟩
          · cases h1
        | _ => cases h
      | _ => cases h
  | [], _, _ :: _, _, h, _, _ => by cases h
  | _ :: _, _, [], _, h, _, _ => by cases h
  | [], [], [], _ :: _, _, h, _ => by cases h
  | [], _ :: _, [], _, _, _, h => by cases h
  | _ :: _, [], _ :: _, _, _, _, h => by cases h
  | _ :: _, _ :: _, _ :: _, [], _, h, _ => by cases h
theorem merge_reps {G : Gd} {O : Own} {H : Hp} : ∀ {ks : List Str} {ds : List D} {vs : List V} {acc : List (Key × D)} {wacc : List (Key × V)} {kvs : List (Key × D)}, putsKD acc ks ds = some kvs → Reps G O H ds vs → RepK G O H acc wacc → RepK G O H kvs (mergeK wacc (List.zipWith (fun k v => (Sum.inr k, v)) ks vs)) ∧ kvs.length ≤ acc.length + ks.length ∧ ∀ kv ∈ kvs, (kv ∈ acc ∨ (∃ kv' ∈ acc, kv'.1 = kv.1) ∨ ∃ k ∈ ks, kv.1 = Sum.inr k)
  | [], [], vs, acc, wacc, kvs, h, r, ra => by
    cases h; cases r
    exact ⟨ra, Nat.le_refl _, fun kv hk => .inl hk⟩
  | k :: ks, d :: ds, vs, acc, wacc, kvs, h, r, ra => by
    obtain ⟨v, s, rfl, r1, r2⟩ := r
    obtain ⟨a1, a2, a3⟩ := merge_reps (acc := putKD acc (.inr k) d) (wacc := putK wacc (.inr k) v) h r2 (ra.put r1)
    refine ⟨a1, ?_, fun kv hk => ?_⟩
    · have := putKD_length (kvs := acc) (k := .inr k) (d := d)
      rw [List.length_cons]; omega
    · have sub : ∀ kv' ∈ putKD acc (.inr k) d, (∃ kv2 ∈ acc, kv2.1 = kv'.1) ∨ kv'.1 = Sum.inr k := fun kv' h' => by
        unfold putKD at h'
        split at h'
        · obtain ⟨kv2, m1, m2⟩ := List.mem_map.mp h'
          by_cases z : kv2.1 = Sum.inr k
          · rw [if_pos z] at m2; subst m2; exact .inr z
          · rw [if_neg z] at m2; subst m2; exact .inl ⟨_, m1, rfl⟩
        · rcases List.mem_append.mp h' with m | m
          · exact .inl ⟨_, m, rfl⟩
          · rw [List.mem_singleton] at m; subst m; exact .inr rfl
      rcases a3 kv hk with m | ⟨kv', m, e⟩ | ⟨k', m, e⟩
      · rcases sub kv m with ⟨kv2, m2, e2⟩ | e2
        · exact .inr (.inl ⟨kv2, m2, e2⟩)
        · exact .inr (.inr ⟨k, List.mem_cons_self, e2⟩)
      · rcases sub kv' m with ⟨kv2, m2, e2⟩ | e2
        · exact .inr (.inl ⟨kv2, m2, e2.trans e⟩)
        · exact .inr (.inr ⟨k, List.mem_cons_self, e.symm.trans e2⟩)
      · exact .inr (.inr ⟨k', List.mem_cons_of_mem _ m, e⟩)
  | [], _ :: _, _, _, _, _, h, _, _ => by cases h
  | _ :: _, [], _, _, _, _, h, _, _ => by cases h
theorem s_dsp {ks : List Str} {ds : List D} {keys : List (Option Expr)} {vs : List Expr} (h1 : keysB ks keys = true) (h2 : ks.isEmpty = false) (h3 : ks.length ≤ 15) (h4 : litsB ds vs = true) (h5 : ks.length = ds.length) : PE X (.Dict keys vs pos) (tE (gd X) W fun _ => dspD ks ds) := by
  obtain ⟨trs, t1, t2, t3, t4, t5, t6⟩ := pps_of (X := X) (pos := pos) h1 h4 h5
  have h0 : keys ≠ [] := by
    intro e
    rw [e] at t3
    cases ks with
    | nil => cases h2
    | cons _ _ => simp at t3
  refine (pe_disp t1 t4 t5 h0 (by rw [t3]; exact h3)).imp fun σ H Q ⟨ρ, O, A, h⟩ p hp => ?_
  have h : PF (gd X) O H (WE' W σ) (dspD ks ds) Q := h
  unfold dspD at h
  cases hk : putsKD [] ks ds with
  | none => rw [hk] at h; exact h.elim
  | some kvs =>
    rw [hk] at h
    refine t6 (gd X) (ins1 O p) σ _ _ fun ws hw r => ⟨upd_same, List.zipWith (fun k v => (Sum.inr k, v)) ks ws, ?_, ?_, ?_⟩
    · rw [List.map_zipWith]; rfl
    · rw [List.length_zipWith]; omega
    · obtain ⟨a1, a2, a3⟩ := merge_reps (acc := []) (wacc := []) hk r rfl
      have e : upd (upd H p (.dK [])) p (.dK (mergeK [] (List.zipWith (fun k v => (Sum.inr k, v)) ks ws))) = upd H p (.dK (mergeK [] (List.zipWith (fun k v => (Sum.inr k, v)) ks ws))) := by
        funext c
        by_cases z : c = p
        · rw [z, upd_same, upd_same]
        · rw [upd_ne z, upd_ne z, upd_ne z]
      rw [e]
      refine h _ _ (same_upd hp) ⟨p, rfl, hp, _, upd_same, ?_, RepK.ext (fun b o x n => ⟨by rw [upd_ne fun z => n (.inr z)] at x ⊢; exact x, n⟩) _ _ a1, fun kv hkv x hx => ?_⟩
      · rw [List.length_nil] at a2
        exact Nat.le_trans a2 (Nat.le_trans (by omega : 0 + ks.length ≤ 15) (by decide))
      · rcases a3 kv hkv with m | ⟨_, m, _⟩ | ⟨k, m, e⟩
        · cases m
        · cases m
        · rw [hx] at e; cases e; exact t2 _ m
theorem s_fmt (ha : PE X a (tE (gd X) W ma)) : PE X (.FormattedValue a (-1) none pos) (tE (gd X) W fun ρ => (ma ρ).bind fun x => bf1 .str x.1) := by
  refine (pe_fmt ha).imp fun σ H Q ⟨ρ, O, A, h⟩ => ?_
  refine ⟨ρ, O, A, (PF.bind h).mono fun x H1 ⟨p, s1, v1, h1⟩ => ?_⟩
  have r := v1.rep A.dom
  obtain ⟨d, fr⟩ := p
  cases d with
  | int i =>
    cases r
    simp only [bf1] at h1
    split at h1
    · rename_i hl
      rw [limE] at hl
      exact .inr ⟨i, rfl, hl.1, h1 _ _ (Same.refl _) ⟨rfl, hl.2⟩⟩
    · exact h1.elim
  | str x =>
    have hx := r
    obtain ⟨rfl, k⟩ := r
    exact .inl ⟨x, rfl, k, h1 _ _ (Same.refl _) hx⟩
  | _ => exact h1.elim
end
end DL

namespace DL
open PySem PySem.Spec L2

theorem _root_.L2.PTs.imp {X : Cx} {e : List Expr} {t t' : TT} (h : PTs X e t) (m : ∀ σ H Q, t' σ H Q → t σ H Q) : PTs X e t' := ⟨fun pins s σ H Q I q => h.run pins s σ H Q I (m σ H Q q)⟩
abbrev W0 : WX := fun _ _ _ _ => False
section
variable {G : Gd} {O O' : Own} {H H' : Hp} {ρ ρ' : List Sl} {σ σ' : L2.St} {d : D} {v : V} {i : Nat} {vs : List Nat}
theorem wipe_get {σ : L2.St} : ∀ {vs : List Nat} {i : Nat}, i ∉ vs → (wipe σ vs)[i]? = σ[i]?
  | [], _, _ => rfl
  | w :: vs, i, h => by
    unfold wipe
    rw [List.getElem?_set_ne (fun e => h (by rw [e]; exact List.mem_cons_self)), wipe_get fun z => h (List.mem_cons_of_mem _ z)]
theorem wipeS_get : ∀ {vs : List Nat} {ρ : List Sl} {i : Nat} {s : Sl}, s ≠ .no → (wipeS ρ vs)[i]? = some s → ρ[i]? = some s ∧ i ∉ vs
  | [], ρ, i, s, _, h => ⟨h, by simp⟩
  | w :: vs, ρ, i, s, ns, h => by
    have h' : (wipeS (ρ.set w .no) vs)[i]? = some s := h
    obtain ⟨h1, h2⟩ := wipeS_get ns h'
    by_cases hw : w = i
    · subst hw
      have hi : w < ρ.length := by
        have := (List.getElem?_eq_some_iff.mp h1).1
        simpa using this
      rw [List.getElem?_set_self hi] at h1
      exact absurd (Option.some.inj h1).symm ns
    · rw [List.getElem?_set_ne hw] at h1
      exact ⟨h1, by simp only [List.mem_cons, not_or]; exact ⟨fun e => hw e.symm, h2⟩⟩
theorem wipeS_length : ∀ {vs : List Nat} {ρ : List Sl}, (wipeS ρ vs).length = ρ.length
  | [], ρ => rfl
  | w :: vs, ρ => by
    have : (wipeS (ρ.set w .no) vs).length = (ρ.set w .no).length := wipeS_length
    rw [List.length_set] at this
    exact this
theorem Ag.wipe (h : Ag G O ρ σ H) : Ag G O (wipeS ρ vs) (wipe σ vs) H := by
  refine ⟨h.dom, by rw [wipeS_length, wipe_length]; exact h.len, fun j e q => ?_, fun j e q => ?_, fun j k d' e' a hjk q1 q2 q3 => ?_⟩
  · obtain ⟨q, n⟩ := wipeS_get (by simp) q
    rw [wipe_get n]
    exact h.val j e q
  · obtain ⟨q, n⟩ := wipeS_get (by simp) q
    rw [wipe_get n]
    exact h.own j e q
  · obtain ⟨q1, n1⟩ := wipeS_get (by simp) q1
    obtain ⟨q2, n2⟩ := wipeS_get (by simp) q2
    rw [wipe_get n1] at q3
    rw [wipe_get n2]
    exact h.inj j k d' e' a hjk q1 q2 q3
theorem wipe_set {w : Option V} : ∀ {vs : List Nat} {σ : L2.St}, i ∈ vs → L2.wipe (σ.set i w) vs = L2.wipe σ vs
  | [], _, h => by cases h
  | u :: vs, σ, h => by
    unfold L2.wipe
    by_cases hu : i ∈ vs
    · rw [wipe_set hu]
    · have e : i = u := by
        rcases List.mem_cons.mp h with e | e
        · exact e
        · exact absurd e hu
      subst e
      apply List.ext_getElem?
      intro j
      by_cases hj : i = j
      · subst hj
        rw [List.getElem?_set, List.getElem?_set]
        simp [wipe_length]
      · rw [List.getElem?_set_ne hj, List.getElem?_set_ne hj]
        by_cases hv : j ∈ vs
        · clear h hu
          have key : ∀ {vs : List Nat} {σ : L2.St}, j ∈ vs → (L2.wipe (σ.set i w) vs)[j]? = (L2.wipe σ vs)[j]? := by
            intro vs
            induction vs with
            | nil => intro σ h; cases h
            | cons x vs ih =>
              intro σ h
              unfold L2.wipe
              by_cases hx : x = j
              · subst hx
                rw [List.getElem?_set, List.getElem?_set]
                simp [wipe_length]
              · rw [List.getElem?_set_ne hx, List.getElem?_set_ne hx]
                rcases List.mem_cons.mp h with e | e
                · exact absurd e.symm hx
                · exact ih e
          exact key hv
        · rw [wipe_get hv, wipe_get hv, List.getElem?_set_ne hj]
/-- a target takes a value -/
theorem gs_bind {K : PySem.W.Frag} : ∀ {is : List Nat} {ds : List D} {vs : List V} {ρ ρ' : List Sl} {σ : L2.St} {Q : L2.St → Hp → Prop}, Ag G O ρ σ H → sets is ds ρ = some ρ' → Reps G O H ds vs →
    (∀ σ', Ag G O ρ' σ' H → (∀ ws, (∀ i ∈ is, i ∈ ws) → L2.wipe σ' ws = L2.wipe σ ws) → Q σ' H) → gTs is vs σ H Q
  | [], [], vs, ρ, ρ', σ, Q, A, h, r, k => by
    cases h; cases r
    exact ⟨rfl, k σ A fun _ _ => rfl⟩
  | i :: is, d :: ds, vs, ρ, ρ', σ, Q, A, h, r, k => by
    obtain ⟨v, s, rfl, r1, r2⟩ := r
    refine ⟨v, s, rfl, gs_bind (K := K) (A.setV r1) h r2 fun σ' A' hw => k σ' A' fun ws hi => ?_⟩
    rw [hw ws fun j hj => hi j (List.mem_cons_of_mem _ hj), wipe_set (hi i List.mem_cons_self)]
  | [], _ :: _, _, _, _, _, _, _, h, _, _ => by cases h
  | _ :: _, [], _, _, _, _, _, _, h, _, _ => by cases h
theorem sets_len : ∀ {is : List Nat} {ds : List D} {ρ ρ' : List Sl}, sets is ds ρ = some ρ' → ds.length = is.length
  | [], [], _, _, _ => rfl
  | _ :: _, _ :: _, _, _, h => congrArg (· + 1) (sets_len h)
  | [], _ :: _, _, _, h => by cases h
  | _ :: _, [], _, _, h => by cases h
theorem g_bind {tg : Tg} {Q : L2.St → Hp → Prop} (A : Ag G O ρ σ H) (h : tg.bind d ρ = some ρ') (r : Rep G O H d v) (k : ∀ σ', Ag G O ρ' σ' H → (∀ ws, tgIn tg ws = true → L2.wipe σ' ws = L2.wipe σ ws) → Q σ' H) : gT G.K tg v σ H Q := by
  cases tg with
  | one i =>
    cases h
    exact k _ (A.setV r) fun ws hi => wipe_set (of_decide_eq_true hi)
  | many is =>
    cases d with
    | tup ds =>
      obtain ⟨a, vs, rfl, h1, h2, h3⟩ := r
      refine ⟨a, vs, rfl, tup_sq h1, by rw [h3.length]; exact sets_len h, gs_bind (K := G.K) A h h3 fun σ' A' hw => k σ' A' fun ws hi => hw ws fun i hi' => ?_⟩
      have := List.all_eq_true.mp hi i hi'
      exact of_decide_eq_true this
    | _ => cases h
end

theorem lc_read {G : Gd} {W : WX} {tg : Tg} {mi : List Sl → Rz (List D)} {mt : List Sl → Rz Bool} {me : List Sl → R} {vs : List Nat} (ht : tgIn tg vs = true) {σ : L2.St} {H : Hp} {Q : VK}
    (h : tE G W (fun ρ => (mi ρ).bind fun ds => (cLoop tg mt me (wipeS ρ vs) ds []).bind fun ys => .ok (.lst ys, true)) σ H Q) : tLc (tI G W mi) (gT G.K tg) (tT G W0 mt) (tE G W0 me) vs σ H Q := by
  obtain ⟨ρ, O, A, h⟩ := h
  refine ⟨ρ, O, A, (PF.bindA h).mono fun ds H1 ⟨s1, h1⟩ hl J hJ L hL => ?_⟩
  have A1 := A.same s1
  cases hc : cLoop tg mt me (wipeS ρ vs) ds [] with
  | exc c =>
    exfalso
    have key : ∀ (ds acc : List D) (c : Str), cLoop tg mt me (wipeS ρ vs) ds acc ≠ .exc c := by
      intro ds
      induction ds with
      | nil => intro acc c e; cases e
      | cons d ds ih =>
        intro acc c e
        unfold cLoop at e
        split at e
        · cases e
        · split at e
          · split at e
            · exact ih _ _ e
            · cases e
          · exact ih _ _ e
          · cases e
    exact key ds [] c hc
  | bad => rw [hc] at h1; exact h1.elim
  | ok ys =>
    rw [hc] at h1
    refine ⟨fun i m H => m = ds.length - i ∧ i ≤ ds.length ∧ Same H1 H ∧ ∃ acc va, H L = some (.lst va) ∧ Reps G (ins1 O L) H acc va ∧ acc.length ≤ i ∧ cLoop tg mt me (wipeS ρ vs) (ds.drop i) acc = .ok ys, ⟨ds.length, by simp, Nat.zero_le _, same_upd hL, [], [], upd_same, rfl, Nat.le_refl _, hc⟩, ?_⟩
    rintro i m H2 ⟨rfl, hi, s2, acc, va, e2, r2, l2, c2⟩
    have AL : Ag G (ins1 O L) ρ σ (upd H1 L (.lst va)) := A1.more hL
    have step2 : Step O H1 (ins1 O L) H2 := fun a o q n => ⟨s2 a o q, fun z => z.elim n fun e => by rw [e, hL] at q; cases q⟩
    have A2 : Ag G (ins1 O L) ρ σ H2 := by
      refine ⟨fun a z => z.elim (fun z => (A1.dom.same s2) a z) fun z => ⟨.lst va, z ▸ e2⟩, A.len, fun i d q => let ⟨v, a, b⟩ := A1.val i d q; ⟨v, a, b.step step2⟩, fun i d q => ?_, A.inj⟩
      obtain ⟨a, b, c, z⟩ := A1.own i d q
      refine ⟨a, b, .inl c, ?_⟩
      cases d with
      | lst ds => obtain ⟨vs, h1, h2, h3⟩ := z; exact ⟨vs, s2 _ _ h1, h2, h3.step step2⟩
      | dct lk ds =>
        cases lk with
        | true => exact z
        | false => obtain ⟨vs, h1, h2, h3, h5⟩ := z; exact ⟨vs, s2 _ _ h1, h2, RepK.ext step2 _ _ h3, h5⟩
      | dtn lk ds =>
        cases lk with
        | true => exact z
        | false => obtain ⟨vs, h1, h2, h3⟩ := z; exact ⟨vs, s2 _ _ h1, h2, RepN.ext step2 _ _ h3⟩
      | _ => exact z
    have Aw : Ag G (ins1 O L) (wipeS ρ vs) (wipe σ vs) H2 := A2.wipe
    by_cases hlt : i < ds.length
    · refine .inr ⟨hJ.go i _ _ step2 hlt, fun H' => Same H1 H' ∧ ∃ acc va, H' L = some (.lst va) ∧ Reps G (ins1 O L) H' acc va ∧ acc.length ≤ i + 1 ∧ cLoop tg mt me (wipeS ρ vs) (ds.drop (i + 1)) acc = .ok ys, fun H' ⟨q1, q2⟩ => ⟨ds.length - (i + 1), by omega, rfl, hlt, q1, q2⟩, fun x H3 y => ?_⟩
      obtain ⟨d, hd, s3, r3⟩ := hJ.yld i _ _ x H3 step2 A2.dom hlt y
      have ed : ds.drop i = d :: ds.drop (i + 1) := by
        rw [List.drop_eq_getElem_cons hlt]
        rw [List.getElem?_eq_getElem hlt] at hd
        cases hd
        rfl
      rw [ed] at c2
      have A3 := Aw.same s3
      unfold cLoop at c2
      cases hb : tg.bind d (wipeS ρ vs) with
      | none => rw [hb] at c2; cases c2
      | some ρ' =>
        rw [hb] at c2
        dsimp only at c2
        refine g_bind A3 hb r3 fun σ' A' hw => ⟨(hw vs ht).trans ?_, ρ', _, A', ?_⟩
        · have hwp : ∀ (ws : List Nat) (τ : L2.St), wipe (wipe τ ws) ws = wipe τ ws := by
            intro ws τ
            apply List.ext_getElem?
            intro j
            by_cases hj : j ∈ ws
            · have key : ∀ {ws : List Nat} {τ τ' : L2.St}, τ.length = τ'.length → j ∈ ws → (wipe τ ws)[j]? = (wipe τ' ws)[j]? := by
                intro ws
                induction ws with
                | nil => intro τ τ' _ h; cases h
                | cons x ws ih =>
                  intro τ τ' hl h
                  unfold wipe
                  by_cases hx : x = j
                  · subst hx
                    rw [List.getElem?_set, List.getElem?_set]
                    simp [wipe_length, hl]
                  · rw [List.getElem?_set_ne hx, List.getElem?_set_ne hx]
                    rcases List.mem_cons.mp h with e | e
                    · exact absurd e.symm hx
                    · exact ih hl e
              exact key (wipe_length _ _) hj
            · rw [wipe_get hj]
          exact hwp vs σ
        · cases hm : mt ρ' with
          | exc c => rw [hm] at c2; cases c2
          | bad => rw [hm] at c2; cases c2
          | ok b =>
            rw [hm] at c2
            intro H4 s4
            cases b with
            | false => exact iteF ⟨(s2.trans s3).trans s4, acc, va, s4 _ _ (s3 _ _ e2), (r2.same s3).same s4, Nat.le_succ_of_le l2, c2⟩
            | true =>
              refine iteT ⟨ρ', _, A'.same s4, ?_⟩
              dsimp only at c2
              cases hv : me ρ' with
              | exc c => rw [hv] at c2; cases c2
              | bad => rw [hv] at c2; cases c2
              | ok p =>
                rw [hv] at c2
                intro w H5 s5 v5
                have r5 := v5.rep (A'.dom.same s4)
                have e5 := s5 _ _ (s4 _ _ (s3 _ _ e2))
                refine ⟨va, e5, by rw [r2.length]; omega, ?_, acc ++ [p.1], va ++ [w], upd_same, ?_, by rw [List.length_append]; exact Nat.succ_le_succ l2, c2⟩
                · intro a o q
                  rw [upd_ne fun z => by rw [z, hL] at q; cases q]
                  exact s5 _ _ (s4 _ _ (s3 _ _ (s2 _ _ q)))
                · have rr : Reps G (ins1 O L) H5 (acc ++ [p.1]) (va ++ [w]) := Reps.append (((r2.same s3).same s4).same s5) ⟨w, [], rfl, r5, rfl⟩
                  exact rr.ext (fun a o q n => ⟨by rw [upd_ne fun z => n (.inr z)]; exact q, n⟩) _ _
    · have e : i = ds.length := by omega
      subst e
      rw [List.drop_length] at c2
      cases c2
      exact .inl ⟨hJ.stop _ _ step2, h1 _ _ s2 ⟨L, rfl, hL, va, e2, Nat.le_trans l2 hl, r2⟩⟩

section
variable {X : Cx} {N : List Str} {st sc scope : Scope} {C : Ctx} {W : WX} {elt tgx iter : Expr} {ifs : List Expr} {pos : Pos} {tg : Tg} {mi : List Sl → Rz (List D)} {mt : List Sl → Rz Bool} {me : List Sl → R} {own : List (Str × Nat)}
/-- the block of a comprehension -/
theorem XOk.blk (ok : XOk N st sc C X) (hk : scope.kind = .function) {s : Shared} {H : Hp} {Ca : Addr} {cl : List (Str × Addr)} {fp : List Addr} : XOk N scope (relS scope sc) C (X.blk s H scope (compEnvC scope cl Ca X.env) fp) where
  hN := ok.hN
  hs := by
    show relS scope X.env.scope = _
    rw [ok.hs]
  nd := ok.nd
  calm := ok.calm
  fn := fun x h => by
    show (scope.names.lookup x == some .cell) = true
    rw [h]; rfl
  lk := fun x k hk h => lookup_relS_keep hk h
  cal := ok.cal
  glb := ok.glb
  dtb := ok.dtb
  dfl := ok.dfl
  cls := ok.cls
  un := ok.un
  bn := ok.bn
  po := PassesOwn.never
  kd := hk
  exs := ok.exs
  exm := ok.exm
  ism := ok.ism
  ixm := ok.ixm
theorem s_comp (ok : XOk N st sc C X) (hb : blkC N sc scope own = true) (ht : tgIn tg (own.map (·.2)) = true) (hv : isVal iter = true) (hi : PI X tgx iter (tI (gd X) W mi)) (hg : tgB N scope tg tgx = true)
    (hc : ∀ Y, XOk N scope (relS scope sc) C Y → Y.K = X.K → Y.mg = X.mg → Y.w = X.w → PTs Y ifs (tT (gd X) W0 mt)) (he : ∀ Y, XOk N scope (relS scope sc) C Y → Y.K = X.K → Y.mg = X.mg → Y.w = X.w → PE Y elt (tE (gd X) W0 me)) :
    PE X (.ListComp elt [⟨tgx, iter, ifs, 0⟩] scope pos) (tE (gd X) W fun ρ => (mi ρ).bind fun ds => (cLoop tg mt me (wipeS ρ (own.map (·.2))) ds []).bind fun ys => .ok (.lst ys, true)) := by
  have bo : BlkOk X.N X.env.scope scope own := by rw [ok.hN, ok.hs]; exact blkOk_by hb
  exact (pe_lc (tt := tT (gd X) W0 mt) (te := tE (gd X) W0 me) (g := gT X.K tg) ok.calm (by rw [ok.hN]; exact ok.nd) hi bo (fun s H Ca cl fp => g_ok (X := X.blk s H scope (compEnvC scope cl Ca X.env) fp) (ok.blk bo.kind) hg) (fun s H Ca cl fp => hc _ (ok.blk bo.kind) rfl rfl rfl) (fun s H Ca cl fp => he _ (ok.blk bo.kind) rfl rfl rfl) (isVal_fold hv)).imp fun σ H Q h => lc_read ht h
end
end DL

namespace DL
open PySem PySem.Spec L2

theorem band2 {a b : Bool} (h : (a && b) = true) : a = true ∧ b = true := by cases a <;> cases b <;> first | exact ⟨rfl, rfl⟩ | cases h
theorem asName_visB {N : List Str} {i : Nat} {x : Str} (h : decide (N[i]? = some x) = true) : N[i]? = some x := of_decide_eq_true h
theorem litB_star {d : D} {c : Const} {k : Nat} {p : Pos} : isVal (.Constant c k p) = true := rfl
theorem isNon_of {C : Ctx} {e : E} (h : isNon e = true) : ev C e = ev C (.lit .non) := by
  unfold isNon at h
  split at h
  · rfl
  · cases h
theorem isYes_of {e : T} (h : isYes e = true) : e = .yes := by
  unfold isYes at h
  split at h
  · rfl
  · cases h
theorem cmp_non {C : Ctx} {o : Cop} {b : E} (h : nonB o b = true) (q : o = .isN ∨ o = .notN) : ev C b = ev C (.lit .non) := by
  rcases q with rfl | rfl <;> exact isNon_of h
theorem all_isVal {N : List Str} {I : Inf} {sc : Scope} : ∀ {es : Es} {xs : List Expr}, ckEs N I sc es xs = true → xs.all isVal = true
  | .nil, xs, h => by
    cases xs with
    | nil => rfl
    | cons _ _ => cases h
  | .cons e es, xs, h => by
    cases xs with
    | nil => cases h
    | cons x r =>
      have h : (isVal x && ckE N I sc e x && ckEs N I sc es r) = true := h
      obtain ⟨h1, h2⟩ := band2 h
      rw [List.all_cons, (band2 h1).1, all_isVal h2]
      rfl
theorem pw_one {X : Cx} {o : BoolOp} {a : Expr} {t : TT} {pos : Pos} (h : PT X a t) : PW X (.BoolOp o [a] pos) t := by
  cases o with
  | And => exact pw_and1 h
  | Or => exact pw_or1 h
def isBoolT : T → Bool
  | .and _ _ => true
  | .or _ _ => true
  | .lent _ a => isBoolT a
  | _ => false
theorem str_len_app (a b : Str) : (a ++ b).length = a.length + b.length := by
  show (a.cps ++ b.cps).size = _
  rw [Array.size_append]; rfl
theorem str_assoc (a b c : Str) : a ++ b ++ c = a ++ (b ++ c) := by
  show Str.mk ((a.cps ++ b.cps) ++ c.cps) = Str.mk (a.cps ++ (b.cps ++ c.cps))
  rw [Array.append_assoc]
theorem str_nil (a : Str) : a ++ Str.empty = a := by
  show Str.mk (a.cps ++ #[]) = a
  rw [Array.append_empty]
theorem nil_str (a : Str) : Str.empty ++ a = a := by
  show Str.mk (#[] ++ a.cps) = a
  rw [Array.empty_append]
mutual
theorem okE {N : List Str} {C : Ctx} {W : WX} : ∀ (e : E) (x : Expr) (st sc : Scope) (X : Cx), XOk N st sc C X → Takes X W → ckE N C.inf sc e x = true → PE X x (tE (gd X) W (ev C e))
  | .var i, x, st, sc, X, ok, tk, h => by
    have h : (match asName x with | some n => decide (N[i]? = some n) && visB sc n && nmB n | none => false) = true := h
    split at h
    · rename_i n hn
      obtain ⟨p, rfl⟩ := asName_of hn
      obtain ⟨h1, h3⟩ := band2 h
      obtain ⟨h1, h2⟩ := band2 h1
      exact s_var ok (of_decide_eq_true h1) h2 h3
    · cases h
  | .lit d, x, st, sc, X, ok, tk, h => by
    have h : (match asConst x with | some c => litB d c | none => false) = true := h
    split at h
    · rename_i c hc
      obtain ⟨k, p, rfl⟩ := asConst_of hc
      exact s_lit h
    · cases h
  | .glb n, x, st, sc, X, ok, tk, h => by
    have h : (match asName x with | some m => decide (n = m) && glB sc n && nmB n && (C.inf.gt.lookup n).isSome | none => false) = true := h
    split at h
    · rename_i m hn
      obtain ⟨p, rfl⟩ := asName_of hn
      obtain ⟨h1, h4⟩ := band2 h
      obtain ⟨h1, h3⟩ := band2 h1
      obtain ⟨h1, h2⟩ := band2 h1
      have e := of_decide_eq_true h1
      subst e
      exact s_glb ok h2 h3 h4
    · cases h
  | .bin o a b, x, st, sc, X, ok, tk, h => by
    have h : (match asBin x with | some (l, op, r) => decide (op = o.op) && ckE N C.inf sc a l && ckE N C.inf sc b r | none => false) = true := h
    split at h
    · rename_i l op r hn
      obtain ⟨p, rfl⟩ := asBin_of hn
      obtain ⟨h1, h3⟩ := band2 h
      obtain ⟨h1, h2⟩ := band2 h1
      have e : op = o.op := of_decide_eq_true h1
      subst e
      exact s_bin (okE a l st sc X ok tk h2) (okE b r st sc X ok tk h3)
    · cases h
  | .neg a, x, st, sc, X, ok, tk, h => by
    have h : (match asUn x with | some (o, l) => decide (o = .USub) && ckE N C.inf sc a l | none => false) = true := h
    split at h
    · rename_i o l hn
      obtain ⟨p, rfl⟩ := asUn_of hn
      obtain ⟨h1, h2⟩ := band2 h
      have e := of_decide_eq_true h1
      subst e
      exact s_neg (okE a l st sc X ok tk h2)
    · cases h
  | .not a, x, st, sc, X, ok, tk, h => by
    have h : (match asUn x with | some (o, l) => decide (o = .Not) && ckE N C.inf sc a l | none => false) = true := h
    split at h
    · rename_i o l hn
      obtain ⟨p, rfl⟩ := asUn_of hn
      obtain ⟨h1, h2⟩ := band2 h
      have e := of_decide_eq_true h1
      subst e
      exact s_not (okE a l st sc X ok tk h2)
    · cases h
  | .and a b, x, st, sc, X, ok, tk, h => by
    have h : (match asBool x with | some (o, l :: r :: rest, p) => decide (o = .And) && ckE N C.inf sc a l && ckE N C.inf sc b (if rest.isEmpty then r else .BoolOp .And (r :: rest) p) | _ => false) = true := h
    split at h
    · rename_i o l r rest p hn
      have e := asBool_of hn
      subst e
      obtain ⟨h1, h3⟩ := band2 h
      obtain ⟨h1, h2⟩ := band2 h1
      have e := of_decide_eq_true h1
      subst e
      refine s_and (okE a l st sc X ok tk h2) ?_
      have h4 := okE b _ st sc X ok tk h3
      cases rest with
      | nil => exact pe_one h4
      | cons y ys => exact h4
    · cases h
  | .or a b, x, st, sc, X, ok, tk, h => by
    have h : (match asBool x with | some (o, l :: r :: rest, p) => decide (o = .Or) && ckE N C.inf sc a l && ckE N C.inf sc b (if rest.isEmpty then r else .BoolOp .Or (r :: rest) p) | _ => false) = true := h
    split at h
    · rename_i o l r rest p hn
      have e := asBool_of hn
      subst e
      obtain ⟨h1, h3⟩ := band2 h
      obtain ⟨h1, h2⟩ := band2 h1
      have e := of_decide_eq_true h1
      subst e
      refine s_or (okE a l st sc X ok tk h2) ?_
      have h4 := okE b _ st sc X ok tk h3
      cases rest with
      | nil => exact pe_one h4
      | cons y ys => exact h4
    · cases h
  | .cmp o a b, x, st, sc, X, ok, tk, h => by
    have h : (match asCmp x with | some (l, [op], [r]) => decide (op = o.op) && isVal r && ckE N C.inf sc a l && ckE N C.inf sc b r && nonB o b | _ => false) = true := h
    split at h
    · rename_i l op r hn
      obtain ⟨p, rfl⟩ := asCmp_of hn
      obtain ⟨h1, h5⟩ := band2 h
      obtain ⟨h1, h4⟩ := band2 h1
      obtain ⟨h1, h3⟩ := band2 h1
      obtain ⟨h1, h2⟩ := band2 h1
      have e : op = o.op := of_decide_eq_true h1
      subst e
      exact s_cmp ok (okE a l st sc X ok tk h3) (okE b r st sc X ok tk h4) h2 (cmp_non h5)
    · cases h
  | .chn o o' a b c, x, st, sc, X, ok, tk, h => by
    have h : (match asCmp x with | some (l, [op, op'], [r, s]) => decide (op = o.op) && decide (op' = o'.op) && isVal s && ckE N C.inf sc a l && ckE N C.inf sc b r && ckE N C.inf sc c s && plainC o && plainC o' | _ => false) = true := h
    split at h
    · rename_i l op op' r s hn
      obtain ⟨p, rfl⟩ := asCmp_of hn
      obtain ⟨h1, h8⟩ := band2 h
      obtain ⟨h1, h7⟩ := band2 h1
      obtain ⟨h1, h6⟩ := band2 h1
      obtain ⟨h1, h5⟩ := band2 h1
      obtain ⟨h1, h4⟩ := band2 h1
      obtain ⟨h1, h3⟩ := band2 h1
      obtain ⟨h1, h2⟩ := band2 h1
      have e : op = o.op := of_decide_eq_true h1
      have e2 : op' = o'.op := of_decide_eq_true h2
      subst e e2
      exact s_chn ok (okE a l st sc X ok tk h4) (okE b r st sc X ok tk h5) (okE c s st sc X ok tk h6) h3 h7 h8
    · cases h
  | .tup es, x, st, sc, X, ok, tk, h => by
    have h : (match asTup x with | some xs => ckEs N C.inf sc es xs | none => false) = true := h
    split at h
    · rename_i xs hn
      obtain ⟨k, p, rfl⟩ := asTup_of hn
      exact s_tup (okEs es xs st sc X ok tk h)
    · cases h
  | .lst es, x, st, sc, X, ok, tk, h => by
    have h : (match asLst x with | some xs => ckEs N C.inf sc es xs | none => false) = true := h
    split at h
    · rename_i xs hn
      obtain ⟨p, rfl⟩ := asLst_of hn
      exact s_lst (okEs es xs st sc X ok tk h)
    · cases h
  | .idx a i, x, st, sc, X, ok, tk, h => by
    have h : (match asSub x with | some (l, r) => isVal r && ckE N C.inf sc a l && ckE N C.inf sc i r | none => false) = true := h
    split at h
    · rename_i l r hn
      obtain ⟨p, rfl⟩ := asSub_of hn
      obtain ⟨h1, h3⟩ := band2 h
      obtain ⟨h1, h2⟩ := band2 h1
      exact s_idx ok h1 (okE a l st sc X ok tk h2) (okE i r st sc X ok tk h3)
    · cases h
  | .slc a lo hi, x, st, sc, X, ok, tk, h => by
    have g : (match asSub x with | some (l, r) => (match asSlice r with | some (u, v) => ckE N C.inf sc a l && ckP N C.inf sc lo u && ckP N C.inf sc hi v | none => false) | none => false) = true := h
    cases hn : asSub x with
    | none => rw [hn] at g; cases g
    | some p =>
      obtain ⟨l, r⟩ := p
      rw [hn] at g
      dsimp only at g
      obtain ⟨p, rfl⟩ := asSub_of hn
      cases hs : asSlice r with
      | none => rw [hs] at g; cases g
      | some p =>
        obtain ⟨u, v⟩ := p
        rw [hs] at g
        dsimp only at g
        obtain ⟨q, rfl⟩ := asSlice_of hs
        obtain ⟨h1, h3⟩ := band2 g
        obtain ⟨h1, h2⟩ := band2 h1
        exact s_slc (okE a l st sc X ok tk h1) (okP lo u st sc X ok tk h2) (okP hi v st sc X ok tk h3)
  | .call f es, x, st, sc, X, ok, tk, h => by
    have h : (match asCall x with | some (g, xs) => decide (f = g) && glB sc f && nmB f && C.inf.has.contains f && !xs.isEmpty && ckEs N C.inf sc es xs | none => false) = true := h
    split at h
    · rename_i g xs hn
      obtain ⟨p, q, rfl⟩ := asCall_of hn
      obtain ⟨h1, h6⟩ := band2 h
      obtain ⟨h1, h5⟩ := band2 h1
      obtain ⟨h1, h4⟩ := band2 h1
      obtain ⟨h1, h3⟩ := band2 h1
      obtain ⟨h1, h2⟩ := band2 h1
      have e := of_decide_eq_true h1
      subst e
      cases xs with
      | nil => cases h5
      | cons y ys => exact s_call ok tk h2 h3 h4 (all_isVal h6) (okEs es _ st sc X ok tk h6)
    · cases h
  | .bf f es, x, st, sc, X, ok, tk, h => by
    have h : (match asCall x with | some (g, xs) => decide (f.nm = g) && blB C.inf sc g && !xs.isEmpty && ckEs N C.inf sc es xs | none => false) = true := h
    split at h
    · rename_i g xs hn
      obtain ⟨p, q, rfl⟩ := asCall_of hn
      obtain ⟨h1, h4⟩ := band2 h
      obtain ⟨h1, h3⟩ := band2 h1
      obtain ⟨h1, h2⟩ := band2 h1
      have e : f.nm = g := of_decide_eq_true h1
      subst e
      cases xs with
      | nil => cases h3
      | cons y ys => exact s_bf ok h2 (all_isVal h4) (okEs es _ st sc X ok tk h4)
    · cases h
  | .isi a t, x, st, sc, X, ok, tk, h => by
    have h : (match asCall x with | some (g, [l, r]) => decide (g = ("isinstance" : Str)) && blB C.inf sc g && isVal l && ckE N C.inf sc a l && (match asName r with | some n => decide (n = Str.ofString t.nm) && blB C.inf sc n | none => false) | _ => false) = true := h
    split at h
    · rename_i g l r hn
      obtain ⟨p, q, rfl⟩ := asCall_of hn
      obtain ⟨h1, h5⟩ := band2 h
      obtain ⟨h1, h4⟩ := band2 h1
      obtain ⟨h1, h3⟩ := band2 h1
      obtain ⟨h1, h2⟩ := band2 h1
      have e : g = ("isinstance" : Str) := of_decide_eq_true h1
      subst e
      split at h5
      · rename_i n hn
        obtain ⟨p2, rfl⟩ := asName_of hn
        obtain ⟨k1, k2⟩ := band2 h5
        have e : n = Str.ofString t.nm := of_decide_eq_true k1
        subst e
        exact s_isi ok h2 h3 (okE a l st sc X ok tk h4) k2
      · cases h5
    · cases h
  | .isc a c, x, st, sc, X, ok, tk, h => by
    have h : (match asCall x with | some (g, [l, r]) => decide (g = ("isinstance" : Str)) && blB C.inf sc g && isVal l && ckE N C.inf sc a l && (match asName r with | some n => decide (n = c) && glB sc n && nmB n && C.inf.ism.any (fun e => decide (e.1.2 = c)) | none => false) | _ => false) = true := h
    split at h
    · rename_i g l r hn
      obtain ⟨p, q, rfl⟩ := asCall_of hn
      obtain ⟨h1, h5⟩ := band2 h
      obtain ⟨h1, h4⟩ := band2 h1
      obtain ⟨h1, h3⟩ := band2 h1
      obtain ⟨h1, h2⟩ := band2 h1
      have e : g = ("isinstance" : Str) := of_decide_eq_true h1
      subst e
      split at h5
      · rename_i n hn
        obtain ⟨p2, rfl⟩ := asName_of hn
        obtain ⟨k1, k4⟩ := band2 h5
        obtain ⟨k1, k3⟩ := band2 k1
        obtain ⟨k1, k2⟩ := band2 k1
        have e : n = c := of_decide_eq_true k1
        subst e
        exact s_isc ok h2 h3 (okE a l st sc X ok tk h4) k2 k3 k4
      · cases h5
    · cases h
  | .isx a c, x, st, sc, X, ok, tk, h => by
    have h : (match asCall x with | some (g, [l, r]) => decide (g = ("isinstance" : Str)) && blB C.inf sc g && isVal l && ckE N C.inf sc a l && (match asName r with | some n => decide (n = c) && glB sc n && nmB n && C.inf.ixm.any (fun e => decide (e.1.2 = c)) | none => false) | _ => false) = true := h
    split at h
    · rename_i g l r hn
      obtain ⟨p, q, rfl⟩ := asCall_of hn
      obtain ⟨h1, h5⟩ := band2 h
      obtain ⟨h1, h4⟩ := band2 h1
      obtain ⟨h1, h3⟩ := band2 h1
      obtain ⟨h1, h2⟩ := band2 h1
      have e : g = ("isinstance" : Str) := of_decide_eq_true h1
      subst e
      split at h5
      · rename_i n hn
        obtain ⟨p2, rfl⟩ := asName_of hn
        obtain ⟨k1, k4⟩ := band2 h5
        obtain ⟨k1, k3⟩ := band2 k1
        obtain ⟨k1, k2⟩ := band2 k1
        have e : n = c := of_decide_eq_true k1
        subst e
        exact s_isx ok h2 h3 (okE a l st sc X ok tk h4) k2 k3 k4
      · cases h5
    · cases h
  | .lent is a, x, st, sc, X, ok, tk, h => s_lent (okE a x st sc X ok tk h)
  | .comp tg it cnd elt own, x, st, sc, X, ok, tk, h => by
    have h : (match asComp x with | some (e, t, i, ifs, sc') => blkC N sc sc' own && ckI N C.inf sc it i && itTg it t && tgB N sc' tg t && (match ifs with | [] => isYes cnd | [c] => ckT N C.inf (relS sc' sc) cnd c | _ => false) && ckE N C.inf (relS sc' sc) elt e && tgIn tg (own.map (·.2)) | none => false) = true := h
    split at h
    · rename_i e t i ifs sc' hn
      obtain ⟨p, rfl⟩ := asComp_of hn
      obtain ⟨h1, h6⟩ := band2 h
      obtain ⟨h1, h5⟩ := band2 h1
      obtain ⟨h1, h4⟩ := band2 h1
      obtain ⟨h1, h3⟩ := band2 h1
      obtain ⟨h1, h7⟩ := band2 h1
      obtain ⟨h1, h2⟩ := band2 h1
      obtain ⟨hv, hi⟩ := okI it i st sc X ok tk h2
      refine s_comp (mt := evT C cnd) (me := ev C elt) ok h1 h6 hv (hi t h7) h3 (fun Y okY hK hM hW => ?_) (fun Y okY hK hM hW => ?_)
      · have g : gd X = gd Y := by unfold gd; rw [hK, hM, hW]
        rw [g]
        cases ifs with
        | nil =>
          have := isYes_of h4
          subst this
          exact pts_nil.imp fun σ H Q q => by
            obtain ⟨ρ, O, A, q⟩ := q
            exact q H (Same.refl H)
        | cons c r =>
          cases r with
          | nil => exact pts_one (okT cnd c sc' (relS sc' sc) Y okY takes0 h4).1
          | cons _ _ => cases h4
      · have g : gd X = gd Y := by unfold gd; rw [hK, hM, hW]
        rw [g]
        exact okE elt e sc' (relS sc' sc) Y okY takes0 h5
    · cases h
  | .dnew, x, st, sc, X, ok, tk, h => by
    have h : (match asDict x with | some ([], []) => true | _ => false) = true := h
    split at h
    · rename_i hn
      obtain ⟨p, rfl⟩ := asDict_of hn
      exact s_dnew
    · cases h
  | .dnewN, x, st, sc, X, ok, tk, h => by
    have h : (match asDict x with | some ([], []) => true | _ => false) = true := h
    split at h
    · rename_i hn
      obtain ⟨p, rfl⟩ := asDict_of hn
      exact s_dnewN
    · cases h
  | .any, x, st, sc, X, ok, tk, h => s_any
  | .dsp ks ds, x, st, sc, X, ok, tk, h => by
    have h : (match asDict x with | some (keys, vs) => keysB ks keys && !ks.isEmpty && decide (ks.length ≤ 15) && litsB ds vs && decide (ks.length = ds.length) | none => false) = true := h
    split at h
    · rename_i keys vs hn
      obtain ⟨p, rfl⟩ := asDict_of hn
      obtain ⟨h1, h5⟩ := band2 h
      obtain ⟨h1, h4⟩ := band2 h1
      obtain ⟨h1, h3⟩ := band2 h1
      obtain ⟨h1, h2⟩ := band2 h1
      exact s_dsp h1 (by simpa using h2) (of_decide_eq_true h3) h4 (of_decide_eq_true h5)
    · cases h
  | .tix n a, x, st, sc, X, ok, tk, h => by
    have g : (match asSub x with | some (l, r) => (match asName l with | some m => decide (n = m) && glB sc n && nmB n && (C.inf.dt.lookup n).isSome && isVal r && ckE N C.inf sc a r | none => false) | none => false) = true := h
    split at g
    · rename_i l r hn
      obtain ⟨p, rfl⟩ := asSub_of hn
      split at g
      · rename_i m hm
        obtain ⟨q, rfl⟩ := asName_of hm
        obtain ⟨h, h6⟩ := band2 g
        obtain ⟨h, h5⟩ := band2 h
        obtain ⟨h, h4⟩ := band2 h
        obtain ⟨h, h3⟩ := band2 h
        obtain ⟨h1, h2⟩ := band2 h
        have e : n = m := of_decide_eq_true h1
        subst e
        exact s_tix ok h2 h3 h4 h5 (okE a r st sc X ok tk h6)
      · cases g
    · cases g
  | .cald f es, x, st, sc, X, ok, tk, h => by
    have h : (match asCall x with | some (g, xs) => decide (f = g) && glB sc f && nmB f && (C.inf.df.lookup f).isSome && !xs.isEmpty && ckEs N C.inf sc es xs | none => false) = true := h
    split at h
    · rename_i g xs hn
      obtain ⟨p, q, rfl⟩ := asCall_of hn
      obtain ⟨h1, h6⟩ := band2 h
      obtain ⟨h1, h5⟩ := band2 h1
      obtain ⟨h1, h4⟩ := band2 h1
      obtain ⟨h1, h3⟩ := band2 h1
      obtain ⟨h1, h2⟩ := band2 h1
      have e := of_decide_eq_true h1
      subst e
      obtain ⟨dv, hdv⟩ := Option.isSome_iff_exists.mp h4
      cases xs with
      | nil => cases h5
      | cons y ys =>
        have := s_cald (p := p) (pos := q) ok tk h2 h3 hdv (all_isVal h6) (okEs es _ st sc X ok tk h6)
        show PE X _ (tE (gd X) W fun ρ => match C.inf.df.lookup f with
          | some dv => (evs C es ρ).bind fun xs => C.cal f (xs ++ dv)
          | none => .bad)
        rw [hdv]
        exact this
    · cases h
  | .mk c es, x, st, sc, X, ok, tk, h => by
    have h : (match asCall x with | some (g, xs) => decide (c = g) && glB sc c && nmB c && (C.inf.cls.lookup c).isSome && !xs.isEmpty && ckEs N C.inf sc es xs | none => false) = true := h
    split at h
    · rename_i g xs hn
      obtain ⟨p, q, rfl⟩ := asCall_of hn
      obtain ⟨h1, h6⟩ := band2 h
      obtain ⟨h1, h5⟩ := band2 h1
      obtain ⟨h1, h4⟩ := band2 h1
      obtain ⟨h1, h3⟩ := band2 h1
      obtain ⟨h1, h2⟩ := band2 h1
      have e := of_decide_eq_true h1
      subst e
      cases xs with
      | nil => cases h5
      | cons y ys => exact s_mk ok h2 h3 h4 (all_isVal h6) (okEs es _ st sc X ok tk h6)
    · cases h
  | .fld a f, x, st, sc, X, ok, tk, h => by
    have h : (match asAttr x with | some (o, g) => decide (f = g) && isBase o && ckE N C.inf sc a o | none => false) = true := h
    split at h
    · rename_i o g hn
      obtain ⟨q, rfl⟩ := asAttr_of hn
      obtain ⟨h1, h3⟩ := band2 h
      obtain ⟨h1, h2⟩ := band2 h1
      have e := of_decide_eq_true h1
      subst e
      exact s_fld ok h2 (okE a o st sc X ok tk h3)
    · cases h
  | .mth a m es, x, st, sc, X, ok, tk, h => by
    have h : (match asCallA x with | some (o, g, xs, l1, l2) => decide (m = g) && (l1 == l2) && decide (xs.length < 30) && isBase o && ckE N C.inf sc a o && ckEs N C.inf sc es xs | none => false) = true := h
    split at h
    · rename_i o g xs l1 l2 hn
      obtain ⟨ap, cp, rfl, e1, e2⟩ := asCallA_of hn
      obtain ⟨h1, h6⟩ := band2 h
      obtain ⟨h1, h5⟩ := band2 h1
      obtain ⟨h1, h4⟩ := band2 h1
      obtain ⟨h1, h3⟩ := band2 h1
      obtain ⟨h1, h2⟩ := band2 h1
      have e := of_decide_eq_true h1
      subst e
      cases xs with
      | nil =>
        cases es with
        | nil => exact s_mth0 ok tk h4 h2 (okE a o st sc X ok tk h5)
        | cons _ _ => unfold ckEs at h6; cases h6
      | cons y ys => exact s_mth ok tk h4 h2 (all_isVal h6) (of_decide_eq_true h3) (okE a o st sc X ok tk h5) (okEs es _ st sc X ok tk h6)
    · cases h
  | .sset a, x, st, sc, X, ok, tk, h => by
    have h : (match asCall x with | some (f, [u]) => (match asCall u with | some (g, [v]) => decide (f = ("sorted" : Str)) && decide (g = ("set" : Str)) && blB C.inf sc f && blB C.inf sc g && isVal v && ckE N C.inf sc a v | _ => false) | _ => false) = true := h
    split at h
    · rename_i f u hn
      split at h
      · rename_i g v hn2
        obtain ⟨p, q, rfl⟩ := asCall_of hn
        obtain ⟨p2, q2, rfl⟩ := asCall_of hn2
        obtain ⟨h, h6⟩ := band2 h
        obtain ⟨h, h5⟩ := band2 h
        obtain ⟨h, h4⟩ := band2 h
        obtain ⟨h, h3⟩ := band2 h
        obtain ⟨h1, h2⟩ := band2 h
        have e : f = ("sorted" : Str) := of_decide_eq_true h1
        subst e
        have e : g = ("set" : Str) := of_decide_eq_true h2
        subst e
        exact s_sset ok h3 h4 h5 (okE a v st sc X ok tk h6)
      · cases h
    · cases h
  | .maxd a d, x, st, sc, X, ok, tk, h => by
    have h : (match asCallK x with | some (f, u, k, v) => decide (f = ("max" : Str)) && decide (k = ("default" : Str)) && blB C.inf sc f && isVal u && ckE N C.inf sc a u && ckE N C.inf sc d v | none => false) = true := h
    split at h
    · rename_i f u k v hn
      obtain ⟨p, q, t, rfl⟩ := asCallK_of hn
      obtain ⟨h, h6⟩ := band2 h
      obtain ⟨h, h5⟩ := band2 h
      obtain ⟨h, h4⟩ := band2 h
      obtain ⟨h, h3⟩ := band2 h
      obtain ⟨h1, h2⟩ := band2 h
      have e : f = ("max" : Str) := of_decide_eq_true h1
      subst e
      have e : k = ("default" : Str) := of_decide_eq_true h2
      subst e
      exact s_maxd ok h3 h4 (okE a u st sc X ok tk h5) (okE d v st sc X ok tk h6)
    · cases h
  | .get1 a k, x, st, sc, X, ok, tk, h => by
    have h : (match asCallA x with | some (o, m, [e], l, l') => decide (m = ("get" : Str)) && (l == l') && isBase o && isVal e && ckE N C.inf sc a o && ckE N C.inf sc k e | _ => false) = true := h
    split at h
    · rename_i o m e l l' hn
      obtain ⟨ap, cp, rfl, rfl, rfl⟩ := asCallA_of hn
      obtain ⟨h1, h6⟩ := band2 h
      obtain ⟨h1, h5⟩ := band2 h1
      obtain ⟨h1, h4⟩ := band2 h1
      obtain ⟨h1, h3⟩ := band2 h1
      obtain ⟨h1, h2⟩ := band2 h1
      have e : m = ("get" : Str) := of_decide_eq_true h1
      subst e
      exact s_get1 ok h3 h2 h4 (okE a _ st sc X ok tk h5) (okE k _ st sc X ok tk h6)
    · cases h
  | .get2 a k d, x, st, sc, X, ok, tk, h => by
    have h : (match asCallA x with | some (o, m, [e, f], l, l') => decide (m = ("get" : Str)) && (l == l') && isBase o && isVal e && isVal f && ckE N C.inf sc a o && ckE N C.inf sc k e && ckE N C.inf sc d f | _ => false) = true := h
    split at h
    · rename_i o m e f l l' hn
      obtain ⟨ap, cp, rfl, rfl, rfl⟩ := asCallA_of hn
      obtain ⟨h1, h8⟩ := band2 h
      obtain ⟨h1, h7⟩ := band2 h1
      obtain ⟨h1, h6⟩ := band2 h1
      obtain ⟨h1, h5⟩ := band2 h1
      obtain ⟨h1, h4⟩ := band2 h1
      obtain ⟨h1, h3⟩ := band2 h1
      obtain ⟨h1, h2⟩ := band2 h1
      have e : m = ("get" : Str) := of_decide_eq_true h1
      subst e
      exact s_get2 ok h3 h2 h4 h5 (okE a _ st sc X ok tk h6) (okE k _ st sc X ok tk h7) (okE d _ st sc X ok tk h8)
    · cases h
  | .join a y, x, st, sc, X, ok, tk, h => by
    have h : (match asCallA x with | some (o, m, [e], l, l') => decide (m = ("join" : Str)) && (l == l') && isBase o && isVal e && ckE N C.inf sc a o && ckE N C.inf sc y e | _ => false) = true := h
    split at h
    · rename_i o m e l l' hn
      obtain ⟨ap, cp, rfl, rfl, rfl⟩ := asCallA_of hn
      obtain ⟨h1, h6⟩ := band2 h
      obtain ⟨h1, h5⟩ := band2 h1
      obtain ⟨h1, h4⟩ := band2 h1
      obtain ⟨h1, h3⟩ := band2 h1
      obtain ⟨h1, h2⟩ := band2 h1
      have e : m = ("join" : Str) := of_decide_eq_true h1
      subst e
      exact s_join h3 h2 h4 (okE a _ st sc X ok tk h5) (okE y _ st sc X ok tk h6)
    · cases h
  | .lok a, x, st, sc, X, ok, tk, h => s_lok (okE a x st sc X ok tk (band2 (show (ckE N C.inf sc a x && notLC x) = true from h)).1)
  | .fmt a, x, st, sc, X, ok, tk, h => by
    have h : (match asFmt x with | some e => ckE N C.inf sc a e | none => false) = true := h
    split at h
    · rename_i e hn
      obtain ⟨p, rfl⟩ := asFmt_of hn
      exact s_fmt (okE a e st sc X ok tk h)
    · cases h
  | .fst es, x, st, sc, X, ok, tk, h => by
    have h : (match asFst x with | some vs => decide (2 ≤ vs.length) && ckEs N C.inf sc es vs | none => false) = true := h
    split at h
    · rename_i vs hn
      obtain ⟨p, rfl⟩ := asFst_of hn
      obtain ⟨h1, h2⟩ := band2 h
      have h1 := of_decide_eq_true h1
      obtain ⟨ts, t1, t2⟩ := okJ es vs st sc X ok tk h2
      have go : PE X (.JoinedStr vs p) (fun σ H Q => tJs ts Str.empty σ H fun out H1 => Q (.str out) H1) := by
        cases vs with
        | nil => simp at h1
        | cons v1 r =>
          cases r with
          | nil => simp at h1
          | cons v2 r => exact pe_joined t1
      refine go.imp fun σ H Q ⟨ρ, O, A, q⟩ => ?_
      have q : PF (gd X) O H (WE' W σ) (match evs C es ρ with | .ok ds => fstD ds | _ => .bad) Q := q
      cases hd : evs C es ρ with
      | ok ds =>
        rw [hd] at q
        have q : PF (gd X) O H (WE' W σ) (fstD ds) Q := q
        unfold fstD at q
        cases hs : strsOf ds with
        | none => rw [hs] at q; exact q.elim
        | some ss =>
          rw [hs] at q
          dsimp only at q
          split at q
          · rename_i hl
            rw [limE] at hl
            exact t2 ρ O σ H Str.empty ds ss _ A hd hs (by rw [nil_str]; exact hl) fun H' s => by rw [nil_str]; exact q _ _ s ⟨rfl, hl⟩
          · exact q.elim
      | exc c => rw [hd] at q; exact q.elim
      | bad => rw [hd] at q; exact q.elim
    · cases h
theorem okJ {N : List Str} {C : Ctx} {W : WX} : ∀ (es : Es) (xs : List Expr) (st sc : Scope) (X : Cx), XOk N st sc C X → Takes X W → ckEs N C.inf sc es xs = true → ∃ ts, PJ X xs ts ∧ ∀ (ρ : List Sl) (O : Own) (σ : L2.St) (H : Hp) (acc : Str) (ds : List D) (ss : List Str) (Q : Str → Hp → Prop), Ag (gd X) O ρ σ H → evs C es ρ = .ok ds → strsOf ds = some ss → (acc ++ catS ss).length ≤ sizeLine → (∀ H', Same H H' → Q (acc ++ catS ss) H') → tJs ts acc σ H Q
  | .nil, xs, st, sc, X, ok, tk, h => by
    cases xs with
    | nil =>
      refine ⟨[], .nil, fun ρ O σ H acc ds ss Q A e hs hl k => ?_⟩
      cases e
      cases hs
      have := k H (Same.refl H)
      rw [show catS [] = Str.empty from rfl, str_nil] at this
      exact this
    | cons _ _ => cases h
  | .cons e es, xs, st, sc, X, ok, tk, h => by
    cases xs with
    | nil => cases h
    | cons x r =>
      have h : (isVal x && ckE N C.inf sc e x && ckEs N C.inf sc es r) = true := h
      obtain ⟨h1, h3⟩ := band2 h
      obtain ⟨h1, h2⟩ := band2 h1
      obtain ⟨ts, t1, t2⟩ := okJ es r st sc X ok tk h3
      refine ⟨_, .cons (okE (W := W) e x st sc X ok tk h2) t1, fun ρ O σ H acc ds ss Q A ev hs hl k => ?_⟩
      have ev' : (DL.ev C e ρ).bind (fun x => (evs C es ρ).bind fun xs => .ok (x.1 :: xs)) = .ok ds := ev
      cases h4 : DL.ev C e ρ with
      | exc c => rw [h4] at ev'; cases ev'
      | bad => rw [h4] at ev'; cases ev'
      | ok p =>
        rw [h4] at ev'
        cases h5 : evs C es ρ with
        | exc c => rw [h5] at ev'; cases ev'
        | bad => rw [h5] at ev'; cases ev'
        | ok ds' =>
          rw [h5] at ev'
          cases ev'
          obtain ⟨d, fr⟩ := p
          cases d with
          | str y =>
            simp only [strsOf, Option.map_eq_some_iff] at hs
            obtain ⟨ss', hs', rfl⟩ := hs
            refine ⟨ρ, O, A, ?_⟩
            rw [h4]
            intro v H1 s1 v1
            obtain ⟨rfl, hy⟩ := v1.rep A.dom
            have e3 : acc ++ y ++ catS ss' = acc ++ catS (y :: ss') := str_assoc _ _ _
            refine ⟨y, rfl, ?_, t2 ρ O σ H1 (acc ++ y) ds' ss' Q (A.same s1) h5 hs' (by rw [e3]; exact hl) fun H' s' => by rw [e3]; exact k H' (s1.trans s')⟩
            rw [← e3, str_len_app] at hl
            omega
          | _ => cases hs
theorem okT {N : List Str} {C : Ctx} {W : WX} : ∀ (e : T) (x : Expr) (st sc : Scope) (X : Cx), XOk N st sc C X → Takes X W → ckT N C.inf sc e x = true → PT X x (tT (gd X) W (evT C e)) ∧ ((∃ o vs p, x = .BoolOp o vs p) → PW X x (tT (gd X) W (evT C e)))
  | .v e, x, st, sc, X, ok, tk, h => by
    obtain ⟨h1, h2⟩ := band2 (show (isPlain x && ckE N C.inf sc e x) = true from h)
    refine ⟨t_val h1 (okE e x st sc X ok tk h2), fun ⟨o, vs, p, e⟩ => ?_⟩
    subst e
    cases h1
  | .and a b, x, st, sc, X, ok, tk, h => by
    have h : (match asBool x with | some (o, l :: r :: rest, p) => decide (o = .And) && ckT N C.inf sc a l && ckT N C.inf sc b (if rest.isEmpty then r else .BoolOp .And (r :: rest) p) | _ => false) = true := h
    split at h
    · rename_i o l r rest p hn
      have e := asBool_of hn
      subst e
      obtain ⟨h1, h3⟩ := band2 h
      obtain ⟨h1, h2⟩ := band2 h1
      have e := of_decide_eq_true h1
      subst e
      have h4 := okT b _ st sc X ok tk h3
      have key : PW X (.BoolOp .And (l :: r :: rest) p) (tT (gd X) W (evT C (.and a b))) := by
        refine t_and (okT a l st sc X ok tk h2).1 ?_
        cases rest with
        | nil => exact pw_one h4.1
        | cons y ys => exact h4.2 ⟨_, _, _, rfl⟩
      exact ⟨key.pt, fun _ => key⟩
    · cases h
  | .or a b, x, st, sc, X, ok, tk, h => by
    have h : (match asBool x with | some (o, l :: r :: rest, p) => decide (o = .Or) && ckT N C.inf sc a l && ckT N C.inf sc b (if rest.isEmpty then r else .BoolOp .Or (r :: rest) p) | _ => false) = true := h
    split at h
    · rename_i o l r rest p hn
      have e := asBool_of hn
      subst e
      obtain ⟨h1, h3⟩ := band2 h
      obtain ⟨h1, h2⟩ := band2 h1
      have e := of_decide_eq_true h1
      subst e
      have h4 := okT b _ st sc X ok tk h3
      have key : PW X (.BoolOp .Or (l :: r :: rest) p) (tT (gd X) W (evT C (.or a b))) := by
        refine t_or (okT a l st sc X ok tk h2).1 ?_
        cases rest with
        | nil => exact pw_one h4.1
        | cons y ys => exact h4.2 ⟨_, _, _, rfl⟩
      exact ⟨key.pt, fun _ => key⟩
    · cases h
  | .not a, x, st, sc, X, ok, tk, h => by
    have h : (match asUn x with | some (o, l) => decide (o = .Not) && ckT N C.inf sc a l | none => false) = true := h
    split at h
    · rename_i o l hn
      obtain ⟨p, rfl⟩ := asUn_of hn
      obtain ⟨h1, h2⟩ := band2 h
      have e := of_decide_eq_true h1
      subst e
      exact ⟨t_not (okT a l st sc X ok tk h2).1, fun ⟨_, _, _, e⟩ => by cases e⟩
    · cases h
  | .cmp o a b, x, st, sc, X, ok, tk, h => by
    have h : (match asCmp x with | some (l, [op], [r]) => decide (op = o.op) && isVal r && ckE N C.inf sc a l && ckE N C.inf sc b r && nonB o b | _ => false) = true := h
    split at h
    · rename_i l op r hn
      obtain ⟨p, rfl⟩ := asCmp_of hn
      obtain ⟨h1, h5⟩ := band2 h
      obtain ⟨h1, h4⟩ := band2 h1
      obtain ⟨h1, h3⟩ := band2 h1
      obtain ⟨h1, h2⟩ := band2 h1
      have e : op = o.op := of_decide_eq_true h1
      subst e
      exact ⟨t_cmp ok (okE a l st sc X ok tk h3) (okE b r st sc X ok tk h4) h2 (cmp_non h5), fun ⟨_, _, _, e⟩ => by cases e⟩
    · cases h
  | .chn o o' a b c, x, st, sc, X, ok, tk, h => by
    have h : (match asCmp x with | some (l, [op, op'], [r, s]) => decide (op = o.op) && decide (op' = o'.op) && isVal s && ckE N C.inf sc a l && ckE N C.inf sc b r && ckE N C.inf sc c s && plainC o && plainC o' | _ => false) = true := h
    split at h
    · rename_i l op op' r s hn
      obtain ⟨p, rfl⟩ := asCmp_of hn
      obtain ⟨h1, h8⟩ := band2 h
      obtain ⟨h1, h7⟩ := band2 h1
      obtain ⟨h1, h6⟩ := band2 h1
      obtain ⟨h1, h5⟩ := band2 h1
      obtain ⟨h1, h4⟩ := band2 h1
      obtain ⟨h1, h3⟩ := band2 h1
      obtain ⟨h1, h2⟩ := band2 h1
      have e : op = o.op := of_decide_eq_true h1
      have e2 : op' = o'.op := of_decide_eq_true h2
      subst e e2
      exact ⟨t_chn ok (okE a l st sc X ok tk h4) (okE b r st sc X ok tk h5) (okE c s st sc X ok tk h6) h3 h7 h8, fun ⟨_, _, _, e⟩ => by cases e⟩
    · cases h
  | .lent is a, x, st, sc, X, ok, tk, h => by
    have k := okT a x st sc X ok tk h
    refine ⟨t_lent k.1, fun q => (k.2 q).imp fun σ H Q ⟨ρ, O, A, h⟩ => ?_⟩
    obtain ⟨O', h1, h2, A'⟩ := A.thaw (is := is)
    exact ⟨thaw is ρ, O', A', h⟩
  | .yes, x, st, sc, X, ok, tk, h => by cases h
theorem okEs {N : List Str} {C : Ctx} {W : WX} : ∀ (es : Es) (xs : List Expr) (st sc : Scope) (X : Cx), XOk N st sc C X → Takes X W → ckEs N C.inf sc es xs = true → PA X xs (tA (gd X) W (evs C es))
  | .nil, xs, st, sc, X, ok, tk, h => by
    cases xs with
    | nil => exact a_nil
    | cons _ _ => cases h
  | .cons e es, xs, st, sc, X, ok, tk, h => by
    cases xs with
    | nil => cases h
    | cons x r =>
      have h : (isVal x && ckE N C.inf sc e x && ckEs N C.inf sc es r) = true := h
      obtain ⟨h1, h3⟩ := band2 h
      obtain ⟨h1, h2⟩ := band2 h1
      exact a_cons h1 (okE e x st sc X ok tk h2) (okEs es r st sc X ok tk h3)
theorem okP {N : List Str} {C : Ctx} {W : WX} : ∀ (e : Pt) (x : Option Expr) (st sc : Scope) (X : Cx), XOk N st sc C X → Takes X W → ckP N C.inf sc e x = true → PO X x (tP (gd X) W (evP C e))
  | .no, x, st, sc, X, ok, tk, h => by
    cases x with
    | none => exact o_no
    | some _ => cases h
  | .at e, x, st, sc, X, ok, tk, h => by
    cases x with
    | none => cases h
    | some u => exact o_at (okE e u st sc X ok tk h)
theorem okI {N : List Str} {C : Ctx} {W : WX} : ∀ (e : It) (x : Expr) (st sc : Scope) (X : Cx), XOk N st sc C X → Takes X W → ckI N C.inf sc e x = true → isVal x = true ∧ ∀ tg, itTg e tg = true → PI X tg x (tI (gd X) W (evIt C e))
  | .seq e, x, st, sc, X, ok, tk, h => by
    obtain ⟨h1, h2⟩ := band2 (show (isVal x && ckE N C.inf sc e x) = true from h)
    exact ⟨h1, fun tg _ => i_seq (okE e x st sc X ok tk h2)⟩
  | .rng1 e, x, st, sc, X, ok, tk, h => by
    have h : (match asCall x with | some (g, [l]) => decide (g = ("range" : Str)) && blB C.inf sc g && isVal l && ckE N C.inf sc e l | _ => false) = true := h
    split at h
    · rename_i g l hn
      obtain ⟨p, q, rfl⟩ := asCall_of hn
      obtain ⟨h1, h4⟩ := band2 h
      obtain ⟨h1, h3⟩ := band2 h1
      obtain ⟨h1, h2⟩ := band2 h1
      have e : g = ("range" : Str) := of_decide_eq_true h1
      subst e
      exact ⟨rfl, fun tg _ => i_rng1 ok h2 h3 (okE e l st sc X ok tk h4)⟩
    · cases h
  | .rng2 a b, x, st, sc, X, ok, tk, h => by
    have h : (match asCall x with | some (g, [l, r]) => decide (g = ("range" : Str)) && blB C.inf sc g && isVal l && isVal r && ckE N C.inf sc a l && ckE N C.inf sc b r | _ => false) = true := h
    split at h
    · rename_i g l r hn
      obtain ⟨p, q, rfl⟩ := asCall_of hn
      obtain ⟨h1, h6⟩ := band2 h
      obtain ⟨h1, h5⟩ := band2 h1
      obtain ⟨h1, h4⟩ := band2 h1
      obtain ⟨h1, h3⟩ := band2 h1
      obtain ⟨h1, h2⟩ := band2 h1
      have e : g = ("range" : Str) := of_decide_eq_true h1
      subst e
      exact ⟨rfl, fun tg _ => i_rng2 ok h2 h3 h4 (okE a l st sc X ok tk h5) (okE b r st sc X ok tk h6)⟩
    · cases h
  | .rng3 a b c, x, st, sc, X, ok, tk, h => by
    have h : (match asCall x with | some (g, [l, r, t]) => decide (g = ("range" : Str)) && blB C.inf sc g && isVal l && isVal r && isVal t && ckE N C.inf sc a l && ckE N C.inf sc b r && ckE N C.inf sc c t | _ => false) = true := h
    split at h
    · rename_i g l r t hn
      obtain ⟨p, q, rfl⟩ := asCall_of hn
      obtain ⟨h, h8⟩ := band2 h
      obtain ⟨h, h7⟩ := band2 h
      obtain ⟨h, h6⟩ := band2 h
      obtain ⟨h, h5⟩ := band2 h
      obtain ⟨h, h4⟩ := band2 h
      obtain ⟨h, h3⟩ := band2 h
      obtain ⟨h1, h2⟩ := band2 h
      have e : g = ("range" : Str) := of_decide_eq_true h1
      subst e
      exact ⟨rfl, fun tg _ => i_rng3 ok h2 h3 h4 h5 (okE a l st sc X ok tk h6) (okE b r st sc X ok tk h7) (okE c t st sc X ok tk h8)⟩
    · cases h
  | .enum e, x, st, sc, X, ok, tk, h => by
    have h : (match asCall x with | some (g, [l]) => decide (g = ("enumerate" : Str)) && blB C.inf sc g && isVal l && ckE N C.inf sc e l | _ => false) = true := h
    split at h
    · rename_i g l hn
      obtain ⟨p, q, rfl⟩ := asCall_of hn
      obtain ⟨h1, h4⟩ := band2 h
      obtain ⟨h1, h3⟩ := band2 h1
      obtain ⟨h1, h2⟩ := band2 h1
      have e' : g = ("enumerate" : Str) := of_decide_eq_true h1
      subst e'
      refine ⟨rfl, fun tg ht => ?_⟩
      obtain ⟨es, he⟩ := Option.isSome_iff_exists.mp (show (asTup tg).isSome = true from by simpa [itTg, needTup] using ht)
      obtain ⟨k, q, rfl⟩ := asTup_of he
      exact i_enum ok h2 h3 (okE e l st sc X ok tk h4)
    · cases h
  | .zip a b, x, st, sc, X, ok, tk, h => by
    have h : (match asCall x with | some (g, [l, r]) => decide (g = ("zip" : Str)) && blB C.inf sc g && isVal l && isVal r && ckE N C.inf sc a l && ckE N C.inf sc b r | _ => false) = true := h
    split at h
    · rename_i g l r hn
      obtain ⟨p, q, rfl⟩ := asCall_of hn
      obtain ⟨h1, h6⟩ := band2 h
      obtain ⟨h1, h5⟩ := band2 h1
      obtain ⟨h1, h4⟩ := band2 h1
      obtain ⟨h1, h3⟩ := band2 h1
      obtain ⟨h1, h2⟩ := band2 h1
      have e' : g = ("zip" : Str) := of_decide_eq_true h1
      subst e'
      refine ⟨rfl, fun tg ht => ?_⟩
      obtain ⟨es, he⟩ := Option.isSome_iff_exists.mp (show (asTup tg).isSome = true from by simpa [itTg, needTup] using ht)
      obtain ⟨k, q, rfl⟩ := asTup_of he
      exact i_zip ok h2 h3 h4 (okE a l st sc X ok tk h5) (okE b r st sc X ok tk h6)
    · cases h
  | .items e, x, st, sc, X, ok, tk, h => by
    have h : (match asCallA x with | some (o, m, [], l, l') => decide (m = ("items" : Str)) && (l == l') && isBase o && ckE N C.inf sc e o | _ => false) = true := h
    split at h
    · rename_i o m l l' hn
      obtain ⟨ap, cp, rfl, rfl, rfl⟩ := asCallA_of hn
      obtain ⟨h1, h4⟩ := band2 h
      obtain ⟨h1, h3⟩ := band2 h1
      obtain ⟨h1, h2⟩ := band2 h1
      have e' : m = ("items" : Str) := of_decide_eq_true h1
      subst e'
      refine ⟨rfl, fun tg ht => ?_⟩
      obtain ⟨es, he⟩ := Option.isSome_iff_exists.mp (show (asTup tg).isSome = true from by simpa [itTg, needTup] using ht)
      obtain ⟨k, q, rfl⟩ := asTup_of he
      exact i_items h3 h2 (okE e o st sc X ok tk h4)
    · cases h
  | .rev e, x, st, sc, X, ok, tk, h => by
    have h : (match asCall x with | some (g, [l]) => decide (g = ("reversed" : Str)) && blB C.inf sc g && isVal l && ckE N C.inf sc e l | _ => false) = true := h
    split at h
    · rename_i g l hn
      obtain ⟨p, q, rfl⟩ := asCall_of hn
      obtain ⟨h1, h4⟩ := band2 h
      obtain ⟨h1, h3⟩ := band2 h1
      obtain ⟨h1, h2⟩ := band2 h1
      have e' : g = ("reversed" : Str) := of_decide_eq_true h1
      subst e'
      exact ⟨rfl, fun tg _ => i_rev ok h2 h3 (okE e l st sc X ok tk h4)⟩
    · cases h
end
end DL

namespace DL
open PySem PySem.Spec L2

/-- the state of a def's body: entry O0, H0, now O, H -/
structure Sf (G : Gd) (O0 : Own) (H0 : Hp) (O : Own) (ρ : List Sl) (σ : L2.St) (H : Hp) : Prop where
  ag : Ag G O ρ σ H
  old : Same H0 H
  dom0 : Dom O0 H0
  own0 : ∀ a, O0 a → O a
  own1 : ∀ a, O a → O0 a ∨ H0 a = none
  mine : ∀ (i : Nat) (d : D) (a : Addr), ρ[i]? = some (Sl.own d) → σ[i]? = some (some (V.ref a)) → H0 a = none
def SPost (G : Gd) (W : WX) (O0 : Own) (H0 : Hp) (O : Own) (H : Hp) (o : Out) (D : Ends) : Prop := match o with
  | .nx ρ' => ∀ σ' H' O', Sf G O0 H0 O' ρ' σ' H' → Step O H O' H' → D.nx σ' H'
  | .brk ρ' => ∀ σ' H' O', Sf G O0 H0 O' ρ' σ' H' → Step O H O' H' → D.bk σ' H'
  | .ret d fr => ∀ v H', Same H0 H' → PV G O0 H0 H' d fr v → D.rt v H'
  | .exc c ρ' => ∀ σ' H' O' cv, Sf G O0 H0 O' ρ' σ' H' → Step O H O' H' → G.mg c = some cv → W cv none σ' H'
  | .bad => False
def tS (G : Gd) (W : WX) (m : List Sl → Out) : TS := fun D σ H => ∃ ρ O0 H0 O, Sf G O0 H0 O ρ σ H ∧ SPost G W O0 H0 O H (m ρ) D

theorem _root_.L2.PS.imp {X : Cx} {e : Stmt} {t t' : TS} (h : PS X e t) (m : ∀ D σ H, t' D σ H → t D σ H) : PS X e t' := ⟨fun pins s σ H Q I q => h.run pins s σ H Q I (m Q σ H q)⟩
theorem _root_.L2.PSs.imp {X : Cx} {e : List Stmt} {t t' : TS} (h : PSs X e t) (m : ∀ D σ H, t' D σ H → t D σ H) : PSs X e t' := ⟨fun pins s σ H Q I q => h.run pins s σ H Q I (m Q σ H q)⟩

section
variable {G : Gd} {W : WX} {O0 O O' O1 : Own} {H0 H H' H1 : Hp} {ρ ρ' : List Sl} {σ σ' : L2.St} {D D' : Ends} {o : Out} {d : DL.D} {v : V} {fr : Bool} {i : Nat} {a : Addr}
theorem SPost.later (s : Step O H O1 H1) (h : SPost G W O0 H0 O H o D) : SPost G W O0 H0 O1 H1 o D := by
  cases o with
  | nx ρ' => exact fun σ' H' O' f t => h σ' H' O' f (s.trans t)
  | brk ρ' => exact fun σ' H' O' f t => h σ' H' O' f (s.trans t)
  | ret d fr => exact h
  | exc c ρ' => exact fun σ' H' O' cv f t => h σ' H' O' cv f (s.trans t)
  | bad => exact h
theorem SPost.ends (h : SPost G W O0 H0 O H o D) (e1 : ∀ ρ', o = .nx ρ' → ∀ σ' H' O', Sf G O0 H0 O' ρ' σ' H' → Step O H O' H' → D.nx σ' H' → D'.nx σ' H') (e2 : ∀ σ' H', D.bk σ' H' → D'.bk σ' H') (e3 : ∀ v H', D.rt v H' → D'.rt v H') : SPost G W O0 H0 O H o D' := by
  cases o with
  | nx ρ' => exact fun σ' H' O' f t => e1 _ rfl σ' H' O' f t (h σ' H' O' f t)
  | brk ρ' => exact fun σ' H' O' f t => e2 _ _ (h σ' H' O' f t)
  | ret d fr => exact fun v H' s q => e3 _ _ (h v H' s q)
  | exc c ρ' => exact h
  | bad => exact h
/-- what an expression does to a body's state -/
theorem Sf.same (e : Same H H') (f : Sf G O0 H0 O ρ σ H) : Sf G O0 H0 O ρ σ H' := ⟨f.ag.same e, f.old.trans e, f.dom0, f.own0, f.own1, f.mine⟩
theorem PF.out {r : R} {g : DL.D × Bool → Out} (f : Sf G O0 H0 O ρ σ H) (h : SPost G W O0 H0 O H (r.out ρ g) D) : PF G O H (WE' W σ) r fun v H' => ∃ p : DL.D × Bool, Same H H' ∧ PV G O H H' p.1 p.2 v ∧ SPost G W O0 H0 O H' (g p) D := by
  cases r with
  | ok p => exact fun v H' s q => ⟨p, s, q, SPost.later (Step.same s) h⟩
  | exc c => exact fun H' cv s m => h σ H' O cv (f.same s) (Step.same s) m
  | bad => exact h
theorem PF.out0 {r : R} {g : DL.D × Bool → Out} (f : Sf G O0 H0 O ρ σ H) (h : SPost G W O0 H0 O H (r.out ρ g) D) : PF G O H (WE' W σ) r fun v H' => ∃ p : DL.D × Bool, Same H H' ∧ PV G O H H' p.1 p.2 v ∧ SPost G W O0 H0 O H (g p) D := by
  cases r with
  | ok p => exact fun v H' s q => ⟨p, s, q, h⟩
  | exc c => exact fun H' cv s m => h σ H' O cv (f.same s) (Step.same s) m
  | bad => exact h
theorem PFa.out {α : Type} {r : Rz α} {g : α → Out} (f : Sf G O0 H0 O ρ σ H) (h : SPost G W O0 H0 O H (r.out ρ g) D) : PFa G H (WE' W σ) r fun p H' => Same H H' ∧ SPost G W O0 H0 O H' (g p) D := by
  cases r with
  | ok p => exact fun H' s => ⟨s, SPost.later (Step.same s) h⟩
  | exc c => exact fun H' cv s m => h σ H' O cv (f.same s) (Step.same s) m
  | bad => exact h
theorem Sf.free0 (f : Sf G O0 H0 O ρ σ H) (n : H a = none) : H0 a = none := f.old.free n
/-- a slot takes a value that is seen -/
theorem set_own {s : Sl} {j : Nat} {e : DL.D} (q : (ρ.set i s)[j]? = some (Sl.own e)) : (i = j ∧ s = .own e) ∨ (i ≠ j ∧ ρ[j]? = some (Sl.own e)) := by
  by_cases hj : i = j
  · subst hj
    have hi : i < ρ.length := by
      have := (List.getElem?_eq_some_iff.mp q).1
      simpa using this
    rw [List.getElem?_set_self hi] at q
    exact .inl ⟨rfl, Option.some.inj q⟩
  · rw [List.getElem?_set_ne hj] at q
    exact .inr ⟨hj, q⟩
theorem Sf.setV (f : Sf G O0 H0 O ρ σ H) (r : Rep G O H d v) : Sf G O0 H0 O (ρ.set i (.val d)) (σ.set i (some v)) H :=
  ⟨f.ag.setV r, f.old, f.dom0, f.own0, f.own1, fun j e a q1 q2 => by
    rcases set_own q1 with ⟨_, z⟩ | ⟨n, q⟩
    · cases z
    · rw [List.getElem?_set_ne n] at q2
      exact f.mine j e a q q2⟩
/-- a slot is emptied -/
theorem Sf.setN (f : Sf G O0 H0 O ρ σ H) : Sf G O0 H0 O (ρ.set i .no) (σ.set i none) H := by
  have k : ∀ {j : Nat} {e : DL.D}, (ρ.set i Sl.no)[j]? = some (Sl.own e) → i ≠ j ∧ ρ[j]? = some (Sl.own e) := fun {j e} q => by
    rcases set_own q with ⟨_, z⟩ | ⟨n, q⟩
    · cases z
    · exact ⟨n, q⟩
  refine ⟨⟨f.ag.dom, by simpa using f.ag.len, fun j e q => ?_, fun j e q => ?_, fun j l d e a n q1 q2 q3 => ?_⟩, f.old, f.dom0, f.own0, f.own1, fun j e a q1 q2 => ?_⟩
  · by_cases hj : i = j
    · subst hj
      have hi : i < ρ.length := by
        have := (List.getElem?_eq_some_iff.mp q).1
        simpa using this
      rw [List.getElem?_set_self hi] at q
      cases q
    · rw [List.getElem?_set_ne hj] at q
      rw [List.getElem?_set_ne hj]
      exact f.ag.val j e q
  · obtain ⟨n, q⟩ := k q
    rw [List.getElem?_set_ne n]
    exact f.ag.own j e q
  · obtain ⟨n1, q1⟩ := k q1
    obtain ⟨n2, q2⟩ := k q2
    rw [List.getElem?_set_ne n1] at q3
    rw [List.getElem?_set_ne n2]
    exact f.ag.inj j l d e a n q1 q2 q3
  · obtain ⟨n1, q1⟩ := k q1
    rw [List.getElem?_set_ne n1] at q2
    exact f.mine j e a q1 q2
/-- a slot takes a new thing -/
theorem Ag.setO (h : Ag G O ρ σ H) (hO : O a) (r : OwnAt G O H d a) (n : ∀ (j : Nat) (e : DL.D), i ≠ j → ρ[j]? = some (Sl.own e) → σ[j]? ≠ some (some (V.ref a))) : Ag G O (ρ.set i (.own d)) (σ.set i (some (.ref a))) H := by
  refine ⟨h.dom, by simpa using h.len, fun j e q => ?_, fun j e q => ?_, fun j k d' e' b hjk q1 q2 q3 => ?_⟩
  · by_cases hj : i = j
    · subst hj
      have hi : i < ρ.length := by
        have := (List.getElem?_eq_some_iff.mp q).1
        simpa using this
      rw [List.getElem?_set_self hi] at q
      cases q
    · rw [List.getElem?_set_ne hj] at q
      rw [List.getElem?_set_ne hj]
      exact h.val j e q
  · rcases set_own q with ⟨hj, z⟩ | ⟨hj, q⟩
    · subst hj
      cases z
      have hi : i < ρ.length := by
        have := (List.getElem?_eq_some_iff.mp q).1
        simpa using this
      exact ⟨a, List.getElem?_set_self (by rw [← h.len]; exact hi), hO, r⟩
    · rw [List.getElem?_set_ne hj]
      exact h.own j e q
  · rcases set_own q1 with ⟨hj, z⟩ | ⟨hj, q1⟩
    · subst hj
      have hi : i < ρ.length := by
        have := (List.getElem?_eq_some_iff.mp q1).1
        simpa using this
      rw [List.getElem?_set_self (by rw [← h.len]; exact hi)] at q3
      cases q3
      rcases set_own q2 with ⟨hk, _⟩ | ⟨hk, q2⟩
      · exact absurd hk hjk
      · rw [List.getElem?_set_ne hk]
        exact n k e' hk q2
    · rw [List.getElem?_set_ne hj] at q3
      rcases set_own q2 with ⟨hk, z⟩ | ⟨hk, q2⟩
      · subst hk
        have hi : i < ρ.length := by
          have := (List.getElem?_eq_some_iff.mp q2).1
          simpa using this
        rw [List.getElem?_set_self (by rw [← h.len]; exact hi)]
        intro e
        have e' : a = b := by cases e; rfl
        subst e'
        exact n j d' hj q1 q3
      · rw [List.getElem?_set_ne hk]
        exact h.inj j k d' e' b hjk q1 q2 q3
theorem OwnAt.more {p : Addr} (hp : H p = none) (z : OwnAt G O H d a) : OwnAt G (ins1 O p) H d a := by
  cases d with
  | lst ds => obtain ⟨vs, h1, h2, h3⟩ := z; exact ⟨vs, h1, h2, h3.more hp⟩
  | dct lk ds =>
    cases lk with
    | true => exact z
    | false => obtain ⟨vs, h1, h2, h3, h5⟩ := z; exact ⟨vs, h1, h2, RepK.ext (fun b o x n => ⟨x, fun z => z.elim n fun e => by subst e; rw [hp] at x; cases x⟩) _ _ h3, h5⟩
  | dtn lk ds =>
    cases lk with
    | true => exact z
    | false => obtain ⟨vs, h1, h2, h3⟩ := z; exact ⟨vs, h1, h2, RepN.ext (fun b o x n => ⟨x, fun z => z.elim n fun e => by subst e; rw [hp] at x; cases x⟩) _ _ h3⟩
  | _ => exact z
theorem OwnAt.there (z : OwnAt G O H d a) : ∃ o, H a = some o := by
  cases d with
  | lst ds => obtain ⟨vs, h1, _⟩ := z; exact ⟨_, h1⟩
  | dct lk ds =>
    cases lk with
    | true => exact z.elim
    | false => obtain ⟨vs, h1, _⟩ := z; exact ⟨_, h1⟩
  | dtn lk ds =>
    cases lk with
    | true => exact z.elim
    | false => obtain ⟨vs, h1, _⟩ := z; exact ⟨_, h1⟩
  | _ => exact z.elim
theorem Sf.setO (f : Sf G O0 H0 O ρ σ H) (s : Same H H') (hn : H a = none) (r : OwnAt G (ins1 O a) H' d a) : Sf G O0 H0 (ins1 O a) (ρ.set i (.own d)) (σ.set i (some (.ref a))) H' := by
  have A1 : Ag G (ins1 O a) ρ σ H' := by
    refine ⟨fun b z => z.elim (fun z => f.ag.dom.same s b z) fun z => by rw [z]; exact r.there, f.ag.len, fun j e q => let ⟨v, x, y⟩ := f.ag.val j e q; ⟨v, x, (y.more hn).same s⟩, fun j e q => let ⟨b, x, y, z⟩ := f.ag.own j e q; ⟨b, x, .inl y, (z.more hn).same s⟩, f.ag.inj⟩
  have nj : ∀ (j : Nat) (e : DL.D), ρ[j]? = some (Sl.own e) → σ[j]? ≠ some (some (V.ref a)) := fun j e q z => by
    obtain ⟨b, x, y, w⟩ := f.ag.own j e q
    rw [z] at x
    cases x
    exact f.ag.dom.free hn y
  refine ⟨A1.setO (.inr rfl) r fun j e _ q => nj j e q, f.old.trans s, f.dom0, fun b z => .inl (f.own0 b z), fun b z => z.elim (f.own1 b) fun z => by rw [z]; exact .inr (f.free0 hn), fun j e b q1 q2 => ?_⟩
  rcases set_own q1 with ⟨hj, z⟩ | ⟨hj, q⟩
  · subst hj
    have hi : i < ρ.length := by
      have := (List.getElem?_eq_some_iff.mp q1).1
      simpa using this
    rw [List.getElem?_set_self (by rw [← f.ag.len]; exact hi)] at q2
    cases q2
    exact f.free0 hn
  · rw [List.getElem?_set_ne hj] at q2
    exact f.mine j e b q q2
/-- an owned thing is changed where it stands -/
theorem Sf.change {o' : HO} (f : Sf G O0 H0 O ρ σ H) (e : ρ[i]? = some (Sl.own d)) (es : σ[i]? = some (some (V.ref a))) (hO : O a) {d' : DL.D} (r : OwnAt G O (upd H a o') d' a) : Sf G O0 H0 O (ρ.set i (.own d')) σ (upd H a o') ∧ Step O H O (upd H a o') := by
  have st : Step O H O (upd H a o') := fun b o q n => ⟨by rw [upd_ne fun z => n (by rw [z]; exact hO)]; exact q, n⟩
  have hm := f.mine i d a e es
  have A1 : Ag G O ρ σ H := f.ag
  have es' : σ.set i (some (V.ref a)) = σ := by
    apply List.ext_getElem?
    intro j
    by_cases hj : i = j
    · subst hj
      have hi : i < σ.length := (List.getElem?_eq_some_iff.mp es).1
      rw [List.getElem?_set_self hi, es]
    · rw [List.getElem?_set_ne hj]
  have nj : ∀ (j : Nat) (e : DL.D), i ≠ j → ρ[j]? = some (Sl.own e) → σ[j]? ≠ some (some (V.ref a)) := fun j e' hj q => f.ag.inj i j d e' a hj e q es
  have hd : Dom O (upd H a o') := fun b z => by
    by_cases hb : b = a
    · exact ⟨o', by rw [hb]; exact upd_same⟩
    · obtain ⟨o, q⟩ := f.ag.dom b z
      exact ⟨o, by rw [upd_ne hb]; exact q⟩
  refine ⟨⟨?_, fun b o q => by rw [upd_ne fun z => by rw [z, hm] at q; cases q]; exact f.old b o q, f.dom0, f.own0, f.own1, fun j e' b q1 q2 => ?_⟩, st⟩
  · refine ⟨hd, by simpa using f.ag.len, fun j e' q => ?_, fun j e' q => ?_, fun j k d1 e1 b hjk q1 q2 q3 => ?_⟩
    · by_cases hj : i = j
      · subst hj
        have hi : i < ρ.length := (List.getElem?_eq_some_iff.mp e).1
        rw [List.getElem?_set_self hi] at q
        cases q
      · rw [List.getElem?_set_ne hj] at q
        obtain ⟨v, x, y⟩ := f.ag.val j e' q
        exact ⟨v, x, y.step st⟩
    · rcases set_own q with ⟨hj, z⟩ | ⟨hj, q⟩
      · subst hj
        cases z
        exact ⟨a, es, hO, r⟩
      · obtain ⟨b, x, y, z⟩ := f.ag.own j e' q
        have hb : b ≠ a := fun z' => nj j e' hj q (by rw [x, z'])
        refine ⟨b, x, y, ?_⟩
        cases e' with
        | lst ds => obtain ⟨vs, h1, h2, h3⟩ := z; exact ⟨vs, by rw [upd_ne hb]; exact h1, h2, h3.step st⟩
        | dct lk ds =>
          cases lk with
          | true => exact z
          | false => obtain ⟨vs, h1, h2, h3, h5⟩ := z; exact ⟨vs, by rw [upd_ne hb]; exact h1, h2, RepK.ext st _ _ h3, h5⟩
        | dtn lk ds =>
          cases lk with
          | true => exact z
          | false => obtain ⟨vs, h1, h2, h3⟩ := z; exact ⟨vs, by rw [upd_ne hb]; exact h1, h2, RepN.ext st _ _ h3⟩
        | _ => exact z
    · have g : ∀ {j : Nat} {d1 : DL.D}, (ρ.set i (.own d'))[j]? = some (Sl.own d1) → ∃ d2, ρ[j]? = some (Sl.own d2) := fun {j d1} q => by
        rcases set_own q with ⟨hj, _⟩ | ⟨_, q⟩
        · subst hj; exact ⟨d, e⟩
        · exact ⟨_, q⟩
      obtain ⟨d2, q1⟩ := g q1
      obtain ⟨e2, q2⟩ := g q2
      exact f.ag.inj j k d2 e2 b hjk q1 q2 q3
  · rcases set_own q1 with ⟨hj, _⟩ | ⟨_, q⟩
    · subst hj; exact f.mine i d b e q2
    · exact f.mine j e' b q q2
/-- an owned thing is locked and let go -/
theorem Sf.lock {o' : HO} (f : Sf G O0 H0 O ρ σ H) (e : ρ[i]? = some (Sl.own d)) (es : σ[i]? = some (some (V.ref a))) (hO : O a) {d' : DL.D} (r : Rep G (fun b => O b ∧ b ≠ a) (upd H a o') d' (.ref a)) : Sf G O0 H0 (fun b => O b ∧ b ≠ a) (ρ.set i (.val d')) σ (upd H a o') ∧ Step O H (fun b => O b ∧ b ≠ a) (upd H a o') := by
  have st : Step O H (fun b => O b ∧ b ≠ a) (upd H a o') := fun b o q n => ⟨by rw [upd_ne fun z => n (by rw [z]; exact hO)]; exact q, fun z => n z.1⟩
  have hm := f.mine i d a e es
  have hi : i < ρ.length := (List.getElem?_eq_some_iff.mp e).1
  have g : ∀ {j : Nat} {d1 : DL.D}, (ρ.set i (.val d'))[j]? = some (Sl.own d1) → i ≠ j ∧ ρ[j]? = some (Sl.own d1) := fun {j d1} q => by
    rcases set_own q with ⟨_, z⟩ | ⟨n, q⟩
    · cases z
    · exact ⟨n, q⟩
  refine ⟨⟨⟨fun b z => ?_, by simpa using f.ag.len, fun j e' q => ?_, fun j e' q => ?_, fun j k d1 e1 b hjk q1 q2 => f.ag.inj j k d1 e1 b hjk (g q1).2 (g q2).2⟩, fun b o q => by rw [upd_ne fun z => by rw [z, hm] at q; cases q]; exact f.old b o q, f.dom0, fun b z => ⟨f.own0 b z, fun z2 => f.dom0.free hm (z2 ▸ z)⟩, fun b z => f.own1 b z.1, fun j e' b q1 q2 => f.mine j e' b (g q1).2 q2⟩, st⟩
  · obtain ⟨o, q⟩ := f.ag.dom b z.1
    exact ⟨o, by rw [upd_ne z.2]; exact q⟩
  · by_cases hj : i = j
    · subst hj
      rw [List.getElem?_set_self hi] at q
      cases q
      exact ⟨_, es, r⟩
    · rw [List.getElem?_set_ne hj] at q
      obtain ⟨v, x, y⟩ := f.ag.val j e' q
      exact ⟨v, x, y.step st⟩
  · obtain ⟨hj, q⟩ := g q
    obtain ⟨b, x, y, z⟩ := f.ag.own j e' q
    have hb : b ≠ a := fun z' => f.ag.inj i j d e' a hj e q es (by rw [x, z'])
    refine ⟨b, x, ⟨y, hb⟩, z.ext (fun c o h1 h2 => ⟨?_, fun hc h3 => ?_⟩) y⟩
    · have : c ≠ a := fun z => by
        rcases h2 with h2 | h2
        · exact h2 (z ▸ hO)
        · exact hb (h2 ▸ z)
      rw [upd_ne this]
      exact h1
    · rcases h2 with h2 | h2
      · exact h2 h3.1
      · exact hc h2
theorem thaw1_own {i j : Nat} {d : DL.D} (h : (DL.thaw1 ρ i)[j]? = some (Sl.own d)) : ρ[j]? = some (Sl.own d) := by
  unfold DL.thaw1 at h
  split at h
  · rcases set_own h with ⟨_, z⟩ | ⟨_, q⟩
    · cases z
    · exact q
  · exact h
theorem Sf.thaw1 {i : Nat} (f : Sf G O0 H0 O ρ σ H) : ∃ O', Sf G O0 H0 O' (DL.thaw1 ρ i) σ H ∧ ∀ a, O' a → O a := by
  obtain ⟨O', h1, h2, h3⟩ := f.ag.thaw1 (i := i)
  refine ⟨O', ⟨h3, f.old, f.dom0, fun a z => Classical.byContradiction fun n => ?_, fun a z => f.own1 a (h1 a z), fun j d a q1 q2 => f.mine j d a (thaw1_own q1) q2⟩, h1⟩
  obtain ⟨d, _, q1, q2⟩ := h2 a (f.own0 a z) n
  exact f.dom0.free (f.mine i d a q1 q2) z
theorem Sf.thaw {is : List Nat} (f : Sf G O0 H0 O ρ σ H) : ∃ O', Sf G O0 H0 O' (DL.thaw is ρ) σ H ∧ Step O H O' H := by
  have key : ∀ (is : List Nat) (ρ : List Sl) (O : Own), Sf G O0 H0 O ρ σ H → ∃ O', Sf G O0 H0 O' (DL.thaw is ρ) σ H ∧ ∀ a, O' a → O a := by
    intro is
    induction is with
    | nil => exact fun ρ O f => ⟨O, f, fun _ z => z⟩
    | cons i is ih =>
      intro ρ O f
      obtain ⟨O1, f1, k1⟩ := f.thaw1 (i := i)
      obtain ⟨O2, f2, k2⟩ := ih _ O1 f1
      exact ⟨O2, f2, fun a z => k1 a (k2 a z)⟩
  obtain ⟨O', f', k⟩ := key is ρ O f
  exact ⟨O', f', fun a o q n => ⟨q, fun z => n (k a z)⟩⟩
end
end DL

namespace DL
open PySem PySem.Spec L2

/-! ### the form of a statement -/
def isSwp : Expr → Bool
  | .ListComp _ _ _ _ => true
  | .SetComp _ _ _ _ => true
  | .DictComp _ _ _ _ _ => true
  | _ => false
theorem swap_no {v : Expr} {t : Option Expr} {l : Nat} {env : Env} (h : isSwp v = false) : swapsWith v t l env = pure false := by
  cases v <;> first | (cases h; done) | rfl
theorem swap_tup {v : Expr} {es : List Expr} {k : Nat} {p : Pos} {l : Nat} {env : Env} : swapsWith v (some (.Tuple es k p)) l env = pure false := by
  cases v <;> rfl
def isLC : Expr → Bool
  | .ListComp _ _ _ _ => true
  | _ => false
theorem isLC_of {v : Expr} (h : isLC v = true) : ∃ e g s p, v = .ListComp e g s p := by
  cases v <;> first | exact ⟨_, _, _, _, rfl⟩ | cases h
/-- is name = [..] of the kind that exchanges -/
def swB (sc : Scope) (n : Str) (p : Pos) (s : Scope) (q : Pos) : Bool :=
  (sc.names.lookup n == some .local) && (p.line == q.line) && !(s.names.any fun (m, k) => m == n && (k == .local || k == .cell))
theorem swap_comp {e : Expr} {g : List Comprehension} {s : Scope} {q p : Pos} {n : Str} {l : Nat} {env : Env} (hk : env.scope.kind = .function) : swapsWith (.ListComp e g s q) (some (.Name n p)) l env = pure (swB env.scope n p s q) := by
  have hb : env.blockKind = .function := by unfold Env.blockKind; rw [hk]; rfl
  have ky : env.kindOf n = env.scope.names.lookup n := rfl
  unfold swapsWith swB
  simp only [hb, ky, Expr.pos]
  rfl
def ckSet (N : List Str) (sc : Scope) (i : Nat) (t : Expr) : Bool := match asName t with
  | some n => decide (N[i]? = some n) && locB sc n
  | none => false
def asCallM : Expr → Option (Str × Str × List Expr × Nat × Nat)
  | .Call (.Attribute (.Name x _) m ap) es [] cp => some (x, m, es, ap.endLine, cp.line)
  | _ => none
theorem asCallM_of {x : Expr} {p} (h : asCallM x = some p) : ∃ q ap cp, x = .Call (.Attribute (.Name p.1 q) p.2.1 ap) p.2.2.1 [] cp ∧ ap.endLine = p.2.2.2.1 ∧ cp.line = p.2.2.2.2 := by
  unfold asCallM at h
  split at h
  · cases h; exact ⟨_, _, _, rfl, rfl, rfl⟩
  · cases h
def noIf : Stmt → Bool := fun _ => false
/-- what stands in a handler: return of a literal, or a literal for a name -/
def ckH (N : List Str) (I : Inf) (sc : Scope) : S → Stmt → Bool
  | .ret (.lit d), s => match s with
    | .Return (some (.Constant k j p)) _ => litB d k
    | _ => false
  | .set i false (.lit d), s => match s with
    | .Assign [t] (.Constant k j p) _ => ckSet N sc i t && litB d k
    | _ => false
  | _, _ => false
/-- a plain local name -/
def onlyL (sc : Scope) (y : Str) : Bool := decide (sc.names.lookup y = some .local)
mutual
def ckS (N : List Str) (I : Inf) (sc : Scope) : S → Stmt → Bool
  | .set i o e, s => match s with
    | .Assign [t] v _ => ckSet N sc i t && ckE N I sc e v && (!isSwp v || isLC v)
    | _ => false
  | .unp is e, s => match s with
    | .Assign [t] v _ => (match asTup t with | some _ => true | none => false) && tgB N sc (.many is) t && ckE N I sc e v && (asTup v).isNone && (asLst v).isNone
    | _ => false
  | .exp e, s => match s with
    | .Expr v _ => ckE N I sc e v && !isSwp v
    | _ => false
  | .app i e, s => match s with
    | .Expr v _ => match asCallM v with
      | some (x, m, [a], l, l') => decide (m = ("append" : Str)) && decide (N[i]? = some x) && visB sc x && nmB x && isVal a && ckE N I sc e a && (l == l')
      | _ => false
    | _ => false
  | .ext i e, s => match s with
    | .Expr v _ => match asCallM v with
      | some (x, m, [a], l, l') => decide (m = ("extend" : Str)) && decide (N[i]? = some x) && visB sc x && nmB x && isVal a && ckE N I sc e a && (l == l')
      | _ => false
    | _ => false
  | .put i k e, s => match s with
    | .Assign [t] v _ => match asSub t with
      | some (o, ix) => match asName o with
        | some x => decide (N[i]? = some x) && visB sc x && nmB x && isVal ix && ckE N I sc k ix && ckE N I sc e v && !isSwp v
        | none => false
      | none => false
    | _ => false
  | .pop2 i k d, s => match s with
    | .Expr v _ => match asCallM v with
      | some (x, m, [a, b], l, l') => decide (m = ("pop" : Str)) && decide (N[i]? = some x) && visB sc x && nmB x && isVal a && isVal b && ckE N I sc k a && ckE N I sc d b && (l == l')
      | _ => false
    | _ => false
  | .pop1 j i k, s => match j with
    | none => match s with
      | .Expr v _ => match asCallM v with
        | some (x, m, [a], l, l') => decide (m = ("pop" : Str)) && decide (N[i]? = some x) && visB sc x && nmB x && isVal a && ckE N I sc k a && (l == l')
        | _ => false
      | _ => false
    | some j => match s with
      | .Assign [t] v _ => match asCallM v with
        | some (x, m, [a], l, l') => ckSet N sc j t && decide (m = ("pop" : Str)) && decide (N[i]? = some x) && visB sc x && nmB x && isVal a && ckE N I sc k a && (l == l')
        | _ => false
      | _ => false
  | .clr i, s => match s with
    | .Expr v _ => match asCallM v with
      | some (x, m, [], l, l') => decide (m = ("clear" : Str)) && decide (N[i]? = some x) && visB sc x && nmB x && (l == l')
      | _ => false
    | _ => false
  | .upd i e, s => match s with
    | .Expr v _ => match asCallM v with
      | some (x, m, [a], l, l') => decide (m = ("update" : Str)) && decide (N[i]? = some x) && visB sc x && nmB x && isVal a && ckE N I sc e a && (l == l')
      | _ => false
    | _ => false
  | .ret e, s => match s with
    | .Return (some v) _ => ckE N I sc e v
    | _ => false
  | .retv i, s => match s with
    | .Return (some v) _ => match asName v with
      | some x => decide (N[i]? = some x) && visB sc x && nmB x
      | none => false
    | _ => false
  | .retN, s => match s with
    | .Return none _ => true
    | _ => false
  | .ite c a b, s => match s with
    | .If t x y _ => ckT N I sc c t && ckSs N I sc a x && ckSs N I sc b y
    | _ => false
  | .whl c b, s => match s with
    | .While t x [] _ => ckT N I sc c t && ckSs N I sc b x
    | _ => false
  | .fr tg it b, s => match s with
    | .For t i x [] _ => ckI N I sc it i && itTg it t && tgB N sc tg t && ckSs N I sc b x
    | _ => false
  | .brk, s => match s with
    | .Break _ => true
    | _ => false
  | .pas, s => match s with
    | .Pass _ => true
    | .Expr (.Constant (.str _) _ _) _ => true
    | _ => false
  | .rai c, s => match s with
    | .Raise (some v) none _ => match asCall v with
      | some (n, [.Constant (.str _) _ _]) => decide (n = c) && glB sc n && nmB n && I.exs.contains n
      | _ => false
    | _ => false
  | .try1 c b h, s => match s with
    | .Try body [.ExceptHandler (some x) none [k] _] [] [] _ => match asName x with
      | some n => decide (n = c) && glB sc n && nmB n && (I.exm.any fun e => decide (e.1.2 = c)) && ckSs N I sc b body && ckH N I sc h k
      | none => false
    | _ => false
  | .tryK c b i j, s => match s with
    | .Try body [.ExceptHandler (some x) (some y) [.Assign [t] v _] _] [] [] _ => match asName x with
      | some n => decide (n = c) && glB sc n && nmB n && (I.exm.any fun e => decide (e.1.2 = c)) && ckSs N I sc b body && decide (i ≠ j) && decide (N[i]? = some y) && onlyL sc y && ckSet N sc j t && (match asName v with | some m => decide (m = y) && nmB m | none => false)
      | none => false
    | _ => false
  | .frz is b, s => ckS N I sc b s
  | .frzL i b, s => ckS N I sc b s
def ckSs (N : List Str) (I : Inf) (sc : Scope) : Ss → List Stmt → Bool
  | .nil, l => l.isEmpty
  | .any, _ => true
  | .cons s ss, l => match l with
    | x :: r => ckS N I sc s x && ckSs N I sc ss r
    | [] => false
end
section
variable {N : List Str} {st sc : Scope} {C : Ctx} {X : Cx} {W : WX} {pos : Pos}
theorem loc_of (ok : XOk N st sc C X) {n : Str} (h : locB sc n = true) : Loc X.env.scope n := by rw [ok.hs]; exact locB_of h
theorem b_nil : PSs X [] (tS (gd X) W (evSs C .nil)) := by
  refine pss_nil.imp fun D σ H h => ?_
  obtain ⟨ρ, O0, H0, O, f, h⟩ := h
  exact h σ H O f (Step.refl _ _)
theorem b_cons {s : S} {ss : Ss} {x : Stmt} {r : List Stmt} (h1 : PS X x (tS (gd X) W (evS C s))) (h2 : PSs X r (tS (gd X) W (evSs C ss))) : PSs X (x :: r) (tS (gd X) W (evSs C (.cons s ss))) := by
  refine (pss_cons h1 h2).imp fun D σ H h => ?_
  obtain ⟨ρ, O0, H0, O, f, h⟩ := h
  refine ⟨ρ, O0, H0, O, f, ?_⟩
  have h : SPost (gd X) W O0 H0 O H ((evS C s ρ).seq (evSs C ss)) D := h
  cases e : evS C s ρ with
  | nx ρ' =>
    rw [e] at h
    intro σ' H' O' f' s'
    exact ⟨ρ', O0, H0, O', f', h.later s'⟩
  | brk ρ' => rw [e] at h; exact h
  | ret d fr => rw [e] at h; exact h
  | exc c ρ' => rw [e] at h; exact h
  | bad => rw [e] at h; exact h
end
end DL

namespace DL
open PySem PySem.Spec L2

section
variable {G : Gd} {W : WX} {O0 O O' O1 : Own} {H0 H H' H1 : Hp} {ρ ρ' : List Sl} {σ σ' : L2.St} {D D' : Ends} {o : Out} {d : DL.D} {v : V} {fr : Bool} {i : Nat} {a : Addr}
theorem gs_bindS : ∀ {is : List Nat} {ds : List DL.D} {vs : List V} {ρ ρ' : List Sl} {σ : L2.St} {Q : L2.St → Hp → Prop}, Sf G O0 H0 O ρ σ H → sets is ds ρ = some ρ' → Reps G O H ds vs →
    (∀ σ', Sf G O0 H0 O ρ' σ' H → Q σ' H) → gTs is vs σ H Q
  | [], [], vs, ρ, ρ', σ, Q, A, h, r, k => by
    cases h; cases r
    exact ⟨rfl, k σ A⟩
  | i :: is, d :: ds, vs, ρ, ρ', σ, Q, A, h, r, k => by
    obtain ⟨v, s, rfl, r1, r2⟩ := r
    exact ⟨v, s, rfl, gs_bindS (A.setV r1) h r2 fun σ' A' => k σ' A'⟩
  | [], _ :: _, _, _, _, _, _, _, h, _, _ => by cases h
  | _ :: _, [], _, _, _, _, _, _, h, _, _ => by cases h
theorem g_bindS {tg : Tg} {Q : L2.St → Hp → Prop} (A : Sf G O0 H0 O ρ σ H) (h : tg.bind d ρ = some ρ') (r : Rep G O H d v) (k : ∀ σ', Sf G O0 H0 O ρ' σ' H → Q σ' H) : gT G.K tg v σ H Q := by
  cases tg with
  | one i =>
    cases h
    exact k _ (A.setV r)
  | many is =>
    cases d with
    | tup ds =>
      obtain ⟨a, vs, rfl, h1, h2, h3⟩ := r
      exact ⟨a, vs, rfl, tup_sq h1, by rw [h3.length]; exact sets_len h, gs_bindS A h h3 fun σ' A' => k σ' A'⟩
    | _ => cases h
theorem OwnAt.weak (h : OwnAt G O H d a) (ho : O a) (n : ∀ b, O' b → O b ∨ b = a) : OwnAt G (ins1 O' a) H d a :=
  h.ext (O' := ins1 O' a) (H' := H) (fun b o x y => ⟨x, fun hb z => by
    rcases y with y | y
    · rcases z with z | z
      · rcases n b z with z | z
        · exact y z
        · exact hb z
      · exact hb z
    · exact hb y⟩) ho

/-! ### loops -/
theorem while_read {mt : List Sl → Rz Bool} {mb : List Sl → Out} (f : Sf G O0 H0 O ρ σ H) (h : SPost G W O0 H0 O H (wLoop mt mb ρ) D) : tWhile (tT G W mt) (tS G W mb) D σ H := by
  have hb : wLoop mt mb ρ ≠ .bad := fun e => by rw [e] at h; exact h
  obtain ⟨n, hn⟩ := wLoop_end hb
  generalize wLoop mt mb ρ = o at h hn
  refine ⟨fun m σ H => ∃ ρ O, Sf G O0 H0 O ρ σ H ∧ SPost G W O0 H0 O H o D ∧ wIter mt mb m ρ = some o, ⟨n, ρ, O, f, h, hn⟩, ?_⟩
  rintro m σ1 H1 ⟨ρ1, O1, f1, h1, e1⟩
  refine ⟨ρ1, O1, f1.ag, ?_⟩
  cases m with
  | zero => cases e1
  | succ m =>
    unfold wIter at e1
    cases e2 : mt ρ1 with
    | exc c =>
      rw [e2] at e1
      cases e1
      exact fun H' cv s m => h1 σ1 H' O1 cv (f1.same s) (Step.same s) m
    | bad => rw [e2] at e1; cases e1; exact h1.elim
    | ok k =>
      rw [e2] at e1
      intro H2 s2
      cases k with
      | false =>
        cases e1
        exact iteF (h1 σ1 H2 O1 (f1.same s2) (Step.same s2))
      | true =>
        refine iteT ⟨fun σ' H' => ∃ ρ O, Sf G O0 H0 O ρ σ' H' ∧ SPost G W O0 H0 O H' o D ∧ wIter mt mb m ρ = some o, fun σ' H' q => ⟨m, Nat.lt_succ_self m, q⟩, ρ1, O0, H0, O1, f1.same s2, ?_⟩
        dsimp only at e1
        have h2 : SPost G W O0 H0 O1 H2 o D := h1.later (Step.same s2)
        cases e3 : mb ρ1 with
        | nx ρ' =>
          rw [e3] at e1
          exact fun σ' H' O' f' t => ⟨ρ', O', f', h2.later t, e1⟩
        | brk ρ' =>
          rw [e3] at e1
          cases e1
          exact fun σ' H' O' f' t => h2 σ' H' O' f' t
        | ret d fr => rw [e3] at e1; cases e1; exact fun v H' s q => h2 v H' s q
        | exc c ρ' => rw [e3] at e1; cases e1; exact h2
        | bad => rw [e3] at e1; cases e1; exact h2
theorem for_read {tg : Tg} {mi : List Sl → Rz (List DL.D)} {mb : List Sl → Out} (f : Sf G O0 H0 O ρ σ H) (h : SPost G W O0 H0 O H ((mi ρ).out ρ fun ds => fLoop tg mb ds ρ) D) : tFor (tI G W mi) (gT G.K tg) (tS G W mb) D σ H := by
  refine ⟨ρ, O, f.ag, ?_⟩
  cases e : mi ρ with
  | exc c =>
    rw [e] at h
    exact fun H' cv s m => h σ H' O cv (f.same s) (Step.same s) m
  | bad => rw [e] at h; exact h
  | ok ds =>
    rw [e] at h
    intro H1 s1 hl J hJ
    have h : SPost G W O0 H0 O H1 (fLoop tg mb ds ρ) D := SPost.later (Step.same s1) h
    refine ⟨fun i m σ H => m = ds.length - i ∧ i ≤ ds.length ∧ ∃ ρ O2, Sf G O0 H0 O2 ρ σ H ∧ Step O H1 O2 H ∧ SPost G W O0 H0 O2 H (fLoop tg mb (ds.drop i) ρ) D, ⟨ds.length, by simp, Nat.zero_le _, ρ, O, f.same s1, Step.refl _ _, h⟩, ?_⟩
    rintro i m σ2 H2 ⟨rfl, hi, ρ2, O2, f2, st2, h2⟩
    by_cases hlt : i < ds.length
    · refine .inr ⟨hJ.go i _ _ st2 hlt, fun σ' H' => ∃ ρ O2, Sf G O0 H0 O2 ρ σ' H' ∧ Step O H1 O2 H' ∧ SPost G W O0 H0 O2 H' (fLoop tg mb (ds.drop (i + 1)) ρ) D, fun σ' H' q => ⟨ds.length - (i + 1), by omega, rfl, hlt, q⟩, fun x H3 y => ?_⟩
      obtain ⟨d, hd, s3, r3⟩ := hJ.yld i _ _ x H3 st2 f2.ag.dom hlt y
      have ed : ds.drop i = d :: ds.drop (i + 1) := by
        rw [List.drop_eq_getElem_cons hlt]
        rw [List.getElem?_eq_getElem hlt] at hd
        cases hd
        rfl
      rw [ed] at h2
      unfold fLoop at h2
      cases hb : tg.bind d ρ2 with
      | none => rw [hb] at h2; exact h2.elim
      | some ρ3 =>
        rw [hb] at h2
        dsimp only at h2
        refine g_bindS (f2.same s3) hb r3 fun σ' f' => ⟨ρ3, O0, H0, O2, f', ?_⟩
        have st3 : Step O H1 O2 H3 := st2.trans (Step.same s3)
        cases e3 : mb ρ3 with
        | nx ρ' =>
          rw [e3] at h2
          exact fun σ' H' O' f' t => ⟨ρ', O', f', st3.trans t, SPost.later ((Step.same s3).trans t) h2⟩
        | brk ρ' =>
          rw [e3] at h2
          exact fun σ' H' O' f' t => h2 σ' H' O' f' ((Step.same s3).trans t)
        | ret d fr => rw [e3] at h2; exact fun v H' s q => h2 v H' s q
        | exc c ρ' => rw [e3] at h2; exact fun σ' H' O' cv f t m => h2 σ' H' O' cv f ((Step.same s3).trans t) m
        | bad => rw [e3] at h2; exact h2
    · have e : i = ds.length := by omega
      subst e
      rw [List.drop_length] at h2
      exact .inl ⟨hJ.stop _ _ st2, h2 _ _ _ f2 (Step.refl _ _)⟩

/-! ### a list of one's own -/
theorem ownL_of {o : Out} (h : SPost G W O0 H0 O H (ownL ρ i o) D) : ∃ xs, ρ[i]? = some (Sl.own (.lst xs)) ∧ SPost G W O0 H0 O H o D := by
  unfold ownL at h
  split at h
  · rename_i xs e
    exact ⟨xs, e, h⟩
  · exact h.elim
theorem ownP_of {o : Out} (h : SPost G W O0 H0 O H (ownP ρ i o) D) : ((∃ xs, ρ[i]? = some (Sl.own (.lst xs))) ∨ (∃ kvs, ρ[i]? = some (Sl.own (.dct false kvs))) ∨ ∃ kvs, ρ[i]? = some (Sl.own (.dtn false kvs))) ∧ SPost G W O0 H0 O H o D := by
  unfold ownP at h
  split at h
  · rename_i xs e
    exact ⟨.inl ⟨xs, e⟩, h⟩
  · rename_i xs e
    exact ⟨.inr (.inl ⟨xs, e⟩), h⟩
  · rename_i xs e
    exact ⟨.inr (.inr ⟨xs, e⟩), h⟩
  · exact h.elim
theorem appS_own {xs ys : List DL.D} (e : ρ[i]? = some (Sl.own (.lst xs))) : appS ρ i ys = if xs.length + ys.length ≤ LIM then .nx (ρ.set i (.own (.lst (xs ++ ys)))) else .bad := by
  unfold appS
  rw [e]
/-- what stands in an owned list's slot -/
theorem Sf.lst {xs : List DL.D} (f : Sf G O0 H0 O ρ σ H) (e : ρ[i]? = some (Sl.own (.lst xs))) : ∃ a vs, σ[i]? = some (some (V.ref a)) ∧ O a ∧ H a = some (.lst vs) ∧ xs.length ≤ sizeLine ∧ Reps G O H xs vs := by
  obtain ⟨a, h1, h2, vs, h3, h4, h5⟩ := f.ag.own i _ e
  exact ⟨a, vs, h1, h2, h3, h4, h5⟩
/-- the list is another -/
theorem Sf.lset {xs ys : List DL.D} {us : List V} (f : Sf G O0 H0 O ρ σ H) (e : ρ[i]? = some (Sl.own (.lst xs))) (es : σ[i]? = some (some (V.ref a))) (hO : O a) (hl : ys.length ≤ sizeLine) (r : Reps G O H ys us) (h : SPost G W O0 H0 O H (.nx (ρ.set i (.own (.lst ys)))) D) : D.nx σ (upd H a (.lst us)) := by
  have st : Step O H O (upd H a (.lst us)) := fun b o q n => ⟨by rw [upd_ne fun z => n (by rw [z]; exact hO)]; exact q, n⟩
  obtain ⟨f', s'⟩ := f.change (o' := .lst us) (d' := .lst ys) e es hO ⟨us, upd_same, hl, r.step st⟩
  exact h σ _ O f' s'
end

section
variable {N : List Str} {st sc : Scope} {C : Ctx} {X : Cx} {W : WX} {pos : Pos} {x : Expr} {s : Stmt}
theorem c_setI {i : Nat} {o : Bool} {e : E} {te : TE} (hp : PS X s (tAsg te (gName i))) (hte : ∀ σ H Q, tE (gd X) W (ev C e) σ H Q → te σ H Q) : PS X s (tS (gd X) W (evS C (.set i o e))) := by
  refine hp.imp fun D σ H h => hte σ H _ ?_
  obtain ⟨ρ, O0, H0, O, f, h⟩ := h
  refine ⟨ρ, O, f.ag, (PF.out0 f h).mono fun v H' ⟨p, s, q, h'⟩ => ?_⟩
  show D.nx _ _
  obtain ⟨d, fr⟩ := p
  cases o with
  | false => exact h' _ _ _ ((f.same s).setV (q.rep f.ag.dom)) (Step.same s)
  | true =>
    cases fr with
    | false => exact h'.elim
    | true =>
      obtain ⟨a, rfl, hn, r⟩ := q
      exact h' _ _ _ (f.setO s hn r) fun b o x n => ⟨s _ _ x, fun z => z.elim n fun z => by rw [z, hn] at x; cases x⟩
theorem ck_name {N : List Str} {sc : Scope} {i : Nat} {t : Expr} (h : ckSet N sc i t = true) : ∃ n p, t = .Name n p ∧ N[i]? = some n ∧ locB sc n = true := by
  unfold ckSet at h
  split at h
  · rename_i n hn
    obtain ⟨p, rfl⟩ := asName_of hn
    obtain ⟨h1, h2⟩ := band2 h
    exact ⟨n, p, rfl, of_decide_eq_true h1, h2⟩
  · cases h
theorem fn_of (ok : XOk N st sc C X) {n : Str} (h : locB sc n = true) (h2 : locB st n = true) : X.fn n = true ∨ X.env.scope.names.lookup n = some .local := fn_of' ok h2
/-- name = e -/
theorem ps_setE (ok : XOk N sc sc C X) (tk : Takes X W) {i : Nat} {o : Bool} {e : E} {t v : Expr} (h1 : ckSet N sc i t = true) (h2 : ckE N C.inf sc e v = true) (h3 : isSwp v = false) : PS X (.Assign [t] v pos) (tS (gd X) W (evS C (.set i o e))) := by
  obtain ⟨n, p, rfl, hi, hl⟩ := ck_name h1
  exact c_setI (ps_set (by rw [ok.hN]; exact ok.nd) (by rw [ok.hN]; exact hi) (loc_of ok hl) (okE e v sc sc X ok tk h2) (swap_no h3) (fn_of ok hl hl)) fun _ _ _ q => q
theorem ps_setC (ok : XOk N sc sc C X) (tk : Takes X W) {i : Nat} {t elt : Expr} {g : List Comprehension} {scope : Scope} {q : Pos} (h1 : ckSet N sc i t = true) : ∀ (e : E), ckE N C.inf sc e (.ListComp elt g scope q) = true → ∃ te : TE, PS X (.Assign [t] (.ListComp elt g scope q) pos) (tAsg te (gName i)) ∧ ∀ σ H Q, tE (gd X) W (ev C e) σ H Q → te σ H Q
  | .lent is a, h2 => by
    obtain ⟨te, hp, ht⟩ := ps_setC ok tk h1 a h2
    refine ⟨te, hp, fun σ H Q h => ht σ H Q ?_⟩
    obtain ⟨ρ, O, A, h⟩ := h
    obtain ⟨O', g1, g2, A'⟩ := A.thaw (is := is)
    exact ⟨thaw is ρ, O', A', PF.lent g1 g2 A.dom h⟩
  | .comp tg it cnd el own, h2 => by
    obtain ⟨n, p, rfl, hi, hl⟩ := ck_name h1
    have hE := h2
    have h2 : (match asComp (.ListComp elt g scope q) with | some (e, t, i, ifs, sc') => blkC N sc sc' own && ckI N C.inf sc it i && itTg it t && tgB N sc' tg t && (match ifs with | [] => isYes cnd | [c] => ckT N C.inf (relS sc' sc) cnd c | _ => false) && ckE N C.inf (relS sc' sc) el e && tgIn tg (own.map (·.2)) | none => false) = true := h2
    cases hs : swB X.env.scope n p scope q with
    | false =>
      exact ⟨_, ps_set (by rw [ok.hN]; exact ok.nd) (by rw [ok.hN]; exact hi) (loc_of ok hl) (okE _ _ sc sc X ok tk hE) (by rw [swap_comp (by rw [ok.hs]; exact ok.kd), hs]) (fn_of ok hl hl), fun _ _ _ q => q⟩
    | true =>
      split at h2
      · rename_i e t i ifs sc' hn
        obtain ⟨p', hp'⟩ := asComp_of hn
        cases hp'
        obtain ⟨h1, h6⟩ := band2 h2
        obtain ⟨h1, h5⟩ := band2 h1
        obtain ⟨h1, h4⟩ := band2 h1
        obtain ⟨h1, h3⟩ := band2 h1
        obtain ⟨h1, h7⟩ := band2 h1
        obtain ⟨hb, h2⟩ := band2 h1
        obtain ⟨hv, hi'⟩ := okI it i sc sc X ok tk h2
        have hyl : X.env.scope.names.lookup n = some .local := by
          unfold swB at hs
          exact eq_of_beq (band2 (band2 hs).1).1
        have bo : BlkOk X.N X.env.scope sc' own := by rw [ok.hN, ok.hs]; exact blkOk_by hb
        refine ⟨_, ps_setLc (tt := tT (gd X) W0 (evT C cnd)) (te := tE (gd X) W0 (ev C el)) (g := gT X.K tg) ok.calm (by rw [ok.hN]; exact ok.nd) (by rw [ok.hN]; exact hi) hyl (by rw [swap_comp (by rw [ok.hs]; exact ok.kd), hs]) (hi' t h7) bo
          (fun s H Ca cl fp => g_ok (X := X.blk s H sc' (compEnvC sc' cl Ca X.env) fp) (ok.blk bo.kind) h3) (fun s H Ca cl fp => ?_) (fun s H Ca cl fp => okE el e sc' _ _ (ok.blk bo.kind) takes0 h5) (isVal_fold hv), fun σ H Q h => lc_read h6 h⟩
        cases ifs with
        | nil =>
          have := isYes_of h4
          subst this
          exact pts_nil.imp fun σ H Q q => by
            obtain ⟨ρ, O, A, q⟩ := q
            exact q H (Same.refl H)
        | cons c r =>
          cases r with
          | nil => exact pts_one (okT cnd c sc' (relS sc' sc) _ (ok.blk bo.kind) takes0 h4).1
          | cons _ _ => cases h4
      · cases h2
  | .var _, h2 => by cases h2
  | .lit _, h2 => by cases h2
  | .glb _, h2 => by cases h2
  | .bin _ _ _, h2 => by cases h2
  | .neg _, h2 => by cases h2
  | .not _, h2 => by cases h2
  | .and _ _, h2 => by cases h2
  | .or _ _, h2 => by cases h2
  | .cmp _ _ _, h2 => by cases h2
  | .chn _ _ _ _ _, h2 => by cases h2
  | .tup _, h2 => by cases h2
  | .lst _, h2 => by cases h2
  | .idx _ _, h2 => by cases h2
  | .slc _ _ _, h2 => by cases h2
  | .call _ _, h2 => by cases h2
  | .bf _ _, h2 => by cases h2
  | .isi _ _, h2 => by cases h2
  | .isc _ _, h2 => by cases h2
  | .isx _ _, h2 => by cases h2
  | .dnew, h2 => by cases h2
  | .dnewN, h2 => by cases h2
  | .any, h2 => ⟨tE (gd X) W fun _ => .bad, ⟨fun pins s σ H D I h => by obtain ⟨_, _, _, h⟩ := h; exact h.elim⟩, fun σ H Q q => q⟩
  | .dsp _ _, h2 => by cases h2
  | .get1 _ _, h2 => by cases h2
  | .get2 _ _ _, h2 => by cases h2
  | .join _ _, h2 => by cases h2
  | .fmt _, h2 => by cases h2
  | .fst _, h2 => by cases h2
  | .tix _ _, h2 => by cases h2
  | .maxd _ _, h2 => by cases h2
  | .sset _, h2 => by cases h2
  | .cald _ _, h2 => by cases h2
  | .mk _ _, h2 => by cases h2
  | .fld _ _, h2 => by cases h2
  | .mth _ _ _, h2 => by cases h2
  | .lok a, h2 => by
    have h2 : (ckE N C.inf sc a (.ListComp elt g scope q) && notLC (.ListComp elt g scope q)) = true := h2
    have := (band2 h2).2
    cases this
theorem c_unp (ok : XOk N sc sc C X) (tk : Takes X W) {is : List Nat} {e : E} {t v : Expr} (h0 : (match asTup t with | some _ => true | none => false) = true) (h1 : tgB N sc (.many is) t = true) (h2 : ckE N C.inf sc e v = true) (h3 : (asTup v).isNone = true) (h4 : (asLst v).isNone = true) : PS X (.Assign [t] v pos) (tS (gd X) W (evS C (.unp is e))) := by
  cases ht : asTup t with
  | none => rw [ht] at h0; cases h0
  | some es =>
    obtain ⟨k, py, rfl⟩ := asTup_of ht
    have hsw : swappedStores [.Tuple es k py] v X.env = pure none := by
      cases v <;> first | rfl | (cases h3; done) | (cases h4; done)
    refine (ps_asg (okE e v sc sc X ok tk h2) (g_ok ok h1) (swap_tup (es := es) (k := k) (p := py) (env := X.env) (l := pos.line)) hsw rfl).imp fun D σ H h => ?_
    obtain ⟨ρ, O0, H0, O, f, h⟩ := h
    refine ⟨ρ, O, f.ag, (PF.out0 f h).mono fun w H' ⟨p, s, q, h'⟩ => ?_⟩
    cases hb : Tg.bind (.many is) p.1 ρ with
    | none => rw [hb] at h'; exact h'.elim
    | some ρ' =>
      rw [hb] at h'
      exact g_bindS (G := gd X) (f.same s) hb (q.rep f.ag.dom) fun σ' f' => h' σ' H' O f' (Step.same s)
theorem c_exp {e : E} {v : Expr} (he : PE X v (tE (gd X) W (ev C e))) (h2 : isSwp v = false) : PS X (.Expr v pos) (tS (gd X) W (evS C (.exp e))) := by
  refine (ps_expr he (swap_no h2)).imp fun D σ H h => ?_
  obtain ⟨ρ, O0, H0, O, f, h⟩ := h
  exact ⟨ρ, O, f.ag, (PF.out0 f h).mono fun w H' ⟨p, s, q, h'⟩ => h' σ H' O (f.same s) (Step.same s)⟩
theorem pv_name (ok : XOk N st sc C X) {i : Nat} {n : Str} {p : Pos} (h1 : N[i]? = some n) (h2 : visB sc n = true) (h3 : nmB n = true) : PE X (.Name n p) (tVar i) := by
  obtain ⟨q1, q2, _⟩ := nmB_of h3
  exact pe_var (i := i) (x := n) (by rw [ok.hN]; exact h1) (by rw [ok.hs]; exact visB_of h2) q1 q2
theorem few1 {a : Expr} {X : Cx} {cpos : Pos} (h : isVal a = true) : ((backTo cpos (starEach [a] X.env)).all (fun x => !x.1) && (backToKw cpos (keywordEach [] X.env)).all (fun x => x.1.isSome)
      && decide ([a].length + ([] : List Keyword).length + (if ([] : List Keyword).isEmpty then 0 else 1) < 30)) = true := by
  rw [isVal_star h]
  rfl
theorem c_app (ok : XOk N sc sc C X) {i : Nat} {n : Str} {e : E} {a : Expr} {q ap cp : Pos} (h1 : N[i]? = some n) (h2 : visB sc n = true) (h3 : nmB n = true) (hv : isVal a = true) (he : PE X a (tE (gd X) W (ev C e))) (hl : (ap.endLine == cp.line) = true) :
    PS X (.Expr (.Call (.Attribute (.Name n q) "append" ap) [a] [] cp) pos) (tS (gd X) W (evS C (.app i e))) := by
  refine (ps_expr (pe_bm PySem.F.plainAttrs_list PySem.F.slot_list_append rfl mt_append (pv_name ok h1 h2 h3) (pa_cons he pa_nil (isVal_star hv)) rfl (few1 hv) hl (isVal_star hv) rfl) rfl).imp fun D σ H h => ?_
  obtain ⟨ρ, O0, H0, O, f, h⟩ := h
  obtain ⟨xs, e1, h⟩ := ownL_of h
  obtain ⟨b, vs, e2, hO, e3, hz, r⟩ := f.lst e1
  refine ⟨_, e2, .inl ⟨rfl, vs, .inl (.inl e3)⟩, ρ, O, f.ag, (PF.out0 f h).mono fun w H' ⟨p, s, q, h'⟩ => ?_⟩
  rw [appS_own e1] at h'
  split at h'
  · rename_i hL
    rw [limE] at hL
    have hL : xs.length + 1 ≤ sizeLine := hL
    refine ⟨b, vs, w, rfl, rfl, s _ _ e3, by rw [r.length]; omega, ?_⟩
    exact (f.same s).lset (W := W) e1 e2 hO (by rw [List.length_append]; exact hL) ((r.same s).append (show Reps (gd X) O H' [p.1] [w] from ⟨w, [], rfl, q.rep f.ag.dom, rfl⟩)) (SPost.later (Step.same s) h')
  · exact h'.elim
def rExtendR : V → List V → Hp → VK → Prop := fun x vs H Q => ∃ l b xs zs, x = .ref l ∧ vs = [.ref b] ∧ H l = some (.lst xs) ∧ Rd H b (.lst zs) ∧ xs.length + zs.length ≤ sizeLine ∧ Q .non (upd H l (.lst (xs ++ zs)))
theorem lstR {pins : List (Addr × Obj)} {σ : L2.St} {H : Hp} {s : Shared} {l : Addr} {xs : List V} (I : Inv X pins σ H s) (hH : Rd H l (.lst xs)) : xs.length ≤ sizeLine ∧ ∃ (its : List Value) (n : Nat), Vals xs its ∧ xs.length = its.length ∧ s.heap.get? l = some { cls := .type "list", data := .seq its.toArray n } := by
  obtain ⟨z, its, n, r, e⟩ := hH.ok I.hok
  exact ⟨z, its, n, r, r.length, e⟩
theorem mt_extendR : MtM X "list.extend" rExtendR := by
  intro pins s σ H x vs v us Q I rx rv h
  obtain ⟨l, b, xs, zs, rfl, rfl, hH, hB, hz, q⟩ := h
  cases rx
  obtain ⟨u, rfl, ru⟩ := rv.one
  cases ru
  obtain ⟨z, its, n, r, hl, e⟩ := I.lstM hH
  obtain ⟨z2, its2, n2, r2, hl2, e2⟩ := lstR I hB
  have hsz : its.toArray.size + its2.toArray.size ≤ sizeLine := by rw [List.size_toArray, List.size_toArray]; omega
  have hlong : ¬ (!its.toArray.isEmpty && Builtin.List.listTooLong (its.toArray.size + its2.toArray.size)) = true := by
    rw [notLongL hsz, Bool.and_false]
    exact Bool.false_ne_true
  refine call_meets PySem.F.slot_list_extend ⟨_, e, rfl⟩ PySem.F.entry_list_extend (PySem.F.args_list_extend_2 _ _)
    (AutoSeq1.list_extend_list_list_0 l its.toArray n b its2.toArray n2 hlong (by rw [List.size_toArray]; omega) (by omega)) ⟨e, e2, ?_⟩
  refine ⟨.non, _, I.lset (its' := its ++ its2) hH e (by simp) (r.append r2) ?_, rfl, q⟩
  rw [List.length_append]
  omega
theorem c_ext (ok : XOk N sc sc C X) {i : Nat} {n : Str} {e : E} {a : Expr} {q ap cp : Pos} (h1 : N[i]? = some n) (h2 : visB sc n = true) (h3 : nmB n = true) (hv : isVal a = true) (he : PE X a (tE (gd X) W (ev C e))) (hl : (ap.endLine == cp.line) = true) :
    PS X (.Expr (.Call (.Attribute (.Name n q) "extend" ap) [a] [] cp) pos) (tS (gd X) W (evS C (.ext i e))) := by
  refine (ps_expr (pe_bm PySem.F.plainAttrs_list PySem.F.slot_list_extend rfl mt_extendR (pv_name ok h1 h2 h3) (pa_cons he pa_nil (isVal_star hv)) rfl (few1 hv) hl (isVal_star hv) rfl) rfl).imp fun D σ H h => ?_
  obtain ⟨ρ, O0, H0, O, f, h⟩ := h
  obtain ⟨xs, e1, h⟩ := ownL_of h
  obtain ⟨b, vs, e2, hO, e3, hz, r⟩ := f.lst e1
  refine ⟨_, e2, .inl ⟨rfl, vs, .inl (.inl e3)⟩, ρ, O, f.ag, (PF.out0 f h).mono fun w H' ⟨p, s, q, h'⟩ => ?_⟩
  have rp := q.rep f.ag.dom
  obtain ⟨d, fr⟩ := p
  cases d with
  | lst ys =>
    dsimp only at h'
    rw [appS_own e1] at h'
    split at h'
    · rename_i hL
      rw [limE] at hL
      obtain ⟨c, ws, rfl, ⟨hc, _⟩, hc2, rc⟩ := rp
      refine ⟨b, c, vs, ws, rfl, rfl, s _ _ e3, hc, by rw [r.length, rc.length]; exact hL, ?_⟩
      exact (f.same s).lset (W := W) e1 e2 hO (by rw [List.length_append]; exact hL) ((r.same s).append rc) (SPost.later (Step.same s) h')
    · exact h'.elim
  | _ => exact h'.elim
theorem PSet.or {r r' : TSet} (h : PSet X r) (h' : PSet X r') : PSet X (fun o i v H Q => r o i v H Q ∨ r' o i v H Q) := by
  intro pins s σ H o i v ov iv u Q I ro ri rv q
  rcases q with q | q
  · exact h pins s σ H o i v ov iv u Q I ro ri rv q
  · exact h' pins s σ H o i v ov iv u Q I ro ri rv q
/-- the dict is another -/
theorem Sf.dset {G : Gd} {W : WX} {O0 O : Own} {H0 H : Hp} {ρ : List Sl} {σ : L2.St} {D : Ends} {i : Nat} {a : Addr} {kvs kvs' : List (Key × DL.D)} {us : List (Key × V)} (f : Sf G O0 H0 O ρ σ H) (e : ρ[i]? = some (Sl.own (.dct false kvs))) (es : σ[i]? = some (some (V.ref a))) (hO : O a) (hl : kvs'.length ≤ sizeLine) (r : RepK G O H kvs' us) (kl : ∀ kv ∈ kvs', ∀ x, kv.1 = Sum.inr x → x.length ≤ sizeLine) (h : SPost G W O0 H0 O H (.nx (ρ.set i (.own (.dct false kvs')))) D) : D.nx σ (upd H a (.dK us)) := by
  have st : Step O H O (upd H a (.dK us)) := fun b o q n => ⟨by rw [upd_ne fun z => n (by rw [z]; exact hO)]; exact q, n⟩
  obtain ⟨f', s'⟩ := f.change (o' := .dK us) (d' := .dct false kvs') e es hO ⟨us, upd_same, hl, RepK.ext st _ _ r, kl⟩
  exact h σ _ O f' s'
theorem putKD_key {kvs : List (Key × DL.D)} {k : Key} {d : DL.D} {n : Nat} (h : ∀ kv ∈ kvs, ∀ x, kv.1 = Sum.inr x → x.length ≤ n) (hk : ∀ x, k = Sum.inr x → x.length ≤ n) : ∀ kv ∈ putKD kvs k d, ∀ x, kv.1 = Sum.inr x → x.length ≤ n := by
  intro kv m x e
  unfold putKD at m
  split at m
  · obtain ⟨kv', m1, m2⟩ := List.mem_map.mp m
    by_cases z : kv'.1 = k
    · rw [if_pos z] at m2; subst m2; exact h _ m1 x e
    · rw [if_neg z] at m2; subst m2; exact h _ m1 x e
  · rcases List.mem_append.mp m with m | m
    · exact h _ m x e
    · rw [List.mem_singleton] at m; subst m; exact hk x e
/-- o[i] = v of a dict with nested keys -/
def rSetN (G : Gd) : TSet := fun o i v H Q => ∃ a xs O kvs d, o = .ref a ∧ H a = some (DN G.w a xs) ∧ RepN G O H kvs xs ∧ okN kvs d = true ∧ kvs.length < sizeLine ∧ Rep G O H d i ∧ ∀ n b, keyN d = some n → i = .ref b → Q (upd H a (DN G.w a (putX xs n b v)))
theorem set_dictN (hu : X.A.units + 64 < cLine) : PSet X (rSetN (gd X)) := by
  intro pins s σ H o i v ov iv u Q I ro ri rv h
  obtain ⟨a, xs, O, kvs, d, rfl, h1, h2, h3, h4, h5, q⟩ := h
  cases (show ov = Value.ref a from ro)
  exact d_setN (by omega) I h1 h2 h3 h4 h5 ri rv fun n b s' e1 e2 I' => ⟨_, I', q n b e1 e2⟩
theorem c_put (ok : XOk N sc sc C X) {i : Nat} {n : Str} {k e : E} {ix v : Expr} {q tp : Pos} (h1 : N[i]? = some n) (h2 : visB sc n = true) (h3 : nmB n = true) (hv : isVal ix = true) (hk : PE X ix (tE (gd X) W (ev C k))) (he : PE X v (tE (gd X) W (ev C e))) (hs : isSwp v = false) :
    PS X (.Assign [.Subscript (.Name n q) ix tp] v pos) (tS (gd X) W (evS C (.put i k e))) := by
  have hsw : swappedStores [.Subscript (.Name n q) ix tp] v X.env = pure none := by cases v <;> rfl
  have hss : swapsWithSole [.Subscript (.Name n q) ix tp] v pos.line X.env = pure false := by
    cases v <;> first | rfl | (cases hs; done)
  have ha : ∀ u, assign (.Subscript (.Name n q) ix tp) X.env u = (do
      let ov ← holding [u] (eval (.Name n q) X.env)
      let iv ← holding [u, ov] (eval ix X.env)
      standAt tp
      holding [u, ov, iv] (setItem ov iv u)
      release [u, ov, iv] []) := by
    intro u
    cases ix <;> first | (cases hv; done) | rfl
  refine (ps_asg he (pg_sub (pv_name ok h1 h2 h3) hk (PSet.or set_list (PSet.or (set_dict (by have := ok.un; omega)) (set_dictN ok.un))) ha) hss hsw rfl).imp fun D σ H h => ?_
  obtain ⟨ρ, O0, H0, O, f, h⟩ := h
  obtain ⟨e1, h⟩ := ownP_of h
  rcases e1 with ⟨xs, e1⟩ | ⟨kvs, e1⟩ | ⟨kvs, e1⟩
  · obtain ⟨b, vs, e2, hO, e3, hz, r⟩ := f.lst e1
    refine ⟨ρ, O, f.ag, (PF.out0 f h).mono fun w H' ⟨p, s, q, h'⟩ => ⟨_, e2, ρ, O, f.ag.same s, (PF.out0 (f.same s) (SPost.later (Step.same s) h')).mono fun y H2 ⟨p2, s2, q2, h2⟩ => ?_⟩⟩
    have r2 := q2.rep (f.ag.dom.same s)
    obtain ⟨d, fr⟩ := p2
    dsimp only at h2
    unfold putS at h2
    rw [e1] at h2
    cases d with
    | int j =>
      cases r2
      dsimp only at h2
      cases hj : ixN xs.length j with
      | none => rw [hj] at h2; exact h2.elim
      | some m =>
        rw [hj] at h2
        refine .inl ⟨b, vs, j, m, rfl, rfl, s2 _ _ (s _ _ e3), by rw [r.length]; exact hj, ?_⟩
        exact ((f.same s).same s2).lset (W := W) e1 e2 hO (by rw [List.length_set]; exact hz) (((r.same s).same s2).set m ((q.rep f.ag.dom).same s2)) (SPost.later (Step.same s2) h2)
    | _ => exact h2.elim
  · obtain ⟨b, e2, hO, vs, e3, hz, r, kl⟩ := f.ag.own i _ e1
    refine ⟨ρ, O, f.ag, (PF.out0 f h).mono fun w H' ⟨p, s, q, h'⟩ => ⟨_, e2, ρ, O, f.ag.same s, (PF.out0 (f.same s) (SPost.later (Step.same s) h')).mono fun y H2 ⟨p2, s2, q2, h2⟩ => ?_⟩⟩
    have r2 := q2.rep (f.ag.dom.same s)
    obtain ⟨d, fr⟩ := p2
    dsimp only at h2
    unfold putS at h2
    rw [e1] at h2
    dsimp only at h2
    cases hk' : keyOf d with
    | none => rw [hk'] at h2; exact h2.elim
    | some k' =>
      rw [hk'] at h2
      dsimp only at h2
      split at h2
      · rename_i hL
        rw [limE] at hL
        have ey := key_V r2 hk'
        subst ey
        have r' : RepK (gd X) O H2 kvs vs := RepK.ext (fun a o x n => ⟨s2 _ _ (s a o x), n⟩) _ _ r
        refine .inr (.inl ⟨b, _, rfl, DPut.k (s2 _ _ (s _ _ e3)) (by rw [r.length]; exact hL.1), ?_⟩)
        refine ((f.same s).same s2).dset (W := W) e1 e2 hO (Nat.le_trans putKD_length hL.1) (r'.put ((q.rep f.ag.dom).same s2)) (putKD_key kl fun x hx => ?_) (SPost.later (Step.same s2) h2)
        subst hx
        have := of_decide_eq_true hL.2
        rwa [limE] at this
      · exact h2.elim
  · obtain ⟨b, e2, hO, vs, e3, hz, r⟩ := f.ag.own i _ e1
    refine ⟨ρ, O, f.ag, (PF.out0 f h).mono fun w H' ⟨p, s, q, h'⟩ => ⟨_, e2, ρ, O, f.ag.same s, (PF.out0 (f.same s) (SPost.later (Step.same s) h')).mono fun y H2 ⟨p2, s2, q2, h2⟩ => ?_⟩⟩
    have r2 := q2.rep (f.ag.dom.same s)
    obtain ⟨d, fr⟩ := p2
    dsimp only at h2
    have h2 : SPost (gd X) W O0 H0 O H' (if okN kvs d = true ∧ kvs.length < LIM then .nx (ρ.set i (.own (.dtn false (putN kvs d p.1)))) else .bad) D := by
      unfold putS at h2
      rw [e1] at h2
      cases d <;> exact h2
    split at h2
    · rename_i hL
      rw [limE] at hL
      have r' : RepN (gd X) O H2 kvs vs := RepN.ext (fun a o x n => ⟨s2 _ _ (s a o x), n⟩) _ _ r
      refine .inr (.inr ⟨b, vs, O, kvs, d, rfl, s2 _ _ (s _ _ e3), r', hL.1, hL.2, r2, fun n c k1 k2 => ?_⟩)
      subst k2
      have fs := (f.same s).same s2
      have st : Step O H2 O (upd H2 b (DN X.w b (putX vs n c w))) := fun b' o q n => ⟨by rw [upd_ne fun z => n (by rw [z]; exact hO)]; exact q, n⟩
      have rw' : Rep (gd X) O H2 p.1 w := (q.rep f.ag.dom).same s2
      obtain ⟨f', s'⟩ := fs.change (o' := DN X.w b (putX vs n c w)) (d' := .dtn false (putN kvs d p.1)) e1 e2 hO ⟨_, upd_same, Nat.le_trans putN_length hL.2, RepN.ext st _ _ (repN_put k1 r2 rw' r')⟩
      exact SPost.later (Step.same s2) h2 _ _ O f' s'
    · exact h2.elim
theorem c_clr (ok : XOk N sc sc C X) {i : Nat} {n : Str} {q ap cp : Pos} (h1 : N[i]? = some n) (h2 : visB sc n = true) (h3 : nmB n = true) (hl : (ap.endLine == cp.line) = true) :
    PS X (.Expr (.Call (.Attribute (.Name n q) "clear" ap) [] [] cp) pos) (tS (gd X) W (evS C (.clr i))) := by
  refine (ps_expr (pe_bm0 PySem.F.plainAttrs_list PySem.F.slot_list_clear rfl mt_clear (pv_name ok h1 h2 h3) rfl hl) rfl).imp fun D σ H h => ?_
  obtain ⟨ρ, O0, H0, O, f, h⟩ := h
  unfold evS at h
  split at h
  · rename_i xs e1
    obtain ⟨b, vs, e2, hO, e3, hz, r⟩ := f.lst e1
    refine ⟨_, e2, .inl ⟨rfl, vs, .inl (.inl e3)⟩, b, vs, rfl, rfl, e3, ?_⟩
    exact f.lset (W := W) (ys := []) (us := []) e1 e2 hO (Nat.zero_le _) rfl h
  · exact h.elim
theorem ownD_of {G : Gd} {W : WX} {O0 O : Own} {H0 H : Hp} {ρ : List Sl} {i : Nat} {D : Ends} {o : Out} (h : SPost G W O0 H0 O H (ownD ρ i o) D) : ∃ kvs, ρ[i]? = some (Sl.own (.dct false kvs)) ∧ SPost G W O0 H0 O H o D := by
  unfold ownD at h
  split at h
  · rename_i xs e
    exact ⟨xs, e, h⟩
  · exact h.elim
theorem set_same {α : Type} {xs : List α} {i : Nat} {x : α} (h : xs[i]? = some x) : xs.set i x = xs := by
  apply List.ext_getElem?
  intro j
  by_cases e : i = j
  · subst e
    rw [List.getElem?_set_self (List.getElem?_eq_some_iff.mp h).1, h]
  · rw [List.getElem?_set_ne e]
theorem RepK.drop {G : Gd} {O : Addr → Prop} {H : Hp} {k : Key} : ∀ {kvs : List (Key × DL.D)} {ws : List (Key × V)}, RepK G O H kvs ws → RepK G O H (dropKD kvs k) (L2.dropK ws k)
  | [], _, rfl => rfl
  | (j, d) :: kvs, _, ⟨v, s, rfl, h1, h2⟩ => by
    have ih := RepK.drop (k := k) h2
    unfold dropKD L2.dropK at ih ⊢
    by_cases e : j = k
    · rw [List.filter_cons_of_neg (by simpa using e), List.filter_cons_of_neg (by simpa using e)]
      exact ih
    · rw [List.filter_cons_of_pos (by simpa using e), List.filter_cons_of_pos (by simpa using e)]
      exact ⟨v, _, rfl, h1, ih⟩
theorem dropKD_none {k : Key} : ∀ {kvs : List (Key × DL.D)}, (kvs.find? fun kv => decide (kv.1 = k)) = none → dropKD kvs k = kvs
  | [], _ => rfl
  | (j, d) :: kvs, h => by
    by_cases e : j = k
    · rw [List.find?_cons_of_pos (by simpa using e)] at h; cases h
    · rw [List.find?_cons_of_neg (by simpa using e)] at h
      unfold dropKD
      rw [List.filter_cons_of_pos (by simpa using e)]
      have := dropKD_none h
      unfold dropKD at this
      rw [this]
theorem dropKD_mem {kvs : List (Key × DL.D)} {k : Key} {kv : Key × DL.D} (h : kv ∈ dropKD kvs k) : kv ∈ kvs := (List.mem_filter.mp h).1
theorem c_pop2 (ok : XOk N sc sc C X) {i : Nat} {n : Str} {k d : E} {a b : Expr} {q ap cp : Pos} (h1 : N[i]? = some n) (h2 : visB sc n = true) (h3 : nmB n = true) (hv : isVal a = true) (hv2 : isVal b = true) (hk : PE X a (tE (gd X) W (ev C k))) (hd : PE X b (tE (gd X) W (ev C d))) (hl : (ap.endLine == cp.line) = true) :
    PS X (.Expr (.Call (.Attribute (.Name n q) "pop" ap) [a, b] [] cp) pos) (tS (gd X) W (evS C (.pop2 i k d))) := by
  refine (ps_expr (pe_dpop2 (pv_name ok h1 h2 h3) hk hd ⟨rfl, few2' hv hv2, hl, by rw [isVal_star hv, isVal_star hv2]; rfl⟩) rfl).imp fun D σ H h => ?_
  obtain ⟨ρ, O0, H0, O, f, h⟩ := h
  obtain ⟨kvs, e1, h⟩ := ownD_of h
  obtain ⟨b, e2, hO, vs, e3, hz, r, kl⟩ := f.ag.own i _ e1
  refine ⟨_, e2, b, rfl, .inl ⟨vs, .inl e3⟩, ρ, O, f.ag, (PF.out0 f h).mono fun w H' ⟨p, s, q, h'⟩ => ⟨ρ, O, f.ag.same s, (PF.out0 (f.same s) (SPost.later (Step.same s) h')).mono fun y H2 ⟨p2, s2, q2, h2⟩ => ?_⟩⟩
  have r1 := q.rep f.ag.dom
  obtain ⟨d, fr⟩ := p
  dsimp only at h2
  unfold popS at h2
  rw [e1] at h2
  dsimp only at h2
  cases hk' : keyOf d with
  | none => rw [hk'] at h2; exact h2.elim
  | some k' =>
    rw [hk'] at h2
    dsimp only at h2
    have ey := key_V r1 hk'
    subst ey
    have r' : RepK (gd X) O H2 kvs vs := RepK.ext (fun a o x n => ⟨s2 _ _ (s a o x), n⟩) _ _ r
    have f2 := (f.same s).same s2
    have e4 := s2 _ _ (s _ _ e3)
    refine ⟨vs, k', e4, rfl, fun v _ => ?_, fun hn => ?_⟩
    · exact f2.dset (W := W) e1 e2 hO (Nat.le_trans (List.length_filter_le _ _) hz) r'.drop (fun kv m => kl kv (dropKD_mem m)) (SPost.later (Step.same s2) h2)
    · rcases r'.get (k := k') with ⟨_, g2⟩ | ⟨v, d', g1, _⟩
      · rw [dropKD_none g2, set_same e1] at h2
        exact SPost.later (Step.same s2) h2 σ H2 O f2 (Step.refl _ _)
      · rw [hn] at g1; cases g1
theorem c_pop1 (ok : XOk N sc sc C X) {i : Nat} {n : Str} {k : E} {a : Expr} {q ap cp : Pos} (h1 : N[i]? = some n) (h2 : visB sc n = true) (h3 : nmB n = true) (hv : isVal a = true) (hk : PE X a (tE (gd X) W (ev C k))) (hl : (ap.endLine == cp.line) = true) :
    PS X (.Expr (.Call (.Attribute (.Name n q) "pop" ap) [a] [] cp) pos) (tS (gd X) W (evS C (.pop1 none i k))) := by
  refine (ps_expr (pe_dpop1 (pv_name ok h1 h2 h3) hk ⟨rfl, few1 hv, hl, by rw [isVal_star hv]; rfl⟩) rfl).imp fun D σ H h => ?_
  obtain ⟨ρ, O0, H0, O, f, h⟩ := h
  obtain ⟨kvs, e1, h⟩ := ownD_of h
  obtain ⟨b, e2, hO, vs, e3, hz, r, kl⟩ := f.ag.own i _ e1
  refine ⟨_, e2, b, rfl, .inl ⟨vs, .inl e3⟩, ρ, O, f.ag, (PF.out0 f h).mono fun w H' ⟨p, s, q, h'⟩ => ?_⟩
  have r1 := q.rep f.ag.dom
  obtain ⟨d, fr⟩ := p
  dsimp only at h'
  unfold popV at h'
  rw [e1] at h'
  dsimp only at h'
  cases hk' : keyOf d with
  | none => rw [hk'] at h'; exact h'.elim
  | some k' =>
    rw [hk'] at h'
    dsimp only at h'
    have ey := key_V r1 hk'
    subst ey
    have r' : RepK (gd X) O H' kvs vs := RepK.ext (fun a o x n => ⟨s a o x, n⟩) _ _ r
    rcases r'.get (k := k') with ⟨_, g2⟩ | ⟨v, d', g1, g2, g3⟩
    · unfold lookKD at h'
      rw [g2] at h'
      exact h'.elim
    · unfold lookKD at h'
      rw [g2] at h'
      have h' : SPost _ _ _ _ _ _ (if flat d' = true then Out.nx (ρ.set i (.own (.dct false (dropKD kvs k')))) else .bad) _ := h'
      split at h'
      · exact ⟨vs, k', v, s _ _ e3, rfl, g1, (f.same s).dset (W := W) e1 e2 hO (Nat.le_trans (List.length_filter_le _ _) hz) r'.drop (fun kv m => kl kv (dropKD_mem m)) (SPost.later (Step.same s) h')⟩
      · exact h'.elim
theorem flat_rep {G : Gd} {O O' : Own} {H H' : Hp} {d : DL.D} {v : V} (h : flat d = true) (r : Rep G O H d v) : Rep G O' H' d v := by
  cases d <;> first | (cases h; done) | exact r
theorem c_pop1V (ok : XOk N sc sc C X) {i j : Nat} {n : Str} {k : E} {a t : Expr} {q ap cp : Pos} (ht : ckSet N sc j t = true) (h1 : N[i]? = some n) (h2 : visB sc n = true) (h3 : nmB n = true) (hv : isVal a = true) (hk : PE X a (tE (gd X) W (ev C k))) (hl : (ap.endLine == cp.line) = true) :
    PS X (.Assign [t] (.Call (.Attribute (.Name n q) "pop" ap) [a] [] cp) pos) (tS (gd X) W (evS C (.pop1 (some j) i k))) := by
  obtain ⟨n', p', rfl, hj, hl'⟩ := ck_name ht
  refine (ps_set (by rw [ok.hN]; exact ok.nd) (by rw [ok.hN]; exact hj) (loc_of ok hl') (pe_dpop1 (pv_name ok h1 h2 h3) hk ⟨rfl, few1 hv, hl, by rw [isVal_star hv]; rfl⟩) (swap_no rfl) (fn_of ok hl' hl')).imp fun D σ H h => ?_
  obtain ⟨ρ, O0, H0, O, f, h⟩ := h
  obtain ⟨kvs, e1, h⟩ := ownD_of h
  obtain ⟨b, e2, hO, vs, e3, hz, r, kl⟩ := f.ag.own i _ e1
  refine ⟨_, e2, b, rfl, .inl ⟨vs, .inl e3⟩, ρ, O, f.ag, (PF.out0 f h).mono fun w H' ⟨p, s, q, h'⟩ => ?_⟩
  have r1 := q.rep f.ag.dom
  obtain ⟨d, fr⟩ := p
  dsimp only at h'
  unfold popV at h'
  rw [e1] at h'
  dsimp only at h'
  cases hk' : keyOf d with
  | none => rw [hk'] at h'; exact h'.elim
  | some k' =>
    rw [hk'] at h'
    dsimp only at h'
    have ey := key_V r1 hk'
    subst ey
    have r' : RepK (gd X) O H' kvs vs := RepK.ext (fun a o x n => ⟨s a o x, n⟩) _ _ r
    rcases r'.get (k := k') with ⟨_, g2⟩ | ⟨v, d', g1, g2, g3⟩
    · unfold lookKD at h'
      rw [g2] at h'
      exact h'.elim
    · unfold lookKD at h'
      rw [g2] at h'
      have h' : SPost _ _ _ _ _ _ (if flat d' = true then Out.nx ((ρ.set i (.own (.dct false (dropKD kvs k')))).set j (.val d')) else .bad) _ := h'
      split at h'
      · rename_i hf
        refine ⟨vs, k', v, s _ _ e3, rfl, g1, ?_⟩
        show D.nx _ _
        have f2 := f.same s
        have st : Step O H' O (upd H' b (.dK (L2.dropK vs k'))) := fun b' o q n => ⟨by rw [upd_ne fun z => n (by rw [z]; exact hO)]; exact q, n⟩
        obtain ⟨f', s'⟩ := f2.change (o' := .dK (L2.dropK vs k')) (d' := .dct false (dropKD kvs k')) e1 e2 hO ⟨_, upd_same, Nat.le_trans (List.length_filter_le _ _) hz, RepK.ext st _ _ r'.drop, fun kv m => kl kv (dropKD_mem m)⟩
        exact SPost.later (Step.same s) h' _ _ O (f'.setV (flat_rep hf g3)) s'
      · exact h'.elim
/-- a dict takes another one in -/
def rDUpd : V → List V → Hp → VK → Prop := fun x vs H Q => ∃ a b kvs ls, x = .ref a ∧ vs = [.ref b] ∧ H a = some (.dK kvs) ∧ Rd H b (.dK ls) ∧ a ≠ b ∧ kvs.length + ls.length ≤ sizeLine ∧ Q .non (upd H a (.dK (L2.mergeK kvs ls)))
theorem mt_dupd : MtR X "dict.update" rDUpd := by
  intro pins s σ H x vs v us Q I rx rv h
  obtain ⟨a, b, kvs, ls, rfl, rfl, ea, eb, hab, hsz, q⟩ := h
  cases rx
  obtain ⟨u, rfl, ru⟩ := rv.one
  cases ru
  obtain ⟨z, hd, va, ra, da⟩ := dk_of I.hok ea
  obtain ⟨z2, hd2, vb, rb, db⟩ := dk_rd I.hok eb
  refine call_meetsIn PySem.F.slot_dict_update da.typeIs PySem.F.entry_dict_update (PySem.F.args_dict_update_2 _ _) (meets_dict_update (mixKind X.prog X.w) a b hab hd2)
    ⟨va, vb, da, db, by rw [← ra.length, ← rb.length]; exact hsz, fun h' dd' _ hs => ?_⟩
  have he : ∃ q, h'.get? a = some q := let ⟨q, _, _, hq, _⟩ := dd'; ⟨q, hq⟩
  exact ⟨.non, _, d_write I (by rw [ea]; exact True.intro) hs he (dk_new (Nat.le_trans (length_mergeK ls kvs) hsz) hd (rb.merge ra) dd'), rfl, q⟩
theorem RepK.merge {G : Gd} {O : Addr → Prop} {H : Hp} : ∀ {ls : List (Key × DL.D)} {us : List (Key × V)} {kvs : List (Key × DL.D)} {ws : List (Key × V)}, RepK G O H ls us → RepK G O H kvs ws → RepK G O H (mergeKD kvs ls) (L2.mergeK ws us)
  | [], _, _, _, rfl, r => r
  | (k, d) :: ls, _, kvs, ws, ⟨v, s, rfl, h1, h2⟩, r => RepK.merge (ls := ls) (us := s) (kvs := putKD kvs k d) (ws := L2.putK ws k v) h2 (r.put h1)
theorem mergeKD_length : ∀ (ls kvs : List (Key × DL.D)), (mergeKD kvs ls).length ≤ kvs.length + ls.length
  | [], kvs => Nat.le_refl _
  | (k, d) :: ls, kvs => by
    have h1 := mergeKD_length ls (putKD kvs k d)
    have h2 : (putKD kvs k d).length ≤ kvs.length + 1 := putKD_length
    show (mergeKD (putKD kvs k d) ls).length ≤ _
    rw [List.length_cons]; omega
theorem mergeKD_key {n : Nat} : ∀ {ls kvs : List (Key × DL.D)}, (∀ kv ∈ kvs, ∀ x, kv.1 = Sum.inr x → x.length ≤ n) → (∀ kv ∈ ls, ∀ x, kv.1 = Sum.inr x → x.length ≤ n) → ∀ kv ∈ mergeKD kvs ls, ∀ x, kv.1 = Sum.inr x → x.length ≤ n
  | [], kvs, h, _ => h
  | (k, d) :: ls, kvs, h, h' => mergeKD_key (ls := ls) (putKD_key h fun x hx => h' (k, d) List.mem_cons_self x hx) fun kv m => h' kv (List.mem_cons_of_mem _ m)
theorem c_upd (ok : XOk N sc sc C X) {i : Nat} {n : Str} {e : E} {a : Expr} {q ap cp : Pos} (h1 : N[i]? = some n) (h2 : visB sc n = true) (h3 : nmB n = true) (hv : isVal a = true) (he : PE X a (tE (gd X) W (ev C e))) (hl : (ap.endLine == cp.line) = true) :
    PS X (.Expr (.Call (.Attribute (.Name n q) "update" ap) [a] [] cp) pos) (tS (gd X) W (evS C (.upd i e))) := by
  refine (ps_expr (pe_bm PySem.F.plainAttrs_dict PySem.F.slot_dict_update rfl mt_dupd (pv_name ok h1 h2 h3) (pa_cons he pa_nil (isVal_star hv)) rfl (few1 hv) hl (isVal_star hv) rfl) rfl).imp fun D σ H h => ?_
  obtain ⟨ρ, O0, H0, O, f, h⟩ := h
  obtain ⟨kvs, e1, h⟩ := ownD_of h
  obtain ⟨b, e2, hO, vs, e3, hz, r, kl⟩ := f.ag.own i _ e1
  refine ⟨_, e2, .inr (.inr (.inl ⟨rfl, .inl ⟨vs, e3⟩⟩)), ρ, O, f.ag, (PF.out0 f h).mono fun w H' ⟨p, s, q, h'⟩ => ?_⟩
  have rp := q.rep f.ag.dom
  obtain ⟨d, fr⟩ := p
  dsimp only at h'
  unfold updS at h'
  rw [e1] at h'
  dsimp only at h'
  cases d with
  | dct lk ls =>
    cases lk with
    | false => exact h'.elim
    | true =>
      dsimp only at h'
      split at h'
      · rename_i hL
        rw [limE] at hL
        obtain ⟨c, ws, rfl, ⟨k1, kn⟩, k2, k3, k4⟩ := rp
        obtain ⟨o, k1⟩ := k1
        have e4 := s _ _ e3
        have hbc : b ≠ c := fun z => by
          subst z
          rw [e4] at k1
          cases k1
        have r' : RepK (gd X) O H' kvs vs := RepK.ext (fun a o x n => ⟨s a o x, n⟩) _ _ r
        refine ⟨b, c, vs, ws, rfl, rfl, e4, DkAt.rd (lk := true) ⟨o, k1⟩, hbc, by rw [r.length, k3.length]; exact hL, ?_⟩
        exact (f.same s).dset (W := W) e1 e2 hO (Nat.le_trans (mergeKD_length ls kvs) hL) (k3.merge r') (mergeKD_key kl k4) (SPost.later (Step.same s) h')
      · exact h'.elim
  | _ => exact h'.elim
theorem pv_out {G : Gd} {O0 O : Own} {H0 H H' : Hp} {ρ : List Sl} {σ : L2.St} {d : DL.D} {fr : Bool} {v : V} (f : Sf G O0 H0 O ρ σ H) (q : PV G O H H' d fr v) : PV G O0 H0 H' d fr v := by
  cases fr with
  | false => exact Rep.less f.own0 q
  | true =>
    obtain ⟨a, rfl, n, r⟩ := q
    refine ⟨a, rfl, f.free0 n, r.weak (.inr rfl) fun b z => .inl (.inl (f.own0 b z))⟩
theorem c_ret {e : E} {v : Expr} (he : PE X v (tE (gd X) W (ev C e))) : PS X (.Return (some v) pos) (tS (gd X) W (evS C (.ret e))) := by
  refine (ps_ret he).imp fun D σ H h => ?_
  obtain ⟨ρ, O0, H0, O, f, h⟩ := h
  exact ⟨ρ, O, f.ag, (PF.out0 f h).mono fun w H' ⟨p, s, q, h'⟩ => h' w H' (f.old.trans s) (pv_out f q)⟩
theorem c_retv (ok : XOk N sc sc C X) {i : Nat} {n : Str} {p : Pos} (h1 : N[i]? = some n) (h2 : visB sc n = true) (h3 : nmB n = true) : PS X (.Return (some (.Name n p)) pos) (tS (gd X) W (evS C (.retv i))) := by
  refine (ps_ret (pv_name ok h1 h2 h3)).imp fun D σ H h => ?_
  obtain ⟨ρ, O0, H0, O, f, h⟩ := h
  unfold evS at h
  split at h
  · rename_i d e
    obtain ⟨a, e2, hO, r⟩ := f.ag.own i d e
    exact ⟨_, e2, h _ H f.old ⟨a, rfl, f.mine i d a e e2, r.weak hO fun b z => .inl (f.own0 b z)⟩⟩
  · exact h.elim
theorem c_retN : PS X (.Return none pos) (tS (gd X) W (evS C .retN)) := by
  refine ps_retN.imp fun D σ H h => ?_
  obtain ⟨ρ, O0, H0, O, f, h⟩ := h
  exact h _ H f.old rfl
theorem c_ite {c : T} {a b : Ss} {t : Expr} {y z : List Stmt} (hc : PT X t (tT (gd X) W (evT C c))) (ha : PSs X y (tS (gd X) W (evSs C a))) (hb : PSs X z (tS (gd X) W (evSs C b))) : PS X (.If t y z pos) (tS (gd X) W (evS C (.ite c a b))) := by
  refine (ps_if hc ha hb).imp fun D σ H h => ?_
  obtain ⟨ρ, O0, H0, O, f, h⟩ := h
  refine ⟨ρ, O, f.ag, (PFa.out f h).mono fun k H' ⟨s, h'⟩ => ?_⟩
  cases k with
  | true => exact iteT ⟨ρ, O0, H0, O, f.same s, h'⟩
  | false => exact iteF ⟨ρ, O0, H0, O, f.same s, h'⟩
theorem c_whl (ok : XOk N sc sc C X) {c : T} {b : Ss} {t : Expr} {y : List Stmt} (hc : PT X t (tT (gd X) W (evT C c))) (hb : PSs X y (tS (gd X) W (evSs C b))) : PS X (.While t y [] pos) (tS (gd X) W (evS C (.whl c b))) := by
  refine (ps_while ok.po hc hb).imp fun D σ H h => ?_
  obtain ⟨ρ, O0, H0, O, f, h⟩ := h
  exact while_read f h
theorem c_pas : PS X (.Pass pos) (tS (gd X) W (evS C .pas)) := by
  refine ps_pass.imp fun D σ H h => ?_
  obtain ⟨ρ, O0, H0, O, f, h⟩ := h
  exact h σ H O f (Step.refl _ _)
theorem c_doc {y : Str} {j : Nat} {p : Pos} : PS X (.Expr (.Constant (.str y) j p) pos) (tS (gd X) W (evS C .pas)) := by
  refine ps_doc.imp fun D σ H h => ?_
  obtain ⟨ρ, O0, H0, O, f, h⟩ := h
  exact h σ H O f (Step.refl _ _)
theorem c_brk : PS X (.Break pos) (tS (gd X) W (evS C .brk)) := by
  refine ps_break.imp fun D σ H h => ?_
  obtain ⟨ρ, O0, H0, O, f, h⟩ := h
  exact h σ H O f (Step.refl _ _)
theorem c_rai (ok : XOk N sc sc C X) (tk : Takes X W) {n m : Str} {j : Nat} {p p2 cp : Pos} (hg : glB sc n = true) (hn : nmB n = true) (hx : C.inf.exs.contains n = true) : PS X (.Raise (some (.Call (.Name n p) [.Constant (.str m) j p2] [] cp)) none pos) (tS (gd X) W (evS C (.rai n))) := by
  obtain ⟨Ca, h1, h2, h3, h4⟩ := ok.exs n hx
  refine (ps_raise ok.calm tk (pmk_own PySem.F.excBase_ValueError h2 h1 h3 h4 (gl_of ok hg) (nmB_of hn).1)).imp fun D σ H h => ?_
  obtain ⟨ρ, O0, H0, O, f, h⟩ := h
  exact h σ H O _ f (Step.refl _ _) h1
theorem look_mem' {α β : Type} [BEq α] [LawfulBEq α] : ∀ {l : List (α × β)} {a : α} {b : β}, l.lookup a = some b → (a, b) ∈ l
  | [], a, b, h => by cases h
  | (x, y) :: l, a, b, h => by
    rw [List.lookup_cons] at h
    split at h
    · rename_i e
      cases h
      rw [eq_of_beq e]
      exact List.mem_cons_self
    · exact List.mem_cons_of_mem _ (look_mem' h)
theorem XOk.tr (ok : XOk N sc sc C X) {pn : List (Addr × Obj)} {xe : Value → Shared → Prop} (po : PassesOwn (model X.prog X.w) X.A X.env xe) : XOk N sc sc C (X.tr pn xe) where
  hN := ok.hN
  hs := ok.hs
  nd := ok.nd
  calm := ok.calm
  fn := ok.fn
  lk := ok.lk
  cal := ok.cal
  glb := ok.glb
  dtb := ok.dtb
  dfl := ok.dfl
  cls := ok.cls
  un := ok.un
  bn := ok.bn
  po := po
  kd := ok.kd
  exs := ok.exs
  exm := ok.exm
  ism := ok.ism
  ixm := ok.ixm
theorem h_ok (ok : XOk N sc sc C X) {h : S} {k : Stmt} (hc : ckH N C.inf sc h k = true) {a : Addr} {pn : List (Addr × Obj)} : PS (X.suite a pn) k (tS (gd X) W (evS C h)) := by
  unfold ckH at hc
  split at hc
  · split at hc
    · exact c_ret (s_lit hc)
    · cases hc
  · split at hc
    · obtain ⟨h1, h2⟩ := band2 hc
      obtain ⟨n, p, rfl, hi, hl⟩ := ck_name h1
      exact c_setI (X := X.suite a pn) (ps_set (X := X.suite a pn) (by show X.N.Nodup; rw [ok.hN]; exact ok.nd) (by show X.N[_]? = _; rw [ok.hN]; exact hi) (loc_of ok hl) (s_lit (X := X.suite a pn) (W := W) (C := C) h2) (swap_no rfl) (fn_of ok hl hl)) fun _ _ _ q => q
    · cases hc
  · cases hc
theorem c_try1 (ok : XOk N sc sc C X) (tk : Takes X W) (fo : X.stack = X.env :: X.outer ∧ X.env.frame = some X.env.locals ∧ X.ex = []) {c : Str} {b : Ss} {h : S} {body : List Stmt} {k : Stmt} {np p2 : Pos} (hg : glB sc c = true) (hn : nmB c = true) (hx : (C.inf.exm.any fun e => decide (e.1.2 = c)) = true)
    (hb : ∀ (W' : WX) (Y : Cx), XOk N sc sc C Y → Takes Y W' → gd Y = gd X → (Y.stack = Y.env :: Y.outer ∧ Y.env.frame = some Y.env.locals ∧ Y.ex = []) → PSs Y body (tS (gd Y) W' (evSs C b))) (hh : ckH N C.inf sc h k = true) :
    PS X (.Try body [.ExceptHandler (some (.Name c np)) none [k] p2] [] [] pos) (tS (gd X) W (evS C (.try1 c b h))) := by
  obtain ⟨e, he, hec⟩ := List.any_eq_true.mp hx
  have hec : e.1.2 = c := of_decide_eq_true hec
  subst hec
  obtain ⟨_, Ca, _, hCa, _⟩ := ok.exm e he
  have hc : Names X e.1.2 (.ref Ca) := ⟨gl_of ok hg, (nmB_of hn).1, .inl hCa⟩
  refine (ps_try_only (tb := fun W' => tS (gd X) W' (evSs C b)) (ts := fun _ _ _ => tS (gd X) W (evS C h)) fo.1 fo.2.1 hc tk (fun W' pn xe tk' po => hb W' (X.tr pn xe) (ok.tr po) tk' rfl fo) fun a oe cls d pn _ _ => ?_).imp fun D σ H q => ?_
  · refine (pss_cons (h_ok (W := W) ok hh) pss_nil).imp fun D σ H q => ?_
    obtain ⟨ρ, O0, H0, O, f, q⟩ := q
    exact ⟨ρ, O0, H0, O, f, q.ends (fun ρ' _ σ' H' O' _ _ z => z) (fun _ _ z => z) (fun _ _ z => z)⟩
  · obtain ⟨ρ, O0, H0, O, f, q⟩ := q
    refine ⟨ρ, O0, H0, O, f, ?_⟩
    unfold evS at q
    cases eb : evSs C b ρ with
    | nx ρ' => rw [eb] at q; exact q
    | brk ρ' => rw [eb] at q; exact q
    | ret d fr => rw [eb] at q; exact q
    | bad => rw [eb] at q; exact q
    | exc r ρ' =>
      rw [eb] at q
      dsimp only at q
      intro σ' H' O' cv f' st hcv
      cases el : C.inf.exm.lookup (r, e.1.2) with
      | none => rw [el] at q; exact q.elim
      | some bb =>
        rw [el] at q
        obtain ⟨Ra, Cb, k1, k2, k3⟩ := ok.exm _ (look_mem' el)
        have e1 : cv = .ref Ra := by
          have := hcv.symm.trans k1
          cases this; rfl
        have e2 : Cb = Ca := by
          have := k2.symm.trans hCa
          cases this; rfl
        subst e1 e2
        refine ⟨bb, k3, fun hb a _ => ?_, fun hb => ?_⟩
        · subst hb
          exact ⟨ρ', O0, H0, O', f', q.later st⟩
        · subst hb
          exact q σ' H' O' _ f' st hcv
/-- an object that stood untracked is tracked from here on -/
theorem _root_.L2.Inv.track {X : Cx} {pins : List (Addr × Obj)} {σ : L2.St} {H : Hp} {s : Shared} (I : Inv X pins σ H s) {a : Addr} {o : HO} (h0 : X.s_0.heap.get? a = none) (na : H a = none) (hl : X.env.locals ≠ a) (hp : ∀ p ∈ X.pn ++ pins, p.1 ≠ a) (hc : ∀ x c, X.env.cells.lookup x = some c → c ≠ a) (oo : ObjOk X.prog X.w (upd H a o) s.heap a o) : Inv X pins σ (upd H a o) s :=
  ⟨I.ok, I.os, I.bare, ⟨I.base.keep, I.base.slot, fun b ob e n hb => by
      rw [upd_ne fun z => by rw [z, h0] at e; cases e]
      exact I.base.free b ob e n hb, I.base.there, fun b xs e => by
      have := I.base.tups b xs e
      rw [upd_ne (ne_of_none this na)]; exact this, fun b ob u e => by
      have := I.base.frzs b ob u e
      rw [upd_ne (ne_of_none this na)]; exact this, fun b ps e => by
      obtain ⟨more, this⟩ := I.base.tbls b ps e
      exact ⟨more, by rw [upd_ne (ne_of_none this na)]; exact this⟩⟩, I.loc, I.cell, by rw [upd_ne hl]; exact I.free, fun x c e => by rw [upd_ne (hc x c e)]; exact I.freeC x c e,
    fun p q => by
      obtain ⟨e, n, r⟩ := I.pin p q
      exact ⟨e, by rw [upd_ne (hp p q)]; exact n, r⟩, fun b u e => by
      by_cases hb : b = a
      · subst hb; rw [upd_same] at e; cases e; exact oo
      · rw [upd_ne hb] at e
        exact (I.hok b u e).stay (fun _ _ _ q => q) (fun c q => by rw [upd_ne (ne_of_none q na)]; exact q) fun c xs q => by rw [upd_ne (ne_of_none q na)]; exact q, I.len⟩
/-- what the clause 'except x as n', that keeps it, wishes of an exception of the body -/
def wTrk (K : PySem.W.Frag) (c : Value) (i : Nat) (ts : Addr → Value → TS) (Wout : WX) (D : Ends) : WX := fun cls d σ H =>
  ∃ b, PySem.W.exmOne K cls c = some b ∧ (b = true → d = none ∧ ∀ a, H a = none → i < σ.length → ts a cls { nx := fun σ' H' => H' a = none → D.nx (σ'.set i none) (upd H' a (ExK cls a)), rt := fun _ _ => False, bk := fun _ _ => False, ct := fun _ _ => False } (σ.set i (some (.ref a))) H) ∧ (b = false → Wout cls d σ H)
theorem ps_try_trk {X : Cx} {x n : Str} {c : Value} {i : Nat} {body suite : List Stmt} {b₀ : Stmt} {np pos pos' : Pos} {tb : WX → TS} {ts : Addr → Value → TS} {Wout : WX} (hs : X.stack = X.env :: X.outer) (hf : X.env.frame = some X.env.locals) (hex : X.ex = []) (hN : X.N.Nodup) (hi : X.N[i]? = some n) (hln : X.env.kindOf n = some .local) (hc : Names X x c) (tk : Takes X Wout)
    (hb : ∀ (W : WX) (pn : List (Addr × Obj)) (xe : Value → Shared → Prop), Takes (X.tr pn xe) W → PassesOwn (model X.prog X.w) X.A X.env xe → PSs (X.tr pn xe) body (tb W))
    (hsu : ∀ (a : Addr) (cls : Value) (pn : List (Addr × Obj)), PSs (X.suite a pn) (b₀ :: suite) (ts a cls)) :
    PS X (.Try body [.ExceptHandler (some (.Name x np)) (some n) (b₀ :: suite) pos'] [] [] pos) (fun D σ H => tb (wTrk X.K c i ts Wout D) D σ H) := by
  refine ⟨fun pins s σ H D I h => ?_⟩
  have ok := I.ok
  have hfr : X.A.frames = some (X.env :: X.outer) := by rw [ok.frames, hs]
  have hloc : Loc X.env.scope n := .inl hln
  refine wpAny_Try_except ?_
  refine wpAny_mono ((hb (wTrk X.K c i ts Wout D) (X.pn ++ pins) (fun e s₁ => wpAny (model X.prog X.w) X.A (noteFrame e X.env) (fun _ s₂ => wpAny (model X.prog X.w) X.A (setFlight e none) (fun _ s₃ =>
    wpAny (model X.prog X.w) X.A (handleBy e X.env [.ExceptHandler (some (.Name x np)) (some n) (b₀ :: suite) pos']) (SP X pins D) X.xe s₃) X.xe s₂) X.xe s₁) (fun u s' xx => ?_) PassesOwn.looking).run [] s σ H D (I.toTry _) h) (fun f s1 hsp => ?_) (fun e s1 he => he)
  · obtain ⟨a, B, sI, pins', σ', H', cls, d, rfl, J', nb, up, sky, na, os, ag, b, hb1, hyes, hno⟩ := xx
    have J : Inv X pins σ' H' sI := J'.ofTry ok
    have sky' : Sky B (X.env :: X.outer) a (Zc cls d) X.env.locals s'.heap := by rw [← hs]; exact sky
    show wpAny (model X.prog X.w) X.A (noteFrame (.ref a) X.env) _ _ _
    refine Sky.land Zc.steady hfr hf sky' fun h3 fl3 up3 => ?_
    have J3 : Inv X pins σ' H' { s' with heap := h3 } := J.landed nb fl3.1 (up.trans up3) os ag
    obtain ⟨oe3, vs3, he3, hz3, hd3⟩ := fl3.there
    have notFr : ∀ {h : Heap} {o : Obj} {vs : Array Value}, h.FunFrames B (X.env :: X.outer) → h.get? a = some o → o.data = .fields vs → a ∉ frs (X.env :: X.outer) := fun {h o vs} ff e dd hm => by
      obtain ⟨_, o', e', hnf⟩ := ff.mem hm
      rw [e] at e'; cases e'
      exact hnf _ dd
    have nfr := notFr fl3.2.2.1 he3 hd3
    have nL : a ≠ X.env.locals := fun z => nfr (List.mem_filterMap.mpr ⟨X.env, List.mem_cons_self, by rw [hf, z]⟩)
    have nF : a ∉ X.fs := fun hm => by
      obtain ⟨e, he, q⟩ := List.mem_filterMap.mp hm
      exact nfr (List.mem_filterMap.mpr ⟨e, List.mem_cons_of_mem _ he, q⟩)
    have nI : sI.heap.get? a = none := by
      cases e : sI.heap.get? a with
      | none => rfl
      | some o =>
        have z := nb a o e (by rw [hs]; exact nfr)
        rw [fl3.2.1] at z; cases z
    have n0 : X.s_0.heap.get? a = none := by
      cases e : X.s_0.heap.get? a with
      | none => rfl
      | some o =>
        obtain ⟨o', z⟩ := J.base.there a o e (by rw [hex]; exact fun z => nomatch z)
        rw [nI] at z; cases z
    have npn : ∀ p ∈ X.pn ++ pins, p.1 ≠ a := fun p hp z => by
      have q := (J.pin p hp).1
      rw [z, nI] at q; cases q
    have nc : ∀ y c', X.env.cells.lookup y = some c' → c' ≠ a := fun y c' e z => by
      obtain ⟨v, o, q, _⟩ := J.cell y c' e
      rw [z, nI] at q; cases q
    have S3 := J3.suite he3 hd3 na nL nF
    refine wpAny_handleBy_cons (codeAny_handlers_test ?_) (by intro q; cases q)
    have LT : PySem.W.Looks (model X.prog X.w) h3 (typeOf (.ref a)) cls := fun A Q E s k q => wpAny_typeOf_ref (k _ _ he3) (by rw [hz3.1]; exact q)
    have LM := PySem.W.exm_one (M := model X.prog X.w) (J3.kIn) LT hb1
    have test : ∀ {Q : Value → Shared → Prop} {E : Value → Shared → Prop}, Q c { s' with heap := h3 } → wpAny (model X.prog X.w) (X.A.mark (some (.ref a))) (eval (.Name x np) X.env) Q E { s' with heap := h3 } := fun {Q E} q => by
      obtain ⟨hg, hdbg, hm | ⟨hm, hv, hnn⟩⟩ := hc
      · exact ld_glob (X := X.suite a ((a, oe3) :: (X.pn ++ pins))) S3 hg hm q hdbg
      · exact ld_blt (X := X.suite a ((a, oe3) :: (X.pn ++ pins))) S3 hg hm hv q hnn hdbg
    refine test (LM.here ?_)
    cases b with
    | true =>
      obtain ⟨hd0, hy2⟩ := hyes rfl
      subst hd0
      refine codeAny_handlers_suite_as ?_
      refine HandSPX.lands_againZ fl3 fun h4 fl4 up4 => ?_
      have J4 : Inv X pins σ' H' { s' with heap := h4 } := J.landed nb fl4.1 ((up.trans up3).trans up4) os ag
      obtain ⟨oe4, vs4, he4, hz4, hd4⟩ := fl4.there
      have S4 := J4.suite he4 hd4 na nL nF
      refine store_ok (X := X.suite a ((a, oe4) :: (X.pn ++ pins))) (v := .ref a) S4 hN hi hloc rfl (fun s5 S5 => ?_) (.inr hln)
      refine wpAny_mono ((hsu a cls ((a, oe4) :: (X.pn ++ pins))).run [] s5 _ H' _ S5 (hy2 a na (by rw [J.len]; exact (List.getElem?_eq_some_iff.mp hi).1))) (fun f s6 hsp => ?_) (fun _ _ z => False.elim z)
      cases f with
      | next =>
        obtain ⟨σ6, H6, S6, q6⟩ := hsp
        obtain ⟨p1, p2, _⟩ := S6.pin (a, oe4) (List.mem_append.mpr (.inl List.mem_cons_self))
        have T6 := (S6.unsuite ok).track (o := ExK cls a) n0 p2 (Ne.symm nL) npn nc (exK_ok p1 hz4 hd4)
        exact gone_ok T6 hN hi hln fun s7 J7 => ⟨_, _, J7, q6 p2⟩
      | brk =>
        obtain ⟨σ6, H6, S6, q6⟩ := hsp
        exact q6.elim
      | cont =>
        obtain ⟨σ6, H6, S6, q6⟩ := hsp
        exact q6.elim
      | ret u =>
        obtain ⟨v6, σ6, H6, S6, r6, q6⟩ := hsp
        exact q6.elim
    | false =>
      show wpAny _ X.A (handleBy (.ref a) X.env []) _ _ _
      refine wpAny_handleBy_nil ?_
      obtain ⟨k1, k2, k3, oe, vs, T, oT, ts', he, hz, hd, h1, hr⟩ := id fl3
      unfold PySem.passOn
      refine wpAny_bind (wpAny_field he hd h1 ?_)
      rw [if_neg (show ¬ ((Value.ref T == Value.none) = true) from by simp)]
      have fin : wpAny (model X.prog X.w) X.A (setFlight (.ref a) X.env.frame) (fun _ s4 => wpAny (model X.prog X.w) X.A (throw (.ref a) : Sem Flow) (SP X pins D) X.xe s4) X.xe { s' with heap := h3 } := by
        rw [hf]
        refine HandSPX.setFlight_upZ fl3 fun h4 hh4 up4 => wpAny_throw (tk _ _ ?_)
        exact ⟨a, B, sI, pins, σ', H', cls, d, rfl, J, nb, (up.trans up3).trans up4, .inr (.inr (by rw [hs]; exact hh4)), na, os, ag, hno rfl⟩
      first
        | exact wpAny_bind (wpAny_pure (wpAny_bind fin))
        | exact wpAny_bind fin
  · cases f with
    | next =>
      obtain ⟨σ', H', J', q⟩ := hsp
      exact wpAny_execs_nil ⟨σ', H', J'.ofTry ok, q⟩
    | brk =>
      obtain ⟨σ', H', J', q⟩ := hsp
      exact ⟨σ', H', J'.ofTry ok, q⟩
    | cont =>
      obtain ⟨σ', H', J', q⟩ := hsp
      exact ⟨σ', H', J'.ofTry ok, q⟩
    | ret u =>
      obtain ⟨v, σ', H', J', r, q⟩ := hsp
      exact ⟨v, σ', H', J'.ofTry ok, r, q⟩
theorem set_twice {α : Type} (l : List α) (i j : Nat) (x y z : α) (h : i ≠ j) : ((l.set i x).set j y).set i z = (l.set j y).set i z := by
  rw [List.set_comm _ _ h, List.set_set]
theorem c_tryK (ok : XOk N sc sc C X) (tk : Takes X W) (fo : X.stack = X.env :: X.outer ∧ X.env.frame = some X.env.locals ∧ X.ex = []) {c y : Str} {b : Ss} {i j : Nat} {body : List Stmt} {t : Expr} {np p1 p2 p3 : Pos} (hg : glB sc c = true) (hn : nmB c = true) (hx : (C.inf.exm.any fun e => decide (e.1.2 = c)) = true)
    (hb : ∀ (W' : WX) (Y : Cx), XOk N sc sc C Y → Takes Y W' → gd Y = gd X → (Y.stack = Y.env :: Y.outer ∧ Y.env.frame = some Y.env.locals ∧ Y.ex = []) → PSs Y body (tS (gd Y) W' (evSs C b))) (hij : i ≠ j) (hi : N[i]? = some y) (hl : onlyL sc y = true) (hny : nmB y = true) (ht : ckSet N sc j t = true) :
    PS X (.Try body [.ExceptHandler (some (.Name c np)) (some y) [.Assign [t] (.Name y p1) p3] p2] [] [] pos) (tS (gd X) W (evS C (.tryK c b i j))) := by
  obtain ⟨m, mp, rfl, hj, hlm⟩ := ck_name ht
  obtain ⟨e, he, hec⟩ := List.any_eq_true.mp hx
  have hec : e.1.2 = c := of_decide_eq_true hec
  subst hec
  obtain ⟨_, Ca, _, hCa, _⟩ := ok.exm e he
  have hc : Names X e.1.2 (.ref Ca) := ⟨gl_of ok hg, (nmB_of hn).1, .inl hCa⟩
  obtain ⟨q1, q2, _⟩ := nmB_of hny
  have hly : sc.names.lookup y = some .local := of_decide_eq_true hl
  have hN : X.N.Nodup := by rw [ok.hN]; exact ok.nd
  refine (ps_try_trk (c := .ref Ca) (i := i) (tb := fun W' => tS (gd X) W' (evSs C b)) (ts := fun _ _ D σ H => ∃ v, σ[i]? = some (some v) ∧ D.nx (σ.set j (some v)) H) (Wout := W) fo.1 fo.2.1 fo.2.2 hN (by rw [ok.hN]; exact hi) (by show X.env.scope.names.lookup y = _; rw [ok.hs]; exact hly) hc tk (fun W' pn xe tk' po => hb W' (X.tr pn xe) (ok.tr po) tk' rfl fo) fun a cls pn => ?_).imp fun D σ H q => ?_
  · have pv : PE (X.suite a pn) (.Name y p1) (tVar i) := pe_var (i := i) (x := y) (by show X.N[i]? = _; rw [ok.hN]; exact hi) (by show Vis X.env.scope y; rw [ok.hs]; exact .inl hly) q1 q2
    exact (pss_cons (ps_set (X := X.suite a pn) (i := j) (by show X.N.Nodup; exact hN) (by show X.N[_]? = _; rw [ok.hN]; exact hj) (loc_of ok hlm) pv (swap_no rfl) (fn_of ok hlm hlm)) pss_nil).imp fun D σ H q => q
  · obtain ⟨ρ, O0, H0, O, f, q⟩ := q
    refine ⟨ρ, O0, H0, O, f, ?_⟩
    unfold evS at q
    cases eb : evSs C b ρ with
    | nx ρ' => rw [eb] at q; exact q
    | brk ρ' => rw [eb] at q; exact q
    | ret d fr => rw [eb] at q; exact q
    | bad => rw [eb] at q; exact q
    | exc r ρ' =>
      rw [eb] at q
      dsimp only at q
      intro σ' H' O' cv f' st hcv
      cases el : C.inf.exm.lookup (r, e.1.2) with
      | none => rw [el] at q; exact q.elim
      | some bb =>
        rw [el] at q
        obtain ⟨Ra, Cb, k1, k2, k3⟩ := ok.exm _ (look_mem' el)
        have e1 : cv = .ref Ra := by
          have := hcv.symm.trans k1
          cases this; rfl
        have e2 : Cb = Ca := by
          have := k2.symm.trans hCa
          cases this; rfl
        subst e1 e2
        refine ⟨bb, k3, fun hbb => ⟨rfl, fun a na hiN => ?_⟩, fun hbb => ?_⟩
        · subst hbb
          refine ⟨.ref a, by rw [List.getElem?_set_self hiN], fun na' => ?_⟩
          have sm : Same H' (upd H' a (ExK (.ref Ra) a)) := fun b o z => by rw [upd_ne fun w => by rw [w, na] at z; cases z]; exact z
          have f1 := (f'.same sm).setV (i := j) (d := .exc r) (v := .ref a) ⟨a, Ra, rfl, hcv, upd_same, fun z => f'.ag.dom.free na z⟩
          have f2 := f1.setN (i := i)
          rw [set_twice _ _ _ _ _ _ hij]
          exact q _ _ O' f2 (st.trans (Step.same sm))
        · subst hbb
          exact q σ' H' O' _ f' st hcv
theorem c_frz {is : List Nat} {b : S} (hb : PS X s (tS (gd X) W (evS C b))) : PS X s (tS (gd X) W (evS C (.frz is b))) := by
  refine hb.imp fun D σ H h => ?_
  obtain ⟨ρ, O0, H0, O, f, h⟩ := h
  obtain ⟨O', f', st⟩ := f.thaw (is := is)
  exact ⟨_, O0, H0, O', f', SPost.later st h⟩
theorem c_frzL {i : Nat} {b : S} (hb : PS X s (tS (gd X) W (evS C b))) : PS X s (tS (gd X) W (evS C (.frzL i b))) := by
  refine ⟨fun pins s0 σ H D I h => ?_⟩
  obtain ⟨ρ, O0, H0, O, f, h⟩ := h
  have h : SPost (gd X) W O0 H0 O H (evS C b (thawL ρ i)) D := h
  unfold thawL at h
  split at h
  · rename_i kvs e
    obtain ⟨a, es, hO, ws, e3, hz, r, kl⟩ := f.ag.own i _ e
    obtain ⟨od, I2⟩ := I.lock e3 True.intro
    have st : ∀ c o, H c = some o → ¬ O c → upd H a (.frz od (.dK ws)) c = some o ∧ ¬ (O c ∧ c ≠ a) := fun c o q n => ⟨by rw [upd_ne fun z => n (by rw [z]; exact hO)]; exact q, fun z => n z.1⟩
    obtain ⟨f', s'⟩ := f.lock (o' := .frz od (.dK ws)) (d' := .dct true kvs) e es hO ⟨a, ws, rfl, ⟨⟨od, upd_same⟩, fun z => z.2 rfl⟩, hz, RepK.ext st _ _ r, kl⟩
    exact hb.run pins s0 σ _ D I2 ⟨_, O0, H0, _, f', SPost.later s' h⟩
  · exact hb.run pins s0 σ H D I ⟨ρ, O0, H0, O, f, h⟩
end
end DL

namespace DL
open PySem PySem.Spec L2

mutual
theorem okS {N : List Str} {C : Ctx} {W : WX} {sc : Scope} {X : Cx} (ok : XOk N sc sc C X) (tk : Takes X W) (fo : X.stack = X.env :: X.outer ∧ X.env.frame = some X.env.locals ∧ X.ex = []) : ∀ (s : S) (x : Stmt), ckS N C.inf sc s x = true → PS X x (tS (gd X) W (evS C s))
  | .set i o e, x, h => by
    unfold ckS at h
    split at h
    · rename_i t v pos
      obtain ⟨h0, h3⟩ := band2 h
      obtain ⟨h1, h2⟩ := band2 h0
      cases hs : isSwp v with
      | false => exact ps_setE ok tk h1 h2 hs
      | true =>
        rw [hs] at h3
        obtain ⟨el, g, s, p, rfl⟩ := isLC_of (v := v) (by simpa using h3)
        obtain ⟨te, hp, hte⟩ := ps_setC ok tk (g := g) h1 e h2
        exact c_setI hp hte
    · cases h
  | .unp is e, x, h => by
    unfold ckS at h
    split at h
    · obtain ⟨h1, h5⟩ := band2 h
      obtain ⟨h1, h4⟩ := band2 h1
      obtain ⟨h1, h3⟩ := band2 h1
      obtain ⟨h1, h2⟩ := band2 h1
      exact c_unp ok tk h1 h2 h3 h4 h5
    · cases h
  | .exp e, x, h => by
    unfold ckS at h
    split at h
    · obtain ⟨h1, h2⟩ := band2 h
      exact c_exp (okE e _ sc sc X ok tk h1) (by simpa using h2)
    · cases h
  | .app i e, x, h => by
    unfold ckS at h
    split at h
    · rename_i v pos
      split at h
      · rename_i n m a l l' hc
        obtain ⟨q, ap, cp, rfl, rfl, rfl⟩ := asCallM_of hc
        obtain ⟨h1, h7⟩ := band2 h
        obtain ⟨h1, h6⟩ := band2 h1
        obtain ⟨h1, h5⟩ := band2 h1
        obtain ⟨h1, h4⟩ := band2 h1
        obtain ⟨h1, h3⟩ := band2 h1
        obtain ⟨h1, h2⟩ := band2 h1
        have e : m = ("append" : Str) := of_decide_eq_true h1
        subst e
        exact c_app ok (of_decide_eq_true h2) h3 h4 h5 (okE e _ sc sc X ok tk h6) h7
      · cases h
    · cases h
  | .ext i e, x, h => by
    unfold ckS at h
    split at h
    · rename_i v pos
      split at h
      · rename_i n m a l l' hc
        obtain ⟨q, ap, cp, rfl, rfl, rfl⟩ := asCallM_of hc
        obtain ⟨h1, h7⟩ := band2 h
        obtain ⟨h1, h6⟩ := band2 h1
        obtain ⟨h1, h5⟩ := band2 h1
        obtain ⟨h1, h4⟩ := band2 h1
        obtain ⟨h1, h3⟩ := band2 h1
        obtain ⟨h1, h2⟩ := band2 h1
        have e : m = ("extend" : Str) := of_decide_eq_true h1
        subst e
        exact c_ext ok (of_decide_eq_true h2) h3 h4 h5 (okE e _ sc sc X ok tk h6) h7
      · cases h
    · cases h
  | .pop2 i k d, x, h => by
    unfold ckS at h
    split at h
    · rename_i v pos
      split at h
      · rename_i n m a b l l' hc
        obtain ⟨q, ap, cp, rfl, rfl, rfl⟩ := asCallM_of hc
        obtain ⟨h1, h9⟩ := band2 h
        obtain ⟨h1, h8⟩ := band2 h1
        obtain ⟨h1, h7⟩ := band2 h1
        obtain ⟨h1, h6⟩ := band2 h1
        obtain ⟨h1, h5⟩ := band2 h1
        obtain ⟨h1, h4⟩ := band2 h1
        obtain ⟨h1, h3⟩ := band2 h1
        obtain ⟨h1, h2⟩ := band2 h1
        have e : m = ("pop" : Str) := of_decide_eq_true h1
        subst e
        exact c_pop2 ok (of_decide_eq_true h2) h3 h4 h5 h6 (okE k _ sc sc X ok tk h7) (okE d _ sc sc X ok tk h8) h9
      · cases h
    · cases h
  | .pop1 none i k, x, h => by
    unfold ckS at h
    dsimp only at h
    split at h
    · rename_i v pos
      split at h
      · rename_i n m a l l' hc
        obtain ⟨q, ap, cp, rfl, rfl, rfl⟩ := asCallM_of hc
        obtain ⟨h1, h7⟩ := band2 h
        obtain ⟨h1, h6⟩ := band2 h1
        obtain ⟨h1, h5⟩ := band2 h1
        obtain ⟨h1, h4⟩ := band2 h1
        obtain ⟨h1, h3⟩ := band2 h1
        obtain ⟨h1, h2⟩ := band2 h1
        have e : m = ("pop" : Str) := of_decide_eq_true h1
        subst e
        exact c_pop1 ok (of_decide_eq_true h2) h3 h4 h5 (okE k _ sc sc X ok tk h6) h7
      · cases h
    · cases h
  | .pop1 (some j) i k, x, h => by
    unfold ckS at h
    dsimp only at h
    split at h
    · rename_i t v pos
      split at h
      · rename_i n m a l l' hc
        obtain ⟨q, ap, cp, rfl, rfl, rfl⟩ := asCallM_of hc
        obtain ⟨h1, h7⟩ := band2 h
        obtain ⟨h1, h6⟩ := band2 h1
        obtain ⟨h1, h5⟩ := band2 h1
        obtain ⟨h1, h4⟩ := band2 h1
        obtain ⟨h1, h3⟩ := band2 h1
        obtain ⟨h1, h2⟩ := band2 h1
        obtain ⟨h0, h1⟩ := band2 h1
        have e : m = ("pop" : Str) := of_decide_eq_true h1
        subst e
        exact c_pop1V ok h0 (of_decide_eq_true h2) h3 h4 h5 (okE k _ sc sc X ok tk h6) h7
      · cases h
    · cases h
  | .clr i, x, h => by
    unfold ckS at h
    split at h
    · rename_i v pos
      split at h
      · rename_i n m l l' hc
        obtain ⟨q, ap, cp, rfl, rfl, rfl⟩ := asCallM_of hc
        obtain ⟨h1, h5⟩ := band2 h
        obtain ⟨h1, h4⟩ := band2 h1
        obtain ⟨h1, h3⟩ := band2 h1
        obtain ⟨h1, h2⟩ := band2 h1
        have e : m = ("clear" : Str) := of_decide_eq_true h1
        subst e
        exact c_clr ok (of_decide_eq_true h2) h3 h4 h5
      · cases h
    · cases h
  | .upd i e, x, h => by
    unfold ckS at h
    split at h
    · rename_i v pos
      split at h
      · rename_i n m a l l' hc
        obtain ⟨q, ap, cp, rfl, rfl, rfl⟩ := asCallM_of hc
        obtain ⟨h1, h7⟩ := band2 h
        obtain ⟨h1, h6⟩ := band2 h1
        obtain ⟨h1, h5⟩ := band2 h1
        obtain ⟨h1, h4⟩ := band2 h1
        obtain ⟨h1, h3⟩ := band2 h1
        obtain ⟨h1, h2⟩ := band2 h1
        have e : m = ("update" : Str) := of_decide_eq_true h1
        subst e
        exact c_upd ok (of_decide_eq_true h2) h3 h4 h5 (okE e _ sc sc X ok tk h6) h7
      · cases h
    · cases h
  | .put i k e, x, h => by
    unfold ckS at h
    split at h
    · rename_i t v pos
      split at h
      · rename_i o ix hc
        obtain ⟨tp, rfl⟩ := asSub_of hc
        split at h
        · rename_i n hn
          obtain ⟨q, hq⟩ := asName_of hn
          subst hq
          obtain ⟨h1, h7⟩ := band2 h
          obtain ⟨h1, h6⟩ := band2 h1
          obtain ⟨h1, h5⟩ := band2 h1
          obtain ⟨h1, h4⟩ := band2 h1
          obtain ⟨h1, h3⟩ := band2 h1
          obtain ⟨h1, h2⟩ := band2 h1
          exact c_put ok (of_decide_eq_true h1) h2 h3 h4 (okE k _ sc sc X ok tk h5) (okE e _ sc sc X ok tk h6) (by simpa using h7)
        · cases h
      · cases h
    · cases h
  | .ret e, x, h => by
    unfold ckS at h
    split at h
    · exact c_ret (okE e _ sc sc X ok tk h)
    · cases h
  | .retv i, x, h => by
    unfold ckS at h
    split at h
    · rename_i v pos
      split at h
      · rename_i n hn
        obtain ⟨q, rfl⟩ := asName_of hn
        obtain ⟨h1, h3⟩ := band2 h
        obtain ⟨h1, h2⟩ := band2 h1
        exact c_retv ok (of_decide_eq_true h1) h2 h3
      · cases h
    · cases h
  | .retN, x, h => by
    unfold ckS at h
    split at h
    · exact c_retN
    · cases h
  | .ite c a b, x, h => by
    unfold ckS at h
    split at h
    · obtain ⟨h1, h3⟩ := band2 h
      obtain ⟨h1, h2⟩ := band2 h1
      exact c_ite (okT c _ sc sc X ok tk h1).1 (okSs ok tk fo a _ h2) (okSs ok tk fo b _ h3)
    · cases h
  | .whl c b, x, h => by
    unfold ckS at h
    split at h
    · obtain ⟨h1, h2⟩ := band2 h
      exact c_whl ok (okT c _ sc sc X ok tk h1).1 (okSs ok tk fo b _ h2)
    · cases h
  | .fr tg it b, x, h => by
    unfold ckS at h
    split at h
    · rename_i t i y pos
      obtain ⟨h1, h3⟩ := band2 h
      obtain ⟨h1, h2⟩ := band2 h1
      obtain ⟨h1, h7⟩ := band2 h1
      obtain ⟨hv, hi⟩ := okI it i sc sc X ok tk h1
      refine (ps_for ok.po ok.calm (hi t h7) (g_ok ok h2) (okSs ok tk fo b _ h3) (isVal_fold hv)).imp fun D σ H h => ?_
      obtain ⟨ρ, O0, H0, O, f, h⟩ := h
      exact for_read f h
    · cases h
  | .brk, x, h => by
    unfold ckS at h
    split at h
    · exact c_brk
    · cases h
  | .pas, x, h => by
    unfold ckS at h
    split at h
    · exact c_pas
    · exact c_doc
    · cases h
  | .rai c, x, h => by
    unfold ckS at h
    split at h
    · rename_i v pos
      split at h
      · rename_i n m j p2 hc
        obtain ⟨q, cp, rfl⟩ := asCall_of hc
        obtain ⟨h1, h4⟩ := band2 h
        obtain ⟨h1, h3⟩ := band2 h1
        obtain ⟨h1, h2⟩ := band2 h1
        have e : n = c := of_decide_eq_true h1
        subst e
        exact c_rai ok tk h2 h3 h4
      · cases h
    · cases h
  | .try1 c b hd, x, h => by
    unfold ckS at h
    split at h
    · rename_i body v k p2 pos
      split at h
      · rename_i n hn
        obtain ⟨np, rfl⟩ := asName_of hn
        obtain ⟨h1, h6⟩ := band2 h
        obtain ⟨h1, h5⟩ := band2 h1
        obtain ⟨h1, h4⟩ := band2 h1
        obtain ⟨h1, h3⟩ := band2 h1
        obtain ⟨h1, h2⟩ := band2 h1
        have e : n = c := of_decide_eq_true h1
        subst e
        exact c_try1 ok tk fo h2 h3 h4 (fun W' Y okY tkY _ foY => okSs okY tkY foY b _ h5) h6
      · cases h
    · cases h
  | .tryK c b i j, x, h => by
    unfold ckS at h
    split at h
    · rename_i body v y t w p1 p2 pos
      split at h
      · rename_i n hn
        obtain ⟨np, rfl⟩ := asName_of hn
        obtain ⟨h1, h10⟩ := band2 h
        obtain ⟨h1, h9⟩ := band2 h1
        obtain ⟨h1, h8⟩ := band2 h1
        obtain ⟨h1, h7⟩ := band2 h1
        obtain ⟨h1, h6⟩ := band2 h1
        obtain ⟨h1, h5⟩ := band2 h1
        obtain ⟨h1, h4⟩ := band2 h1
        obtain ⟨h1, h3⟩ := band2 h1
        obtain ⟨h1, h2⟩ := band2 h1
        have e : n = c := of_decide_eq_true h1
        subst e
        split at h10
        · rename_i m hm
          obtain ⟨mp, rfl⟩ := asName_of hm
          obtain ⟨k1, k2⟩ := band2 h10
          have e : m = y := of_decide_eq_true k1
          subst e
          exact c_tryK ok tk fo h2 h3 h4 (fun W' Y okY tkY _ foY => okSs okY tkY foY b _ h5) (of_decide_eq_true h6) (of_decide_eq_true h7) h8 k2 h9
        · cases h10
      · cases h
    · cases h
  | .frz is b, x, h => c_frz (okS ok tk fo b x (by unfold ckS at h; exact h))
  | .frzL i b, x, h => c_frzL (okS ok tk fo b x (by unfold ckS at h; exact h))
theorem okSs {N : List Str} {C : Ctx} {W : WX} {sc : Scope} {X : Cx} (ok : XOk N sc sc C X) (tk : Takes X W) (fo : X.stack = X.env :: X.outer ∧ X.env.frame = some X.env.locals ∧ X.ex = []) : ∀ (ss : Ss) (xs : List Stmt), ckSs N C.inf sc ss xs = true → PSs X xs (tS (gd X) W (evSs C ss))
  | .any, xs, h => ⟨fun pins s σ H D I q => by obtain ⟨_, _, _, _, _, q⟩ := q; exact q.elim⟩
  | .nil, xs, h => by
    cases xs with
    | nil => exact b_nil
    | cons _ _ => unfold ckSs at h; cases h
  | .cons s ss, xs, h => by
    cases xs with
    | nil => unfold ckSs at h; cases h
    | cons x r =>
      unfold ckSs at h
      obtain ⟨h1, h2⟩ := band2 h
      exact b_cons (okS ok tk fo s x h1) (okSs ok tk fo ss r h2)
end

/-! ### defs -/
theorem run_len {I : Inf} {fs : List Fi} {n : Nat} {f : Str} {ds : List D} {fi : Fi} (hf : fs.find? (fun x => decide (x.nm = f)) = some fi) (h : run I fs n f ds ≠ .bad) : ds.length = fi.ps.length := by
  cases n with
  | zero => exact absurd rfl h
  | succ n =>
    unfold run at h
    rw [hf] at h
    dsimp only at h
    by_cases e : ds.length = fi.ps.length
    · exact e
    · rw [if_neg e] at h; exact absurd rfl h
theorem PF.nb {G : Gd} {O : Own} {H : Hp} {E : XK} {r : R} {Q : VK} (h : PF G O H E r Q) : r ≠ .bad := fun e => by rw [e] at h; exact h
theorem spF_len {G : Gd} {I : Inf} {fs : List Fi} {n : Nat} {fi : Fi} (hf : fs.find? (fun x => decide (x.nm = fi.nm)) = some fi) : ∀ vs H Q E, spF G (run I fs n fi.nm) vs H Q E → vs.length = fi.ps.length := by
  rintro vs H Q E ⟨O, ds, dm, r, p⟩
  rw [r.length]
  exact run_len hf p.nb
/-- the entry of a body -/
theorem start_get {N : List Str} {vs : List V} {i : Nat} {v : V} (h : vs[i]? = some v) : (L2.start N vs)[i]? = some (some v) := by
  unfold L2.start
  have hi : i < vs.length := (List.getElem?_eq_some_iff.mp h).1
  rw [List.getElem?_append_left (by simpa using hi), List.getElem?_map, h]
  rfl
theorem ag_start {G : Gd} {O : Own} {H : Hp} {N : List Str} {ds : List D} {vs : List V} (dm : Dom O H) (r : Reps G O H ds vs) : Ag G O (ds.map Sl.val ++ List.replicate (N.length - ds.length) .no) (L2.start N vs) H := by
  have noown : ∀ (i : Nat) (d : D), (ds.map Sl.val ++ List.replicate (N.length - ds.length) Sl.no)[i]? ≠ some (Sl.own d) := fun i d h => by
    have := List.mem_of_getElem? h
    rw [List.mem_append] at this
    rcases this with m | m
    · obtain ⟨_, _, e⟩ := List.mem_map.mp m; cases e
    · have := List.eq_of_mem_replicate m; cases this
  refine ⟨dm, ?_, fun i d h => ?_, fun i d h => absurd h (noown i d), fun i j d e a _ h => absurd h (noown i d)⟩
  · unfold L2.start
    simp [r.length]
  · by_cases hi : i < ds.length
    · rw [List.getElem?_append_left (by simpa using hi), List.getElem?_map] at h
      cases e : ds[i]? with
      | none => rw [e] at h; cases h
      | some d' =>
        rw [e] at h
        cases h
        obtain ⟨v, h1, h2⟩ := r.get' e
        exact ⟨v, start_get h1, h2⟩
    · rw [List.getElem?_append_right (by simpa using hi)] at h
      have := List.mem_of_getElem? h
      have := List.eq_of_mem_replicate this
      cases this
theorem fin_post {G : Gd} {O : Own} {H : Hp} {E : XK} {o : Out} {Q : VK} (h : PF G O H E o.fin Q) : SPost G (fun cls d _ H => E cls d H) O H O H o { nx := fun _ H' => Q .non H', rt := Q } := by
  cases o with
  | nx ρ => exact fun σ' H' O' f s => h .non H' f.old rfl
  | brk ρ => exact h.elim
  | ret d fr => exact h
  | exc c ρ => exact fun σ' H' O' cv f s m => h H' cv f.old m
  | bad => exact h.elim

/-- a look at the names of a def's scope -/
def scC (N P : List Str) (sc : Scope) : Bool :=
  decide (sc.kind = .function) && !sc.isCoroutine && !sc.isGenerator && decide N.Nodup && decide (N.take P.length = P) && P.all (fun x => locB sc x) && sc.names.all (fun y => !decide (y.2 = .free))
theorem scC_of {N P : List Str} {sc : Scope} (h : scC N P sc = true) : FnScope N P sc := by
  unfold scC at h
  obtain ⟨h, h7⟩ := band2 h
  obtain ⟨h, h6⟩ := band2 h
  obtain ⟨h, h5⟩ := band2 h
  obtain ⟨h, h4⟩ := band2 h
  obtain ⟨h, h3⟩ := band2 h
  obtain ⟨h1, h2⟩ := band2 h
  refine ⟨of_decide_eq_true h1, by simpa using h2, by simpa using h3, of_decide_eq_true h4, of_decide_eq_true h5, fun x m => ?_, fun y m => ?_⟩
  · exact locB_of (List.all_eq_true.mp h6 x m)
  · have := List.all_eq_true.mp h7 y m
    simpa using this
/-! ### __init__ -/
def initB : List Stmt → List Str → Bool
  | .Expr (.Constant (.str _) _ _) _ :: r, fds => initB r fds
  | .Assign [.Attribute (.Name s _) g _] (.Name p _) _ :: r, f :: fds => decide (s = "self") && decide (g = f) && decide (p = f) && initB r fds
  | [], [] => true
  | _, _ => false
theorem putF_new {f : Str} {v : V} : ∀ {fs : List (Str × V)}, fs.lookup f = none → putF f v fs = fs ++ [(f, v)]
  | [], _ => rfl
  | (g, x) :: r, h => by
    rw [List.lookup_cons] at h
    cases e : f == g with
    | true => rw [e] at h; cases h
    | false =>
      rw [e] at h
      have : ¬ g = f := fun z => by rw [z, beq_self_eq_true] at e; cases e
      rw [putF, if_neg this, putF_new h]; rfl
theorem upd_upd {H : Hp} {a : Addr} {o u : HO} : upd (upd H a o) a u = upd H a u := by
  funext b
  by_cases e : b = a
  · rw [e, upd_same, upd_same]
  · rw [upd_ne e, upd_ne e, upd_ne e]
theorem lookup_app {f : Str} {v : V} : ∀ {fs : List (Str × V)} {g : Str}, fs.lookup f = none → ¬ g = f → (fs ++ [(g, v)]).lookup f = none
  | [], g, _, h2 => by
    rw [List.nil_append, List.lookup_cons]
    have : (f == g) = false := by
      cases e : f == g with
      | true => exact absurd (eq_of_beq e).symm h2
      | false => rfl
    rw [this]; rfl
  | (k, x) :: r, g, h, h2 => by
    rw [List.lookup_cons] at h
    rw [List.cons_append, List.lookup_cons]
    cases e : f == k with
    | true => rw [e] at h; cases h
    | false => rw [e] at h; exact lookup_app h h2
theorem init_run {X : Cx} {Ca : Addr} (c : Cls X.K Ca) (hs0 : X.N[0]? = some (Str.ofString "self")) (hv0 : Vis X.env.scope (Str.ofString "self")) : ∀ (body : List Stmt) (fds : List Str) (j : Nat), initB body fds = true → (∀ f ∈ fds, NoAttr X.K Ca f ∧ Vis X.env.scope f ∧ nmB f = true) → (∀ i f, fds[i]? = some f → X.N[j + i]? = some f) → fds.Nodup →
    ∃ t, PSs X body t ∧ ∀ (D : Ends) (σ : St) (H : Hp) (x dx : Addr) (acc : List (Str × V)) (ws : List V), σ[0]? = some (some (.ref x)) → (∀ i v, ws[i]? = some v → σ[j + i]? = some (some v)) → ws.length = fds.length → H x = some (.ins Ca dx acc) → (∀ f ∈ fds, acc.lookup f = none) → acc.length + fds.length < 1000 →
      D.nx σ (upd H x (.ins Ca dx (acc ++ fds.zip ws))) → t D σ H
  | [], [], j, _, _, _, _ => ⟨_, pss_nil, fun D σ H x dx acc ws h0 hw hl hx _ _ q => by
    have e : upd H x (.ins Ca dx (acc ++ ([] : List Str).zip ws)) = H := by
      funext b
      by_cases z : b = x
      · rw [z, upd_same, hx]; simp
      · rw [upd_ne z]
    rw [e] at q
    exact q⟩
  | .Expr (.Constant (.str y) jj pp) p :: r, fds, j, h, hf, hn, nd => by
    obtain ⟨t, h1, h2⟩ := init_run c hs0 hv0 r fds j (by unfold initB at h; exact h) hf hn nd
    refine ⟨_, pss_cons ps_doc h1, fun D σ H x dx acc ws h0 hw hl hx ha hz q => ?_⟩
    exact h2 D σ H x dx acc ws h0 hw hl hx ha hz q
  | .Assign [.Attribute (.Name s sp) g gp] (.Name p pp) ap :: r, f :: fds, j, h, hf, hn, nd => by
    unfold initB at h
    obtain ⟨h, h4⟩ := band2 h
    obtain ⟨h, h3⟩ := band2 h
    obtain ⟨h1, h2⟩ := band2 h
    have e1 := of_decide_eq_true h1
    have e2 := of_decide_eq_true h2
    have e3 := of_decide_eq_true h3
    subst e1 e2 e3
    rw [List.nodup_cons] at nd
    obtain ⟨n1, v1, b1⟩ := hf p List.mem_cons_self
    obtain ⟨t, k1, k2⟩ := init_run c hs0 hv0 r fds (j + 1) h4 (fun f hm => hf f (List.mem_cons_of_mem _ hm)) (fun i f e => by
      have := hn (i + 1) f (by simpa using e)
      rwa [show j + (i + 1) = j + 1 + i by omega] at this) nd.2
    have hp : X.N[j]? = some p := hn 0 p rfl
    refine ⟨_, pss_cons (ps_fld (pe_var hs0 hv0) (pe_var hp v1 (nmB_of b1).1 (nmB_of b1).2.1) rfl) k1, fun D σ H x dx acc ws h0 hw hl hx ha hz q => ?_⟩
    obtain ⟨w, ws', rfl⟩ : ∃ w ws', ws = w :: ws' := by
      cases ws with
      | nil => cases hl
      | cons w ws' => exact ⟨w, ws', rfl⟩
    refine ⟨w, hw 0 w rfl, .ref x, h0, x, Ca, dx, acc, rfl, hx, c, n1, by rw [List.length_cons] at hz; omega, ?_⟩
    have ep : putF p w acc = acc ++ [(p, w)] := putF_new (ha p List.mem_cons_self)
    refine k2 D σ _ x dx (putF p w acc) ws' h0 (fun i v e => by
      have := hw (i + 1) v (by simpa using e)
      rwa [show j + (i + 1) = j + 1 + i by omega] at this) (by simpa using hl) upd_same (fun f hm => ?_) (by rw [ep, List.length_append, List.length_cons] at *; simp at *; omega) ?_
    · rw [ep]
      exact lookup_app (ha f (List.mem_cons_of_mem _ hm)) (fun z => nd.1 (z ▸ hm))
    · rw [upd_upd, ep, List.append_assoc]
      exact q
def ckInit (fds : List Str) (st : Stmt) : Bool := initB (defBody st) fds && decide fds.Nodup && decide (fds.length < 900) && fds.all (fun f => locB (defScope st) f && nmB f) && locB (defScope st) "self"
theorem init_ok {P : Program} {w : World} {K : PySem.W.Frag} {mg : Str → Option Value} {base : Heap} {qual : Str} {st : Stmt} {f Ca : Addr} {fd : FuncData} {fds : List Str} {k : Nat} (F : L2.Fun K "__init__" qual st f fd) (c : Cls K Ca) (na : ∀ g ∈ fds, NoAttr K Ca g)
    (hc : (ckInit fds st && scC (Str.ofString "self" :: fds) (Str.ofString "self" :: fds) (defScope st)) = true) : FnOk P w K mg base CX0 (k + 1) f fd (Str.ofString "self" :: fds) (spI Ca fds) := by
  obtain ⟨hi, hsc⟩ := band2 hc
  unfold ckInit at hi
  obtain ⟨hi, h5⟩ := band2 hi
  obtain ⟨hi, h4⟩ := band2 hi
  obtain ⟨hi, h3⟩ := band2 hi
  obtain ⟨h1, h2⟩ := band2 hi
  have S := scC_of hsc
  refine F.ok S (fun vs H Q E ⟨x, dx, ws, e, _, hl, _⟩ => by rw [e, List.length_cons, List.length_cons, hl]) fun cdv A outer s H vs Q E hr hsp => ?_
  obtain ⟨x, dx, ws, rfl, hx, hl, q⟩ := hsp
  have vis : ∀ {y : Str}, locB (defScope st) y = true → Vis (defScope st) y := fun {y} h => by
    rcases locB_of h with z | z
    · exact .inl z
    · exact .inr (.inl z)
  obtain ⟨t, k1, k2⟩ := init_run (X := (cxOf CX0 P w K mg base (Str.ofString "self" :: fds) qual (defScope st) f cdv A outer s H E).nox) c rfl (vis h5) (defBody st) fds 1 h1 (fun g hg => by
    have := List.all_eq_true.mp h4 g hg
    obtain ⟨a, b⟩ := band2 this
    exact ⟨na g hg, vis a, b⟩) (fun i g e => by rw [Nat.add_comm]; exact e) (of_decide_eq_true h2)
  refine ⟨t, k1, k2 _ _ _ x dx [] ws rfl (fun i v e => ?_) hl hx (fun _ _ => rfl) (by have := of_decide_eq_true h3; simpa using Nat.lt_trans this (by decide)) q⟩
  rw [Nat.add_comm]
  exact start_get (i := i + 1) (by simpa using e)
/-- a def that runs as its body says -/
def FunR (P : Program) (w : World) (K : PySem.W.Frag) (mg : Str → Option Value) (qual : Str) (st : Stmt) (fa : Addr) (fd : FuncData) : Prop :=
  ∀ (base : Heap) (N ps : List Str) (k : Nat) (sp : Sp), FnScope N ps (defScope st) → (∀ vs H Q E, sp vs H Q E → vs.length = ps.length) →
    (∀ (cdv : Value) (A : Around) (outer : List Env) (s : Shared) (H : Hp) (vs : List V) (Q : VK) (E : XK), Room k (A.deeper (PyProof.Rows.envOfC qual (defScope st) s.heap.objs.size fa cdv)) → sp vs H Q E →
      ∃ t, PSs (cxOf (L2.CX P w) P w K mg base N qual (defScope st) fa cdv A outer s H E) (defBody st) t ∧ t { nx := fun _ H' => Q .non H', rt := Q } (L2.start N vs) H) → FnOk P w K mg base (L2.CX P w) (k + 1) fa fd ps sp
theorem funR_fun {P : Program} {w : World} {K : PySem.W.Frag} {mg : Str → Option Value} {x qual : Str} {st : Stmt} {fa : Addr} {fd : FuncData} (F : L2.Fun K x qual st fa fd) : FunR P w K mg qual st fa fd := fun _ _ _ _ _ S len hb => F.okX S len hb
theorem funR_funD {P : Program} {w : World} {K : PySem.W.Frag} {mg : Str → Option Value} {x qual : Str} {st : Stmt} {fa : Addr} {fd : FuncData} {dvs : List V} {kws : List (Str × V)} (F : L2.FunD K x qual (defArgs st) (defBody st) (defScope st) dvs kws fa fd) : FunR P w K mg qual st fa fd := fun _ _ _ _ _ S len hb => F.ok S len hb
/-- the classes and names by which a def is a method -/
def prs (cls : List (Str × List Str × List (Str × Str))) (g : Str) : List (Str × Str) := cls.flatMap fun r => (r.2.2.filter fun q => decide (q.2 = g)).map fun q => (r.1, q.1)
theorem prs_mem {cls : List (Str × List Str × List (Str × Str))} {c m g : Str} {p : List Str × List (Str × Str)} (h : (c, p) ∈ cls) (k : (m, g) ∈ p.2) : (c, m) ∈ prs cls g :=
  List.mem_flatMap.mpr ⟨(c, p), h, List.mem_map.mpr ⟨(m, g), List.mem_filter.mpr ⟨k, by simp⟩, rfl⟩⟩
theorem look_mem {β : Type} {z : Str} {d : β} : ∀ {tb : List (Str × β)}, tb.lookup z = some d → (z, d) ∈ tb
  | [], h => by cases h
  | (k, e) :: tb, h => by
    rw [List.lookup_cons] at h
    split at h
    · rename_i q
      cases h
      have : z = k := by simpa using q
      rw [this]; exact List.mem_cons_self
    · exact List.mem_cons_of_mem _ (look_mem h)
/-- the module as the text says it -/
structure ModOk (I : Inf) (fs : List Fi) (P : Program) (w : World) (K : PySem.W.Frag) (mg : Str → Option Value) (tx : Nat → Stmt) : Prop where
  fns : ∀ fi ∈ fs, ∃ fa fd, FunR P w K mg fi.nm (tx fi.pl) fa fd ∧ PySem.W.keepIn K (.ref fa) = true ∧ Binds K fd fi.ps [] ∧ (I.has.contains fi.nm = true → mg fi.nm = some (.ref fa)) ∧
    (∀ dv, I.df.lookup fi.nm = some dv → mg fi.nm = some (.ref fa) ∧ ∃ us vs, Binds K fd fi.ps us ∧ Vals vs us ∧ ∀ O H, Reps ⟨K, mg, w⟩ O H dv vs) ∧ ∀ p ∈ prs I.cls fi.nm, ∃ Ca, mg p.1 = some (.ref Ca) ∧ Meth K Ca p.2 fa
  mts : ∀ r ∈ I.cls, ∀ q ∈ r.2.2, ∃ fi ∈ fs, fi.nm = q.2
  dfs : ∀ f dv, I.df.lookup f = some dv → ∃ fi ∈ fs, fi.nm = f
  cls : ∀ r ∈ I.cls, ∃ Ca, mg r.1 = some (.ref Ca) ∧ Cls K Ca ∧ (∀ f ∈ r.2.1, NoAttr K Ca f) ∧ ∃ f fd ps, Mk K Ca f ∧ Binds K fd ps [] ∧ ∀ base k, FnOk P w K mg base CX0 (k + 1) f fd ps (spI Ca r.2.1)
  nem : ∀ fi ∈ fs, fi.nm ≠ Str.empty
  fnd : ∀ f, I.has.contains f = true → ∃ fi ∈ fs, fi.nm = f
  nds : (fs.map (·.nm)).Nodup
  scs : ∀ fi ∈ fs, (scC fi.N fi.ps (defScope (tx fi.pl)) && ckSs fi.N I (defScope (tx fi.pl)) fi.body (defBody (tx fi.pl))) = true
  glb : ∀ x d, I.gt.lookup x = some d → ∃ u v, mg x = some u ∧ RelV v u ∧ ∀ O H, Rep ⟨K, mg, w⟩ O H d v
  dtb : ∀ x tb, I.dt.lookup x = some tb → ∃ a, mg x = some (.ref a) ∧ ∀ z d, tb.lookup z = some d → ∃ v, KDct K w a z v ∧ ∀ O H, Rep ⟨K, mg, w⟩ O H d v
  bn : ∀ x ∈ I.bns, mg x = none
  exs : ∀ c, I.exs.contains c = true → ∃ Ca, mg c = some (.ref Ca) ∧ PySem.W.excIn K Ca [.type "ValueError", .type "Exception", .type "BaseException", .type "object"] "ValueError.__new__" = true ∧ PySem.W.keepIn K (.ref Ca) = true ∧ PySem.W.subIn K (.ref Ca) (.type "BaseException") = some true ∧ PySem.W.typeIn K (.ref Ca) = some (.type "type")
  ixm : ∀ e ∈ I.ixm, IxmOk K mg e.1.1 e.1.2 e.2
  ism : ∀ e ∈ I.ism, ∃ Ma Ca, mg e.1.1 = some (.ref Ma) ∧ mg e.1.2 = some (.ref Ca) ∧ PySem.W.kitOne K (.ref Ma) (.ref Ca) = some e.2 ∧ IsC K Ma
  exm : ∀ e ∈ I.exm, ∃ Ra Ca, mg e.1.1 = some (.ref Ra) ∧ mg e.1.2 = some (.ref Ca) ∧ PySem.W.exmOne K (.ref Ra) (.ref Ca) = some e.2
theorem find_nd : ∀ {fs : List Fi} {fi : Fi}, (fs.map (·.nm)).Nodup → fi ∈ fs → fs.find? (fun x => decide (x.nm = fi.nm)) = some fi
  | [], _, _, h => by cases h
  | f :: fs, fi, nd, h => by
    rw [List.map_cons, List.nodup_cons] at nd
    rcases List.mem_cons.mp h with e | h
    · subst e
      rw [List.find?_cons_of_pos (by simp)]
    · rw [List.find?_cons_of_neg (by
        simp only [decide_eq_true_eq]
        intro e
        exact nd.1 (e ▸ List.mem_map_of_mem h))]
      exact find_nd nd.2 h
theorem run_dp {I : Inf} {fs : List Fi} (nem : ∀ fi ∈ fs, fi.nm ≠ Str.empty) {n : Nat} (h : run I fs n Str.empty [] ≠ .bad) : ∃ j, n = j + 2 := by
  have hf : fs.find? (fun x => decide (x.nm = Str.empty)) = none := by
    rw [List.find?_eq_none]
    intro fi hm
    simpa using nem fi hm
  match n, h with
  | 0, h => exact absurd rfl h
  | 1, h => unfold run at h; rw [hf] at h; exact absurd rfl h
  | j + 2, _ => exact ⟨j, rfl⟩
theorem fns_ok {I : Inf} {fs : List Fi} {P : Program} {w : World} {K : PySem.W.Frag} {mg : Str → Option Value} {tx : Nat → Stmt} {base : Heap} (M : ModOk I fs P w K mg tx) : ∀ (n : Nat) (fi : Fi), fi ∈ fs → ∀ (fa : Addr) (fd : FuncData), FunR P w K mg fi.nm (tx fi.pl) fa fd → FnOk P w K mg base (L2.CX P w) n fa fd fi.ps (spF ⟨K, mg, w⟩ (run I fs n fi.nm))
  | 0, fi, hm, fa, fd, _ => by
    have no : ∀ vs H Q E, ¬ spF ⟨K, mg, w⟩ (run I fs 0 fi.nm) vs H Q E := fun vs H Q E ⟨O, ds, _, _, p⟩ => p
    exact ⟨fun vs H Q E h => absurd h (no vs H Q E), fun A outer s H args us vs Q E _ _ _ _ h => absurd h (no vs H Q E)⟩
  | n + 1, fi, hm, fa, fd, F => by
    have hf := find_nd M.nds hm
    obtain ⟨hs, hbd⟩ := band2 (M.scs fi hm)
    have S := scC_of hs
    refine F _ _ _ _ _ S (spF_len hf) fun cdv A outer s H vs Q E hr hsp => ?_
    obtain ⟨O, ds, dm, r, p⟩ := hsp
    have hl : ds.length = fi.ps.length := run_len hf p.nb
    let X := cxOf (L2.CX P w) P w K mg base fi.N fi.nm (defScope (tx fi.pl)) fa cdv A outer s H E
    have ok : XOk fi.N (defScope (tx fi.pl)) (defScope (tx fi.pl)) ⟨run I fs n, I⟩ X := {
      hN := rfl
      hs := rfl
      nd := S.nd
      calm := rfl
      fn := fun _ _ => rfl
      lk := fun _ _ _ h => h
      cal := fun f h => by
        obtain ⟨fj, hj, rfl⟩ := M.fnd f h
        obtain ⟨ga, gf, G1, Gk, G3, G2, _, _⟩ := M.fns fj hj
        exact ⟨ga, gf, fj.ps, n, fns_ok M n fj hj ga gf G1, hr, G2 h, Gk, G3⟩
      dfl := fun f dv h => by
        obtain ⟨fj, hj, rfl⟩ := M.dfs f dv h
        obtain ⟨ga, gf, G1, Gk, G3, _, G5, _⟩ := M.fns fj hj
        obtain ⟨G2, us, vs', q1, q2, q3⟩ := G5 dv h
        exact ⟨ga, gf, fj.ps, n, us, vs', fns_ok M n fj hj ga gf G1, hr, G2, Gk, q1, q2, q3⟩
      cls := fun c p h => by
        have hm := look_mem h
        obtain ⟨Ca, k1, k2, k3, f, fd', ps, k4, k5, k6⟩ := M.cls (c, p) hm
        refine ⟨Ca, k1, k2, k3, fun m g hg => ?_, fun hb => ?_⟩
        · obtain ⟨fj, hj, e⟩ := M.mts (c, p) hm (m, g) (look_mem hg)
          have e : fj.nm = g := e
          subst e
          obtain ⟨ga, gf, G1, Gk, G3, _, _, G6⟩ := M.fns fj hj
          obtain ⟨Cb, q1, q2⟩ := G6 (c, m) (prs_mem hm (look_mem hg))
          have eC : Cb = Ca := by
            have := q1.symm.trans k1
            cases this; rfl
          subst eC
          exact ⟨ga, gf, fj.ps, n, q2, fns_ok M n fj hj ga gf G1, hr, G3⟩
        · obtain ⟨j, rfl⟩ := run_dp M.nem hb
          exact ⟨f, fd', ps, j + 1, k4, k6 _ j, hr, k5⟩
      glb := M.glb
      dtb := M.dtb
      un := hr.units
      bn := M.bn
      po := passes_of rfl
      kd := S.kind
      exs := fun c h => by
        obtain ⟨Ca, h1, h2, h3, h4, h5⟩ := M.exs c h
        exact ⟨Ca, h1, h2, h3, raises_own h4 h5⟩
      exm := M.exm
      ism := M.ism
      ixm := M.ixm }
    have tk : Takes X (fun cls d _ H => E cls d H) := takes_of rfl rfl rfl rfl
    refine ⟨_, okSs ok tk ⟨rfl, rfl, rfl⟩ fi.body _ hbd, ?_⟩
    refine ⟨ds.map Sl.val ++ List.replicate (fi.N.length - ds.length) Sl.no, O, H, O, ⟨ag_start (N := fi.N) dm r, Same.refl _, dm, fun _ z => z, fun _ z => .inl z, fun i d a h => ?_⟩, ?_⟩
    · exfalso
      have := List.mem_of_getElem? h
      rw [List.mem_append] at this
      rcases this with m | m
      · obtain ⟨_, _, e⟩ := List.mem_map.mp m; cases e
      · have := List.eq_of_mem_replicate m; cases this
    · refine fin_post ?_
      unfold run at p
      rw [hf] at p
      dsimp only at p
      rw [if_pos hl] at p
      exact p

/-! ### a law -/
def spLaw (K : PySem.W.Frag) : Sp := fun vs H Q E => ∃ (a : Addr) (ns : List Int), vs = [.ref a] ∧ ns.length ≤ 63 ∧ Only H ∧ SqL K H a (ns.map V.int) ∧ ∀ H', Q (.bl true) H'
/-- the law's word: for every script, true -/
theorem law_sp {I : Inf} {fs : List Fi} {K : PySem.W.Frag} {w : World} {mg : Str → Option Value} {k : Nat} {L : Str} (h : ∀ ns : List Int, ns.length ≤ 63 → ∃ b, run I fs k L [.kl (ns.map D.int)] = .ok (.bl true, b)) : ∀ vs H Q E, spLaw K vs H Q E → spF ⟨K, mg, w⟩ (run I fs k L) vs H Q E := by
  rintro vs H Q E ⟨a, ns, rfl, hl, ho, hs, q⟩
  refine ⟨fun _ => False, [.kl (ns.map D.int)], fun _ z => z.elim, ?_, ?_⟩
  · refine ⟨_, [], rfl, ⟨a, ns.map V.int, rfl, ?_, ?_, reps_ints ns⟩, rfl⟩
    · rcases hs with hs | hs
      · exact .inl ⟨hs, fun z => z⟩
      · exact .inr hs
    · rw [List.length_map]
      exact Nat.le_trans hl (by decide)
  · obtain ⟨b, e⟩ := h ns hl
    rw [e]
    cases b with
    | false => exact fun v H' _ q' => by cases q'; exact q H'
    | true => exact fun v H' _ ⟨_, _, _, z⟩ => z.elim
/-- a def as it stands behind the top -/
theorem fn_top {K : PySem.W.Frag} {h : Heap} {mg : Str → Option Value} (X : K.In h) (G : h.Ns mainGlobals mg) {x : Str} {st : Stmt} {f : Addr} {oc : Value} {od an : Option Addr} {osl : Array (Option Value)} {kV doc pm cdv ct : Value} {ps : List Str}
    (b : ∀ (kV doc pm : Value) (an : Option Addr) (cdv ct : Value) (us : List Value), us.length = ps.length → bindArgs (PySem.W.fnOf x x (defArgs st) (defBody st) (defScope st) .none kV doc pm an cdv ct) ⟨us, []⟩ = pure (ps.zip us))
    (a : PySem.W.nsIn K mainGlobals x = some (some (.ref f))) (l : K.lookup f = some ⟨oc, od, .func (PySem.W.fnOf x x (defArgs st) (defBody st) (defScope st) .none kV doc pm an cdv ct), osl⟩) (c : PySem.W.codeIn K cdv x = true) (k : PySem.W.keepIn K (.ref f) = true) :
    ∃ fa fd, L2.Fun K x x st fa fd ∧ mg x = some (.ref fa) ∧ Binds K fd ps [] := by
  have F := fun_mk (st := st) l c k
  exact ⟨f, _, F, PySem.W.mg_of X G a, F.binds b⟩
/-! ### what stands written behind the top -/
def KRep (K : PySem.W.Frag) (d : D) (u : Value) : Prop := ∃ v, RelV v u ∧ ∀ mg w O H, Rep ⟨K, mg, w⟩ O H d v
def KReps (K : PySem.W.Frag) : List D → List Value → Prop
  | [], us => us = []
  | d :: ds, us => ∃ u r, us = u :: r ∧ KRep K d u ∧ KReps K ds r
theorem krep_int {K : PySem.W.Frag} {i : Int} {t : Tok} : KRep K (.int i) (.int i t) := ⟨.int i, ⟨_, rfl⟩, fun _ _ _ _ => rfl⟩
theorem krep_str {K : PySem.W.Frag} {x : Str} {t : Tok} (h : x.length ≤ 1000) : KRep K (.str x) (.str x t) := ⟨.str x, ⟨_, rfl⟩, fun _ _ _ _ => ⟨rfl, Nat.le_trans h (by decide)⟩⟩
theorem kreps_vals {K : PySem.W.Frag} : ∀ {ds : List D} {us : List Value}, KReps K ds us → ∃ vs, Vals vs us ∧ ds.length = us.length ∧ ∀ mg w O H, Reps ⟨K, mg, w⟩ O H ds vs
  | [], us, h => by cases h; exact ⟨[], .nil, rfl, fun _ _ _ _ => rfl⟩
  | d :: ds, us, h => by
    obtain ⟨u, r, rfl, ⟨v, h1, h2⟩, h3⟩ := h
    obtain ⟨vs, k1, k2, k3⟩ := kreps_vals h3
    exact ⟨v :: vs, .cons h1 k1, by rw [List.length_cons, List.length_cons, k2], fun mg w O H => ⟨v, vs, rfl, h2 mg w O H, k3 mg w O H⟩⟩
theorem krep_tup {K : PySem.W.Frag} {a : Addr} {od : Option Addr} {its : Array Value} {n : Nat} {osl : Array (Option Value)} {ds : List D} (l : K.lookup a = some ⟨.type "tuple", od, .seq its n, osl⟩) (h : KReps K ds its.toList) (hs : its.size ≤ 1000) : KRep K (.tup ds) (.ref a) := by
  obtain ⟨vs, k1, k2, k3⟩ := kreps_vals h
  have hs' : its.size ≤ sizeLine := Nat.le_trans hs (by decide)
  exact ⟨.ref a, rfl, fun mg w O H => ⟨a, vs, rfl, .inr ⟨_, its, n, l, rfl, rfl, hs', k1⟩, by rw [k2, Array.length_toList]; exact hs', k3 mg w O H⟩⟩
theorem glb_top {K : PySem.W.Frag} {w : World} {h : Heap} {mg : Str → Option Value} (X : K.In h) (G : h.Ns mainGlobals mg) {x : Str} {u : Value} {d : D} (e : PySem.W.nsIn K mainGlobals x = some (some u)) (r : KRep K d u) : ∃ u v, mg x = some u ∧ RelV v u ∧ ∀ O H, Rep ⟨K, mg, w⟩ O H d v := by
  obtain ⟨v, h1, h2⟩ := r
  exact ⟨u, v, PySem.W.mg_of X G e, h1, h2 mg w⟩
theorem dct_top {K : PySem.W.Frag} {w : World} {h : Heap} {mg : Str → Option Value} (X : K.In h) (G : h.Ns mainGlobals mg) {x : Str} {a : Addr} {es : Array DictEntry} {n : Nat} {tb : List (Str × D)} (e : PySem.W.nsIn K mainGlobals x = some (some (.ref a))) (l : K.lookup a = some ⟨.type "dict", none, .dict es n, #[]⟩) (hk : PySem.W.KeysLit w.params es.toList) (r : ∀ p ∈ tb, ∃ u, PySem.W.nsIn K a p.1 = some (some u) ∧ KRep K p.2 u) : ∃ a, mg x = some (.ref a) ∧ ∀ z d, tb.lookup z = some d → ∃ v, KDct K w a z v ∧ ∀ O H, Rep ⟨K, mg, w⟩ O H d v := by
  refine ⟨a, PySem.W.mg_of X G e, fun z d hz => ?_⟩
  obtain ⟨u, h1, v, h2, h3⟩ := r (z, d) (look_mem hz)
  exact ⟨v, ⟨es, n, u, l, hk, h1, h2⟩, h3 mg w⟩
/-- what the text says of an exception class -/
def ExcTop (K : PySem.W.Frag) (mg : Str → Option Value) (c : Str) : Prop := ∃ Ca, mg c = some (.ref Ca) ∧ PySem.W.excIn K Ca [.type "ValueError", .type "Exception", .type "BaseException", .type "object"] "ValueError.__new__" = true ∧ PySem.W.keepIn K (.ref Ca) = true ∧ PySem.W.subIn K (.ref Ca) (.type "BaseException") = some true ∧ PySem.W.typeIn K (.ref Ca) = some (.type "type")
theorem exc_top {K : PySem.W.Frag} {h : Heap} {mg : Str → Option Value} (X : K.In h) (G : h.Ns mainGlobals mg) {c : Str} {Ca : Addr} (e : PySem.W.nsIn K mainGlobals c = some (some (.ref Ca)))
    (h1 : PySem.W.excIn K Ca [.type "ValueError", .type "Exception", .type "BaseException", .type "object"] "ValueError.__new__" = true) (h2 : PySem.W.keepIn K (.ref Ca) = true) (h3 : PySem.W.subIn K (.ref Ca) (.type "BaseException") = some true) (h4 : PySem.W.typeIn K (.ref Ca) = some (.type "type")) : ExcTop K mg c :=
  ⟨Ca, PySem.W.mg_of X G e, h1, h2, h3, h4⟩
def ExmTop (K : PySem.W.Frag) (mg : Str → Option Value) (r c : Str) (b : Bool) : Prop := ∃ Ra Ca, mg r = some (.ref Ra) ∧ mg c = some (.ref Ca) ∧ PySem.W.exmOne K (.ref Ra) (.ref Ca) = some b
theorem exm_top {K : PySem.W.Frag} {h : Heap} {mg : Str → Option Value} (X : K.In h) (G : h.Ns mainGlobals mg) {r c : Str} {b : Bool} {Ra Ca : Addr} (e1 : PySem.W.nsIn K mainGlobals r = some (some (.ref Ra))) (e2 : PySem.W.nsIn K mainGlobals c = some (some (.ref Ca))) (e : PySem.W.exmOne K (.ref Ra) (.ref Ca) = some b) : ExmTop K mg r c b :=
  ⟨Ra, Ca, PySem.W.mg_of X G e1, PySem.W.mg_of X G e2, e⟩
def IsmTop (K : PySem.W.Frag) (mg : Str → Option Value) (r c : Str) (b : Bool) : Prop := ∃ Ma Ca, mg r = some (.ref Ma) ∧ mg c = some (.ref Ca) ∧ PySem.W.kitOne K (.ref Ma) (.ref Ca) = some b ∧ IsC K Ma
theorem ism_top {K : PySem.W.Frag} {h : Heap} {mg : Str → Option Value} (X : K.In h) (G : h.Ns mainGlobals mg) {r c : Str} {b : Bool} {Ra Ca : Addr} (e1 : PySem.W.nsIn K mainGlobals r = some (some (.ref Ra))) (e2 : PySem.W.nsIn K mainGlobals c = some (some (.ref Ca))) (e : PySem.W.kitOne K (.ref Ra) (.ref Ca) = some b) (i : IsC K Ra) : IsmTop K mg r c b :=
  ⟨Ra, Ca, PySem.W.mg_of X G e1, PySem.W.mg_of X G e2, e, i⟩
def IxmTop (K : PySem.W.Frag) (mg : Str → Option Value) (r c : Str) (b : Bool) : Prop := IxmOk K mg r c b
theorem ixm_top {K : PySem.W.Frag} {h : Heap} {mg : Str → Option Value} (X : K.In h) (G : h.Ns mainGlobals mg) {r c : Str} {b : Bool} {Ra Ca : Addr} (e1 : PySem.W.nsIn K mainGlobals r = some (some (.ref Ra))) (e2 : PySem.W.nsIn K mainGlobals c = some (some (.ref Ca))) (i : ExcC K Ra) (e : PySem.W.kitOne K (.ref Ra) (.ref Ca) = some b) : IxmTop K mg r c b :=
  ⟨Ra, .ref Ca, .ref Ca, PySem.W.mg_of X G e1, ⟨fun u h => h, rfl, .inl (PySem.W.mg_of X G e2)⟩, e, i⟩
theorem ixm_bltn {K : PySem.W.Frag} {h : Heap} {mg : Str → Option Value} (X : K.In h) (G : h.Ns mainGlobals mg) {r c : Str} {z : String} {b : Bool} {Ra : Addr} (e1 : PySem.W.nsIn K mainGlobals r = some (some (.ref Ra))) (e2 : PySem.W.nsIn K mainGlobals c = some none) (e3 : (bootBuiltins c = some (.type z)) ∧ c ≠ ("__name__" : Str) ∧ (c == ("__debug__" : Str)) = false) (i : ExcC K Ra) (e : PySem.W.kitOne K (.ref Ra) (.type z) = some b) : IxmTop K mg r c b :=
  ⟨Ra, .ty z, .type z, PySem.W.mg_of X G e1, ⟨fun u h => h, rfl, .inr ⟨PySem.W.mg_none_of X G e2, e3.1, e3.2.1, e3.2.2⟩⟩, e, i⟩
/-- what the text says of a def -/
def FnTop (I : Inf) (P : Program) (w : World) (K : PySem.W.Frag) (mg : Str → Option Value) (nm : Str) (st : Stmt) (ps : List Str) : Prop :=
  ∃ fa fd, FunR P w K mg nm st fa fd ∧ PySem.W.keepIn K (.ref fa) = true ∧ Binds K fd ps [] ∧ (I.has.contains nm = true → mg nm = some (.ref fa)) ∧
    (∀ dv, I.df.lookup nm = some dv → mg nm = some (.ref fa) ∧ ∃ us vs, Binds K fd ps us ∧ Vals vs us ∧ ∀ O H, Reps ⟨K, mg, w⟩ O H dv vs) ∧ ∀ p ∈ prs I.cls nm, ∃ Ca, mg p.1 = some (.ref Ca) ∧ Meth K Ca p.2 fa
theorem top_fn {I : Inf} {P : Program} {w : World} {K : PySem.W.Frag} {mg : Str → Option Value} {x : Str} {st : Stmt} {ps : List Str} (h : ∃ fa fd, L2.Fun K x x st fa fd ∧ mg x = some (.ref fa) ∧ Binds K fd ps []) (hd : (I.df.lookup x).isNone = true) (hp : (prs I.cls x).isEmpty = true) : FnTop I P w K mg x st ps := by
  obtain ⟨fa, fd, F, hm, b⟩ := h
  refine ⟨fa, fd, funR_fun F, F.kp, b, fun _ => hm, fun dv e => ?_, fun p q => ?_⟩
  · rw [e] at hd; cases hd
  · rw [List.isEmpty_iff.mp hp] at q; cases q
theorem top_fnD {I : Inf} {P : Program} {w : World} {K : PySem.W.Frag} {h : Heap} {mg : Str → Option Value} (X : K.In h) (G : h.Ns mainGlobals mg) {x : Str} {st : Stmt} {ps : List Str} {f : Addr} {oc : Value} {od an : Option Addr} {osl : Array (Option Value)} {kV doc pm cdv ct : Value} {T : Addr} {o : Obj} {its : List Value} {m : Nat} {dv : List D} {vs : List V}
    (hp : (prs I.cls x).isEmpty = true) (hd : I.df.lookup x = some dv) (hdv : dv ≠ []) (hle : dv.length ≤ ps.length)
    (a : PySem.W.nsIn K mainGlobals x = some (some (.ref f))) (l : K.lookup f = some ⟨oc, od, .func (PySem.W.fnOf x x (defArgs st) (defBody st) (defScope st) (.ref T) kV doc pm an cdv ct), osl⟩) (c : PySem.W.codeIn K cdv x = true) (k : PySem.W.keepIn K (.ref f) = true)
    (lT : K.lookup T = some o) (oT : o.data = .seq its.toArray m) (rT : Vals vs its) (hr : ∀ mg w O H, Reps ⟨K, mg, w⟩ O H dv vs)
    (b : ∀ (j : Nat), (j = 0 ∨ j = dv.length) → ∀ (T : Addr) (kV doc pm : Value) (an : Option Addr) (cdv ct : Value) (us its : List Value), us.length = ps.length - (dv.length - j) → its.length = dv.length →
      ∃ k, bindArgs (PySem.W.fnOf x x (defArgs st) (defBody st) (defScope st) (.ref T) kV doc pm an cdv ct) ⟨us, []⟩ = seqItems? (.ref T) >>= k ∧ k (some its.toArray) = pure (ps.zip (us ++ its.drop j))) : FnTop I P w K mg x st ps := by
  have hlen : vs.length = dv.length := (hr mg w (fun _ => False) (fun _ => none)).length
  have hv0 : vs ≠ [] := fun z => hdv (List.length_eq_zero_iff.mp (by rw [← hlen, z]; rfl))
  have F : L2.FunD K x x (defArgs st) (defBody st) (defScope st) vs [] f (PySem.W.fnOf x x (defArgs st) (defBody st) (defScope st) (.ref T) kV doc pm an cdv ct) :=
    ⟨⟨oc, od, .ref T, kV, doc, pm, an, cdv, ct, osl, rfl, l, c, .inr ⟨hv0, T, o, its, m, rfl, lT, oT, rT⟩, .inl rfl⟩, k⟩
  have hm := PySem.W.mg_of X G a
  obtain ⟨d1, v1, b1⟩ := F.binds1 (ps := ps) ps.length dv.length hv0 (by rw [hlen]; omega) (fun T kV doc pm an cdv ct us its q1 q2 => b dv.length (.inr rfl) T kV doc pm an cdv ct us its (by rw [q1]; omega) (by rw [q2, hlen]))
  obtain ⟨d2, v2, b2⟩ := F.binds1 (ps := ps) (ps.length - dv.length) 0 hv0 (by rw [hlen]; omega) (fun T kV doc pm an cdv ct us its q1 q2 => b 0 (.inl rfl) T kV doc pm an cdv ct us its (by rw [q1]; omega) (by rw [q2, hlen]))
  rw [List.drop_eq_nil_of_le (by omega)] at v1
  cases v1
  refine ⟨f, _, funR_funD F, k, b1, fun _ => hm, fun dv' e => ?_, fun p q => ?_⟩
  · rw [hd] at e
    cases e
    exact ⟨hm, d2, vs, b2, v2, fun O H => hr mg w O H⟩
  · rw [List.isEmpty_iff.mp hp] at q; cases q
theorem top_mth {I : Inf} {P : Program} {w : World} {K : PySem.W.Frag} {h : Heap} {mg : Str → Option Value} (X : K.In h) {x qual c0 : Str} {st : Stmt} {ps : List Str} {f C : Addr} {oc : Value} {od an : Option Addr} {osl : Array (Option Value)} {kV doc pm cdv ct : Value} {prl : List (Str × Str)}
    (hh : I.has.contains qual = false) (hd : (I.df.lookup qual).isNone = true) (hp : prs I.cls qual = prl)
    (b : ∀ (kV doc pm : Value) (an : Option Addr) (cdv ct : Value) (us : List Value), us.length = ps.length → bindArgs (PySem.W.fnOf x qual (defArgs st) (defBody st) (defScope st) .none kV doc pm an cdv ct) ⟨us, []⟩ = pure (ps.zip us))
    (e0 : PySem.W.nsIn K mainGlobals c0 = some (some (.ref C))) (a : PySem.W.findIn K (.ref C) x = some (some (.ref f))) (l : K.lookup f = some ⟨oc, od, .func (PySem.W.fnOf x qual (defArgs st) (defBody st) (defScope st) .none kV doc pm an cdv ct), osl⟩) (c : PySem.W.codeIn K cdv qual = true) (k : PySem.W.keepIn K (.ref f) = true)
    (hq : ∀ p ∈ prl, ∃ Ca, mg p.1 = some (.ref Ca) ∧ Meth K Ca p.2 f) : FnTop I P w K mg qual st ps := by
  have F := fun_mk (st := st) l c k
  refine ⟨f, _, funR_fun F, k, F.binds b, fun z => ?_, fun dv e => ?_, fun p q => hq p (hp ▸ q)⟩
  · rw [hh] at z; cases z
  · rw [e] at hd; cases hd
/-- what the text says of a class that is made -/
def ClsTop (P : Program) (w : World) (K : PySem.W.Frag) (mg : Str → Option Value) (c : Str) (fds : List Str) : Prop :=
  ∃ Ca, mg c = some (.ref Ca) ∧ Cls K Ca ∧ (∀ f ∈ fds, NoAttr K Ca f) ∧ ∃ f fd ps, Mk K Ca f ∧ Binds K fd ps [] ∧ ∀ base k, FnOk P w K mg base CX0 (k + 1) f fd ps (spI Ca fds)
theorem top_cls {P : Program} {w : World} {K : PySem.W.Frag} {h : Heap} {mg : Str → Option Value} (X : K.In h) (G : h.Ns mainGlobals mg) {c qual : Str} {fds : List Str} {st : Stmt} {f C : Addr} {oc : Value} {od an : Option Addr} {osl : Array (Option Value)} {kV doc pm cdv ct : Value}
    (a : PySem.W.nsIn K mainGlobals c = some (some (.ref C))) (cl : Cls K C) (na : ∀ g ∈ fds, NoAttr K C g) (m1 : PySem.W.makesIn K C = true) (m2 : PySem.W.findIn K (.ref C) "__init__" = some (some (.ref f))) (m3 : PySem.W.isFn K (.ref f) = true) (m4 : PySem.W.keepIn K (.ref C) = true)
    (b : ∀ (kV doc pm : Value) (an : Option Addr) (cdv ct : Value) (us : List Value), us.length = (Str.ofString "self" :: fds).length → bindArgs (PySem.W.fnOf "__init__" qual (defArgs st) (defBody st) (defScope st) .none kV doc pm an cdv ct) ⟨us, []⟩ = pure ((Str.ofString "self" :: fds).zip us))
    (l : K.lookup f = some ⟨oc, od, .func (PySem.W.fnOf "__init__" qual (defArgs st) (defBody st) (defScope st) .none kV doc pm an cdv ct), osl⟩) (cd : PySem.W.codeIn K cdv qual = true) (k : PySem.W.keepIn K (.ref f) = true)
    (ck : (ckInit fds st && scC (Str.ofString "self" :: fds) (Str.ofString "self" :: fds) (defScope st)) = true) : ClsTop P w K mg c fds := by
  have F := fun_mk (st := st) l cd k
  exact ⟨C, PySem.W.mg_of X G a, cl, na, f, _, _, ⟨m1, m2, m3, m4⟩, F.binds b, fun base j => init_ok F cl na ck⟩
/-- the law, by its word -/
theorem law_top {I : Inf} {fs : List Fi} {P : Program} {w : World} {K : PySem.W.Frag} {mg : Str → Option Value} {tx : Nat → Stmt} {fi : Fi} {k : Nat} {x : Str} {fa : Addr} (M : ModOk I fs P w K mg tx) (hm : fi ∈ fs) (hp : fi.ps = [x]) {lfd : FuncData} (F : L2.Fun K fi.nm fi.nm (tx fi.pl) fa lfd)
    (hb : ∀ kV doc pm an cdv ct (s : Shared) (u : Value), BindsTo s (PySem.W.fnOf fi.nm fi.nm (defArgs (tx fi.pl)) (defBody (tx fi.pl)) (defScope (tx fi.pl)) .none kV doc pm an cdv ct) ⟨[u], []⟩ [(x, u)])
    (hl : ∀ ns : List Int, ns.length ≤ 63 → ∃ b, run I fs k fi.nm [.kl (ns.map D.int)] = .ok (.bl true, b)) :
    ∃ fd : FuncData, (∀ (s : Shared) (u : Value), BindsTo s fd ⟨[u], []⟩ [(x, u)]) ∧ ∀ base : Heap, K.In base → base.Ns mainGlobals mg → FnOk P w K mg base (L2.CX P w) k fa fd [x] (spLaw K) := by
  obtain ⟨oc, od, kV, doc, pm, an, cdv, ct, osl, rfl, lk, hcd⟩ := F.ex
  exact ⟨_, hb _ _ _ _ _ _, fun base _ _ => hp ▸ (fns_ok M k fi hm fa _ (funR_fun F)).imp (law_sp hl)⟩
theorem law_walk {l : PySem.W.OpenLaw} {q : Program} {loose : List Str} {XP : (Str → Option Value) → Heap → Prop} {YP : World → Heap → Prop} {d : DefRec} {K : Params → PySem.W.Frag} {k : Nat} {x : Str} (hk : Room k callerA) (hn : l.most = some 63) (hdf : d.params.defaults = [])
    (hY : ∀ (w : World) (h : Heap), YP w h → (K w.params).In h)
    (F : ∀ (w : World) (mg : Str → Option Value) (fa : Addr) (h : Heap), (K w.params).In h → h.Ns mainGlobals mg → mg d.name = some (.ref fa) →
      ∃ fd : FuncData, (∀ (s : Shared) (u : Value), BindsTo s fd ⟨[u], []⟩ [(x, u)]) ∧ ∀ base : Heap, (K w.params).In base → base.Ns mainGlobals mg → FnOk l.prog w (K w.params) mg base (L2.CX l.prog w) k fa fd [x] (spLaw (K w.params))) :
    PySem.W.WalkO q loose XP YP l.row.toRowW d [] (fun f vs => PySem.call f vs) :=
  L2.walk_of (n := 63) (k := k) (x := x) (CX := fun w => L2.CX l.prog w) (sp := fun w => spLaw (K w.params)) hn (by decide) hdf hk hY F (fun _ H a ns hl ho hS => ⟨a, ns, rfl, hl, ho, hS, fun _ => rfl⟩) fun w H s e s' z => by
    obtain ⟨_, _, _, _, _, _, _, _, _, _, _, _, z⟩ := z
    exact z
theorem run_eq {I : Inf} {fs : List Fi} {n : Nat} {fi : Fi} {ds : List D} (nd : (fs.map (·.nm)).Nodup) (hm : fi ∈ fs) (hl : ds.length = fi.ps.length) : run I fs (n + 1) fi.nm ds = (evSs ⟨run I fs n, I⟩ fi.body (ds.map Sl.val ++ List.replicate (fi.N.length - ds.length) .no)).fin := by
  show (match fs.find? (fun x => decide (x.nm = fi.nm)) with | some fi => if ds.length = fi.ps.length then (evSs ⟨run I fs n, I⟩ fi.body (ds.map Sl.val ++ List.replicate (fi.N.length - ds.length) Sl.no)).fin else .bad | none => if fi.nm = Str.empty then (match n with | 0 => Rz.bad | _ + 1 => .ok (.non, false)) else Rz.bad) = _
  rw [find_nd nd hm]
  dsimp only
  rw [if_pos hl]
end DL

namespace DL
open PySem PySem.Spec L2

theorem nrfl {α : Sort _} {a b : α} (h : a = b) : a = b := h
/-! ### one step at a time, no lambdas -/
/-- a loop's body has come to its end -/
def Out.wh (o : Out) (f : List Sl → Out) : Out := match o with
  | .nx ρ => f ρ
  | .brk ρ => .nx ρ
  | o => o
theorem wh_nx (ρ : List Sl) (f : List Sl → Out) : (Out.nx ρ).wh f = f ρ := nrfl rfl
theorem wh_brk (ρ : List Sl) (f : List Sl → Out) : (Out.brk ρ).wh f = .nx ρ := nrfl rfl
theorem wh_ret (d : D) (b : Bool) (f : List Sl → Out) : (Out.ret d b).wh f = .ret d b := nrfl rfl
theorem wh_exc (c : Str) (ρ : List Sl) (f : List Sl → Out) : (Out.exc c ρ).wh f = .exc c ρ := nrfl rfl
theorem wh_ite {c : Prop} [Decidable c] (x y : Out) (f : List Sl → Out) : (if c then x else y).wh f = if c then x.wh f else y.wh f := by split <;> rfl
theorem seq_nx (ρ : List Sl) (f : List Sl → Out) : (Out.nx ρ).seq f = f ρ := nrfl rfl
theorem seq_ret (d : D) (b : Bool) (f : List Sl → Out) : (Out.ret d b).seq f = .ret d b := nrfl rfl
theorem seq_brk (ρ : List Sl) (f : List Sl → Out) : (Out.brk ρ).seq f = .brk ρ := nrfl rfl
theorem seq_exc (c : Str) (ρ : List Sl) (f : List Sl → Out) : (Out.exc c ρ).seq f = .exc c ρ := nrfl rfl
theorem seq_ite {c : Prop} [Decidable c] (x y : Out) (f : List Sl → Out) : (if c then x else y).seq f = if c then x.seq f else y.seq f := by split <;> rfl
theorem fin_nx (ρ : List Sl) : (Out.nx ρ).fin = .ok (.non, false) := nrfl rfl
theorem fin_ret (d : D) (b : Bool) : (Out.ret d b).fin = .ok (d, b) := nrfl rfl
theorem fin_exc (c : Str) (ρ : List Sl) : (Out.exc c ρ).fin = .exc c := nrfl rfl
theorem fin_ite {c : Prop} [Decidable c] (x y : Out) : (if c then x else y).fin = if c then x.fin else y.fin := by split <;> rfl
noncomputable def whlS (C : DL.Ctx) (c : T) (b : Ss) (ρ : List Sl) : Out := wLoop (evT C c) (evSs C b) ρ
noncomputable def frS (C : DL.Ctx) (tg : Tg) (b : Ss) (ds : List D) (ρ : List Sl) : Out := fLoop tg (evSs C b) ds ρ
def compS (C : DL.Ctx) (tg : Tg) (c : T) (e : E) (ds acc : List D) (ρ : List Sl) : Rz (List D) := cLoop tg (evT C c) (ev C e) ρ ds acc
section
variable (C : DL.Ctx) (ρ : List Sl)
noncomputable def whT (c : T) (b : Ss) (r : Rz Bool) : Out := match r with
  | .ok k => if k = true then (evSs C b ρ).wh (whlS C c b) else .nx ρ
  | .exc x => .exc x ρ
  | .bad => .bad
theorem whT_ok (c : T) (b : Ss) (k : Bool) : whT C ρ c b (.ok k) = if k = true then (evSs C b ρ).wh (whlS C c b) else .nx ρ := nrfl rfl
theorem whT_exc (c : T) (b : Ss) (x : Str) : whT C ρ c b (.exc x) = .exc x ρ := nrfl rfl
theorem whl_turn (c : T) (b : Ss) : whlS C c b ρ = whT C ρ c b (evT C c ρ) := by
  unfold whlS whT
  rw [wLoop_turn]
  cases evT C c ρ with
  | ok k => cases k with
    | true => cases evSs C b ρ <;> rfl
    | false => rfl
  | exc c => rfl
  | bad => rfl
theorem fr_nil (tg : Tg) (b : Ss) : frS C tg b [] ρ = .nx ρ := nrfl rfl
theorem fr_one (i : Nat) (b : Ss) (d : D) (ds : List D) : frS C (.one i) b (d :: ds) ρ = (evSs C b (ρ.set i (.val d))).wh (frS C (.one i) b ds) := by
  show (match evSs C b (ρ.set i (.val d)) with | .nx ρ2 => fLoop (.one i) (evSs C b) ds ρ2 | .brk ρ2 => .nx ρ2 | o => o) = _
  cases evSs C b (ρ.set i (.val d)) <;> rfl
theorem fr_many {is : List Nat} {b : Ss} {xs : List D} {ds : List D} {ρ' : List Sl} (h : sets is xs ρ = some ρ') : frS C (.many is) b (.tup xs :: ds) ρ = (evSs C b ρ').wh (frS C (.many is) b ds) := by
  show (match sets is xs ρ with | none => Out.bad | some ρ' => match evSs C b ρ' with | .nx ρ2 => fLoop (.many is) (evSs C b) ds ρ2 | .brk ρ2 => .nx ρ2 | o => o) = _
  rw [h]
  dsimp only
  cases evSs C b ρ' <;> rfl
def varR (s : Option Sl) : R := match s with
  | some (.val d) => .ok (d, false)
  | _ => .bad
theorem var_val (d : D) : varR (some (.val d)) = .ok (d, false) := nrfl rfl
theorem e_var (i : Nat) : ev C (.var i) ρ = varR ρ[i]? := nrfl rfl
theorem e_lit (d : D) : ev C (.lit d) ρ = .ok (d, false) := nrfl rfl
def bin2 (o : Bop) (x y : R) : R := x.bind fun x => y.bind fun y => binD o x.1 y.1
theorem bin2_ok (o : Bop) (x y : D) (p q : Bool) : bin2 o (.ok (x, p)) (.ok (y, q)) = binD o x y := nrfl rfl
theorem e_bin (o : Bop) (a b : E) : ev C (.bin o a b) ρ = bin2 o (ev C a ρ) (ev C b ρ) := nrfl rfl
def negR (x : R) : R := x.bind fun x => match x.1 with
  | .int i => dInt (-i)
  | _ => .bad
theorem negR_int (i : Int) (p : Bool) : negR (.ok (.int i, p)) = .ok (.int (-i), false) := nrfl rfl
def notR (x : R) : R := x.bind fun x => match x.1 with
  | .bl i => dBl (!i)
  | _ => .bad
theorem notR_bl (i : Bool) (p : Bool) : notR (.ok (.bl i, p)) = .ok (.bl (!i), false) := nrfl rfl
theorem e_neg (a : E) : ev C (.neg a) ρ = negR (ev C a ρ) := nrfl rfl
theorem e_not (a : E) : ev C (.not a) ρ = notR (ev C a ρ) := nrfl rfl
def andR (b : E) (x : R) : R := x.bind fun x => match x.1 with
  | .bl true => ev C b ρ
  | .bl false => dBl false
  | _ => .bad
def orR (b : E) (x : R) : R := x.bind fun x => match x.1 with
  | .bl true => dBl true
  | .bl false => ev C b ρ
  | _ => .bad
theorem e_and (a b : E) : ev C (.and a b) ρ = andR C ρ b (ev C a ρ) := nrfl rfl
theorem e_or (a b : E) : ev C (.or a b) ρ = orR C ρ b (ev C a ρ) := nrfl rfl
theorem andR_bl (b : E) (k p : Bool) : andR C ρ b (.ok (.bl k, p)) = if k = true then ev C b ρ else .ok (.bl false, false) := by cases k <;> rfl
theorem orR_bl (b : E) (k p : Bool) : orR C ρ b (.ok (.bl k, p)) = if k = true then .ok (.bl true, false) else ev C b ρ := by cases k <;> rfl
def cmp2 (o : Cop) (x y : R) : R := x.bind fun x => y.bind fun y => cmpD o x.1 y.1
theorem cmp2_ok (o : Cop) (x y : D) (p q : Bool) : cmp2 o (.ok (x, p)) (.ok (y, q)) = cmpD o x y := nrfl rfl
theorem e_cmp (o : Cop) (a b : E) : ev C (.cmp o a b) ρ = cmp2 o (ev C a ρ) (ev C b ρ) := nrfl rfl
def chnR (o' : Cop) (c : E) (y : R) (z : R) : R := z.bind fun z => match z.1 with
  | .bl true => y.bind fun y => (ev C c ρ).bind fun w => cmpD o' y.1 w.1
  | .bl false => dBl false
  | _ => .bad
theorem chnR_bl (o' : Cop) (c : E) (y : D) (k p q : Bool) : chnR C ρ o' c (.ok (y, q)) (.ok (.bl k, p)) = if k = true then cmp2 o' (.ok (y, q)) (ev C c ρ) else .ok (.bl false, false) := by cases k <;> rfl
theorem e_chn (o o' : Cop) (a b c : E) : ev C (.chn o o' a b c) ρ = chnR C ρ o' c (ev C b ρ) (cmp2 o (ev C a ρ) (ev C b ρ)) := by
  show (ev C a ρ).bind _ = _
  unfold chnR cmp2
  cases ev C a ρ with
  | ok x =>
    cases ev C b ρ with
    | ok y =>
      show (cmpD o x.1 y.1).bind _ = (cmpD o x.1 y.1).bind _
      rfl
    | exc c => rfl
    | bad => rfl
  | exc c => rfl
  | bad => rfl
def tupR (x : Rz (List D)) : R := x.bind fun ds => if ds.length ≤ LIM then .ok (.tup ds, false) else .bad
def lstR' (x : Rz (List D)) : R := x.bind fun ds => if ds.length ≤ LIM then .ok (.lst ds, true) else .bad
theorem tupR_ok (ds : List D) : tupR (.ok ds) = if ds.length ≤ LIM then .ok (.tup ds, false) else .bad := nrfl rfl
theorem lstR_ok (ds : List D) : lstR' (.ok ds) = if ds.length ≤ LIM then .ok (.lst ds, true) else .bad := nrfl rfl
theorem tup1 (a : D) : tupR (.ok [a]) = .ok (.tup [a], false) := nrfl rfl
theorem tup2 (a b : D) : tupR (.ok [a, b]) = .ok (.tup [a, b], false) := nrfl rfl
theorem tup3 (a b c : D) : tupR (.ok [a, b, c]) = .ok (.tup [a, b, c], false) := nrfl rfl
theorem tup4 (a b c d : D) : tupR (.ok [a, b, c, d]) = .ok (.tup [a, b, c, d], false) := nrfl rfl
theorem tup0 : tupR (.ok []) = .ok (.tup [], false) := nrfl rfl
theorem lst0 : lstR' (.ok []) = .ok (.lst [], true) := nrfl rfl
theorem lst1 (a : D) : lstR' (.ok [a]) = .ok (.lst [a], true) := nrfl rfl
theorem lst2 (a b : D) : lstR' (.ok [a, b]) = .ok (.lst [a, b], true) := nrfl rfl
theorem lst3 (a b c : D) : lstR' (.ok [a, b, c]) = .ok (.lst [a, b, c], true) := nrfl rfl
theorem lst4 (a b c d : D) : lstR' (.ok [a, b, c, d]) = .ok (.lst [a, b, c, d], true) := nrfl rfl
theorem lst5 (a b c d e : D) : lstR' (.ok [a, b, c, d, e]) = .ok (.lst [a, b, c, d, e], true) := nrfl rfl
theorem e_tup (es : Es) : ev C (.tup es) ρ = tupR (evs C es ρ) := nrfl rfl
theorem e_lst (es : Es) : ev C (.lst es) ρ = lstR' (evs C es ρ) := nrfl rfl
def idx2 (x y : R) : R := x.bind fun x => y.bind fun y => ixD x.1 y.1
theorem idx2_ok (x y : D) (p q : Bool) : idx2 (.ok (x, p)) (.ok (y, q)) = ixD x y := nrfl rfl
theorem e_idx (a i : E) : ev C (.idx a i) ρ = idx2 (ev C a ρ) (ev C i ρ) := nrfl rfl
def slc3 (x : R) (l h : Rz (Option Int)) : R := x.bind fun x => l.bind fun l => h.bind fun h => slD x.1 l h
theorem slc3_ok (x : D) (p : Bool) (l h : Option Int) : slc3 (.ok (x, p)) (.ok l) (.ok h) = slD x l h := nrfl rfl
theorem e_slc (a : E) (lo hi : Pt) : ev C (.slc a lo hi) ρ = slc3 (ev C a ρ) (evP C lo ρ) (evP C hi ρ) := nrfl rfl
def calR (g : Str → List D → R) (f : Str) (x : Rz (List D)) : R := x.bind fun ds => g f ds
theorem calR_ok (g : Str → List D → R) (f : Str) (ds : List D) : calR g f (.ok ds) = g f ds := nrfl rfl
theorem e_call (f : Str) (es : Es) : ev C (.call f es) ρ = calR C.cal f (evs C es ρ) := nrfl rfl
def bfR (f : BF) (x : Rz (List D)) : R := x.bind fun ds => bfD f ds
theorem bfR_ok (f : BF) (ds : List D) : bfR f (.ok ds) = bfD f ds := nrfl rfl
theorem e_bf (f : BF) (es : Es) : ev C (.bf f es) ρ = bfR f (evs C es ρ) := nrfl rfl
def isiR (t : Ty) (x : R) : R := x.bind fun x => if hasTy x.1 then dBl (isTy t x.1) else .bad
theorem isiR_int (t : Ty) (i : Int) (p : Bool) : isiR t (.ok (.int i, p)) = .ok (.bl (decide (t = .int)), false) := by cases t <;> rfl
theorem isiR_bl (t : Ty) (i : Bool) (p : Bool) : isiR t (.ok (.bl i, p)) = .ok (.bl (decide (t = .int) || decide (t = .bool)), false) := by cases t <;> rfl
theorem isiR_str (t : Ty) (i : Str) (p : Bool) : isiR t (.ok (.str i, p)) = .ok (.bl (decide (t = .str)), false) := by cases t <;> rfl
theorem isiR_tup (t : Ty) (i : List D) (p : Bool) : isiR t (.ok (.tup i, p)) = .ok (.bl (decide (t = .tuple)), false) := by cases t <;> rfl
theorem isiR_lst (t : Ty) (i : List D) (p : Bool) : isiR t (.ok (.lst i, p)) = .ok (.bl (decide (t = .list)), false) := by cases t <;> rfl
theorem isiR_non (t : Ty) (p : Bool) : isiR t (.ok (.non, p)) = .ok (.bl false, false) := by cases t <;> rfl
theorem e_isi (a : E) (t : Ty) : ev C (.isi a t) ρ = isiR t (ev C a ρ) := nrfl rfl
def lentR (x : R) : R := x.bind lentOk
theorem lentR_ok (d : D) (p : Bool) : lentR (.ok (d, p)) = lentOk (d, p) := nrfl rfl
theorem e_lent (is : List Nat) (a : E) : ev C (.lent is a) ρ = lentR (ev C a (thaw is ρ)) := nrfl rfl
def compR (tg : Tg) (cnd : T) (elt : E) (ρ : List Sl) (x : Rz (List D)) : R := x.bind fun ds => (compS C tg cnd elt ds [] ρ).bind fun ys => .ok (.lst ys, true)
def lstT (x : Rz (List D)) : R := x.bind fun ys => .ok (.lst ys, true)
theorem lstT_ok (ys : List D) : lstT (.ok ys) = .ok (.lst ys, true) := nrfl rfl
theorem compR_ok (tg : Tg) (cnd : T) (elt : E) (ρ : List Sl) (ds : List D) : compR C tg cnd elt ρ (.ok ds) = lstT (compS C tg cnd elt ds [] ρ) := nrfl rfl
theorem e_comp (tg : Tg) (it : It) (cnd : T) (elt : E) (own : List (Str × Nat)) : ev C (.comp tg it cnd elt own) ρ = compR C tg cnd elt (wipeS ρ (own.map (·.2))) (evIt C it ρ) := nrfl rfl
def blR (x : R) : Rz Bool := x.bind fun z => match z.1 with
  | .bl k => .ok k
  | _ => .bad
theorem blR_bl (k p : Bool) : blR (.ok (.bl k, p)) = .ok k := nrfl rfl
noncomputable def andB (b : T) (x : Rz Bool) : Rz Bool := x.bind fun x => if x = true then evT C b ρ else .ok false
noncomputable def orB (b : T) (x : Rz Bool) : Rz Bool := x.bind fun x => if x = true then .ok true else evT C b ρ
theorem andB_ok (b : T) (k : Bool) : andB C ρ b (.ok k) = if k = true then evT C b ρ else .ok false := nrfl rfl
theorem orB_ok (b : T) (k : Bool) : orB C ρ b (.ok k) = if k = true then .ok true else evT C b ρ := nrfl rfl
def notB (x : Rz Bool) : Rz Bool := x.bind fun x => .ok (!x)
theorem notB_ok (k : Bool) : notB (.ok k) = .ok (!k) := nrfl rfl
theorem t_and' (a b : T) : evT C (.and a b) ρ = andB C ρ b (evT C a ρ) := nrfl rfl
theorem t_or' (a b : T) : evT C (.or a b) ρ = orB C ρ b (evT C a ρ) := nrfl rfl
theorem t_not' (a : T) : evT C (.not a) ρ = notB (evT C a ρ) := nrfl rfl
theorem t_cmp' (o : Cop) (a b : E) : evT C (.cmp o a b) ρ = blR (cmp2 o (ev C a ρ) (ev C b ρ)) := by
  show (ev C a ρ).bind _ = _
  unfold blR cmp2
  cases ev C a ρ with
  | ok x => cases ev C b ρ <;> rfl
  | exc c => rfl
  | bad => rfl
theorem t_chn' (o o' : Cop) (a b c : E) : evT C (.chn o o' a b c) ρ = blR (chnR C ρ o' c (ev C b ρ) (cmp2 o (ev C a ρ) (ev C b ρ))) := by
  show (ev C a ρ).bind _ = _
  unfold blR chnR cmp2
  cases ev C a ρ with
  | ok x =>
    cases ev C b ρ with
    | ok y =>
      simp only [Rz.bind_ok]
      cases cmpD o x.1 y.1 with
      | ok z =>
        simp only [Rz.bind_ok]
        obtain ⟨z, fr⟩ := z
        cases z with
        | bl k =>
          cases k with
          | true => cases ev C c ρ <;> rfl
          | false => rfl
        | _ => rfl
      | exc c => rfl
      | bad => rfl
    | exc c => rfl
    | bad => rfl
  | exc c => rfl
  | bad => rfl
theorem t_lent' (is : List Nat) (a : T) : evT C (.lent is a) ρ = evT C a (thaw is ρ) := nrfl rfl
def truR (x : R) : Rz Bool := x.bind fun x => truthD x.1
theorem truR_ok (d : D) (p : Bool) : truR (.ok (d, p)) = truthD d := nrfl rfl
theorem t_v' (e : E) : evT C (.v e) ρ = truR (ev C e ρ) := nrfl rfl
theorem t_yes' : evT C .yes ρ = .ok true := nrfl rfl
def consR (x : R) (xs : Rz (List D)) : Rz (List D) := x.bind fun x => xs.bind fun xs => .ok (x.1 :: xs)
theorem consR_ok (d : D) (p : Bool) (ds : List D) : consR (.ok (d, p)) (.ok ds) = .ok (d :: ds) := nrfl rfl
theorem es_nil : evs C .nil ρ = .ok [] := nrfl rfl
theorem es_cons (e : E) (es : Es) : evs C (.cons e es) ρ = consR (ev C e ρ) (evs C es ρ) := nrfl rfl
theorem p_no : evP C .no ρ = .ok none := nrfl rfl
def inR (x : R) : Rz (Option Int) := x.bind fun x => match x.1 with
  | .int i => .ok (some i)
  | _ => .bad
theorem inR_int (i : Int) (p : Bool) : inR (.ok (.int i, p)) = .ok (some i) := nrfl rfl
theorem p_at (e : E) : evP C (.at e) ρ = inR (ev C e ρ) := nrfl rfl
def itsR (x : R) : Rz (List D) := x.bind fun x => match itemsOf x.1 with
  | some ds => .ok ds
  | none => .bad
theorem itsR_lst (ds : List D) (p : Bool) : itsR (.ok (.lst ds, p)) = .ok ds := nrfl rfl
theorem itsR_tup (ds : List D) (p : Bool) : itsR (.ok (.tup ds, p)) = .ok ds := nrfl rfl
theorem itsR_kl (ds : List D) (p : Bool) : itsR (.ok (.kl ds, p)) = .ok ds := nrfl rfl
theorem i_seq' (e : E) : evIt C (.seq e) ρ = itsR (ev C e ρ) := nrfl rfl
def rng1D (x : R) : Rz (List D) := x.bind fun x => match x.1 with
  | .int j => if RNG j ∧ j.toNat ≤ LIM then .ok (rngD 0 j.toNat) else .bad
  | _ => .bad
def rng2D (x y : R) : Rz (List D) := x.bind fun x => y.bind fun y => match x.1, y.1 with
    | .int i, .int j => if (RNG i ∧ RNG j) ∧ (j - i).toNat ≤ LIM then .ok (rngD i (j - i).toNat) else .bad
    | _, _ => .bad
theorem rng_small {i : Int} (h : -1000000 < i ∧ i < 1000000) : RNG i := by unfold RNG; omega
theorem rng1_int {i : Int} {p : Bool} (h : i < 1000000) (h0 : -1000000 < i) : rng1D (.ok (.int i, p)) = .ok (rngD 0 i.toNat) := by
  have e : LIM = 16777216 := rfl
  have h1 : i.toNat ≤ LIM := by rw [e]; omega
  exact if_pos ⟨rng_small ⟨h0, h⟩, h1⟩
theorem rng1_nat {n : Nat} {p : Bool} (h : n < 1000000) : rng1D (.ok (.int (n : Nat), p)) = .ok (rngD 0 n) := by
  have := rng1_int (i := (n : Int)) (p := p) (by omega) (by omega)
  rw [Int.toNat_natCast] at this
  exact this
theorem i_rng1' (e : E) : evIt C (.rng1 e) ρ = rng1D (ev C e ρ) := nrfl rfl
theorem i_rng2' (a b : E) : evIt C (.rng2 a b) ρ = rng2D (ev C a ρ) (ev C b ρ) := nrfl rfl
theorem ss_nil : evSs C .nil ρ = .nx ρ := nrfl rfl
theorem ss_cons (s : S) (ss : Ss) : evSs C (.cons s ss) ρ = (evS C s ρ).seq (evSs C ss) := nrfl rfl
def setF (i : Nat) (x : R) : Out := x.out ρ fun p => .nx (ρ.set i (.val p.1))
theorem setF_ok (i : Nat) (d : D) (p : Bool) : setF ρ i (.ok (d, p)) = .nx (ρ.set i (.val d)) := nrfl rfl
theorem setF_exc (i : Nat) (c : Str) : setF ρ i (.exc c) = .exc c ρ := nrfl rfl
theorem s_setF (i : Nat) (e : E) : evS C (.set i false e) ρ = setF ρ i (ev C e ρ) := nrfl rfl
def setT (i : Nat) (x : R) : Out := x.out ρ fun p => if p.2 = true then .nx (ρ.set i (.own p.1)) else .bad
theorem setT_ok (i : Nat) (d : D) : setT ρ i (.ok (d, true)) = .nx (ρ.set i (.own d)) := nrfl rfl
theorem setT_exc (i : Nat) (c : Str) : setT ρ i (.exc c) = .exc c ρ := nrfl rfl
theorem s_setT (i : Nat) (e : E) : evS C (.set i true e) ρ = setT ρ i (ev C e ρ) := nrfl rfl
def unpR (is : List Nat) (x : R) : Out := x.out ρ fun p => match Tg.bind (.many is) p.1 ρ with
  | some ρ' => .nx ρ'
  | none => .bad
theorem unp_two (i j : Nat) (d e : D) (p : Bool) : unpR ρ [i, j] (.ok (.tup [d, e], p)) = .nx ((ρ.set i (.val d)).set j (.val e)) := nrfl rfl
theorem unp_three (i j k : Nat) (d e f : D) (p : Bool) : unpR ρ [i, j, k] (.ok (.tup [d, e, f], p)) = .nx (((ρ.set i (.val d)).set j (.val e)).set k (.val f)) := nrfl rfl
theorem s_unp (is : List Nat) (e : E) : evS C (.unp is e) ρ = unpR ρ is (ev C e ρ) := nrfl rfl
def expR (x : R) : Out := x.out ρ fun _ => .nx ρ
theorem expR_ok (d : D × Bool) : expR ρ (.ok d) = .nx ρ := nrfl rfl
theorem expR_exc (c : Str) : expR ρ (.exc c) = .exc c ρ := nrfl rfl
theorem s_exp (e : E) : evS C (.exp e) ρ = expR ρ (ev C e ρ) := nrfl rfl
def appA (i : Nat) (s : Option Sl) (x : R) : Out := match s with
  | some (Sl.own (.lst xs)) => x.out ρ fun p => if xs.length < LIM then .nx (ρ.set i (.own (.lst (xs ++ [p.1])))) else .bad
  | _ => .bad
theorem s_app (i : Nat) (e : E) : evS C (.app i e) ρ = appA ρ i ρ[i]? (ev C e ρ) := by
  show ownL ρ i ((ev C e ρ).out ρ fun p => appS ρ i [p.1]) = _
  unfold ownL appA
  cases h : ρ[i]? with
  | none => rfl
  | some s =>
    cases s with
    | no => rfl
    | val d => rfl
    | own d =>
      cases d with
      | lst xs =>
        show (ev C e ρ).out ρ _ = (ev C e ρ).out ρ _
        cases ev C e ρ with
        | ok p => show appS ρ i [p.1] = _; rw [appS_own h]; rfl
        | exc c => rfl
        | bad => rfl
      | _ => rfl
theorem appA_own (i : Nat) (xs : List D) (d : D) (p : Bool) : appA ρ i (some (.own (.lst xs))) (.ok (d, p)) = if xs.length < LIM then .nx (ρ.set i (.own (.lst (xs ++ [d])))) else .bad := nrfl rfl
theorem appA_exc (i : Nat) (xs : List D) (c : Str) : appA ρ i (some (.own (.lst xs))) (.exc c) = .exc c ρ := nrfl rfl
def extA (i : Nat) (s : Option Sl) (x : R) : Out := match s with
  | some (Sl.own (.lst xs)) => x.out ρ fun p => match p.1 with
    | .lst ys => if xs.length + ys.length ≤ LIM then .nx (ρ.set i (.own (.lst (xs ++ ys)))) else .bad
    | _ => .bad
  | _ => .bad
theorem s_ext (i : Nat) (e : E) : evS C (.ext i e) ρ = extA ρ i ρ[i]? (ev C e ρ) := by
  show ownL ρ i ((ev C e ρ).out ρ fun p => match p.1 with | .lst ys => appS ρ i ys | _ => .bad) = _
  unfold ownL extA
  cases h : ρ[i]? with
  | none => rfl
  | some s =>
    cases s with
    | no => rfl
    | val d => rfl
    | own d =>
      cases d with
      | lst xs =>
        show (ev C e ρ).out ρ _ = (ev C e ρ).out ρ _
        cases ev C e ρ with
        | ok p =>
          obtain ⟨p, fr⟩ := p
          cases p with
          | lst ys => exact appS_own h
          | _ => rfl
        | exc c => rfl
        | bad => rfl
      | _ => rfl
theorem extA_own (i : Nat) (xs ys : List D) (p : Bool) : extA ρ i (some (.own (.lst xs))) (.ok (.lst ys, p)) = if xs.length + ys.length ≤ LIM then .nx (ρ.set i (.own (.lst (xs ++ ys)))) else .bad := nrfl rfl
def iscR (C : DL.Ctx) (c : Str) (x : R) : R := x.bind fun x => match x.1 with
  | .ins c0 _ => match C.inf.ism.lookup (c0, c) with
    | some b => dBl b
    | none => .bad
  | _ => .bad
theorem e_isc (a : E) (c : Str) : ev C (.isc a c) ρ = iscR C c (ev C a ρ) := nrfl rfl
theorem iscR_ins {c0 c : Str} {fs : List (Str × D)} {p b : Bool} (h : C.inf.ism.lookup (c0, c) = some b) : iscR C c (.ok (.ins c0 fs, p)) = .ok (.bl b, false) := by
  show (match C.inf.ism.lookup (c0, c) with | some b => dBl b | none => .bad) = _
  rw [h]; rfl
def isxR (C : DL.Ctx) (c : Str) (x : R) : R := x.bind fun x => match x.1 with
  | .exc c0 => match C.inf.ixm.lookup (c0, c) with
    | some b => dBl b
    | none => .bad
  | _ => .bad
theorem e_isx (a : E) (c : Str) : ev C (.isx a c) ρ = isxR C c (ev C a ρ) := nrfl rfl
theorem isxR_exc {c0 c : Str} {p b : Bool} (h : C.inf.ixm.lookup (c0, c) = some b) : isxR C c (.ok (.exc c0, p)) = .ok (.bl b, false) := by
  show (match C.inf.ixm.lookup (c0, c) with | some b => dBl b | none => .bad) = _
  rw [h]; rfl
def tryKO (C : DL.Ctx) (c : Str) (i j : Nat) : Out → Out
  | .exc r ρ' => match C.inf.exm.lookup (r, c) with
    | some true => .nx ((ρ'.set j (.val (.exc r))).set i .no)
    | some false => .exc r ρ'
    | none => .bad
  | o => o
theorem s_tryK (c : Str) (b : Ss) (i j : Nat) : evS C (.tryK c b i j) ρ = tryKO C c i j (evSs C b ρ) := by
  show (match evSs C b ρ with | .exc r ρ' => (match C.inf.exm.lookup (r, c) with | some true => Out.nx ((ρ'.set j (.val (.exc r))).set i .no) | some false => .exc r ρ' | none => .bad) | o => o) = _
  cases evSs C b ρ <;> rfl
theorem tryKO_nx (c : Str) (i j : Nat) : tryKO C c i j (.nx ρ) = .nx ρ := rfl
theorem tryKO_ret (c : Str) (i j : Nat) (d : D) (p : Bool) : tryKO C c i j (.ret d p) = .ret d p := rfl
theorem tryKO_exc {c : Str} {i j : Nat} {r : Str} (q : C.inf.exm.lookup (r, c) = some true) : tryKO C c i j (.exc r ρ) = .nx ((ρ.set j (.val (.exc r))).set i .no) := by
  show (match C.inf.exm.lookup (r, c) with | some true => Out.nx ((ρ.set j (.val (.exc r))).set i .no) | some false => .exc r ρ | none => .bad) = _
  rw [q]
theorem tryKO_pass {c : Str} {i j : Nat} {r : Str} (q : C.inf.exm.lookup (r, c) = some false) : tryKO C c i j (.exc r ρ) = .exc r ρ := by
  show (match C.inf.exm.lookup (r, c) with | some true => Out.nx ((ρ.set j (.val (.exc r))).set i .no) | some false => .exc r ρ | none => .bad) = _
  rw [q]
noncomputable def tryO (C : DL.Ctx) (c : Str) (h : S) : Out → Out
  | .exc r ρ' => match C.inf.exm.lookup (r, c) with
    | some true => evS C h ρ'
    | some false => .exc r ρ'
    | none => .bad
  | o => o
theorem s_try1 (c : Str) (b : Ss) (h : S) : evS C (.try1 c b h) ρ = tryO C c h (evSs C b ρ) := by
  show (match evSs C b ρ with | .exc r ρ' => (match C.inf.exm.lookup (r, c) with | some true => evS C h ρ' | some false => .exc r ρ' | none => .bad) | o => o) = _
  cases evSs C b ρ <;> rfl
theorem tryO_nx (c : Str) (h : S) : tryO C c h (.nx ρ) = .nx ρ := rfl
theorem tryO_ret (c : Str) (h : S) (d : D) (p : Bool) : tryO C c h (.ret d p) = .ret d p := rfl
theorem tryO_exc {c : Str} {h : S} {r : Str} (q : C.inf.exm.lookup (r, c) = some true) : tryO C c h (.exc r ρ) = evS C h ρ := by
  show (match C.inf.exm.lookup (r, c) with | some true => evS C h ρ | some false => .exc r ρ | none => .bad) = _
  rw [q]
theorem tryO_pass {c : Str} {h : S} {r : Str} (q : C.inf.exm.lookup (r, c) = some false) : tryO C c h (.exc r ρ) = .exc r ρ := by
  show (match C.inf.exm.lookup (r, c) with | some true => evS C h ρ | some false => .exc r ρ | none => .bad) = _
  rw [q]
def pop2A (i : Nat) (s : Option Sl) (x y : R) : Out := match s with
  | some (Sl.own (.dct false kvs)) => x.out ρ fun p => y.out ρ fun _ => match keyOf p.1 with
    | some k => .nx (ρ.set i (.own (.dct false (dropKD kvs k))))
    | none => .bad
  | _ => .bad
theorem s_pop2 (i : Nat) (k d : E) : evS C (.pop2 i k d) ρ = pop2A ρ i ρ[i]? (ev C k ρ) (ev C d ρ) := by
  show ownD ρ i ((ev C k ρ).out ρ fun p => (ev C d ρ).out ρ fun _ => popS ρ i p.1) = _
  unfold ownD pop2A
  cases h : ρ[i]? with
  | none => rfl
  | some s =>
    cases s with
    | no => rfl
    | val d => rfl
    | own d' =>
      cases d' with
      | dct lk kvs =>
        cases lk with
        | true => rfl
        | false =>
          show (ev C k ρ).out ρ _ = (ev C k ρ).out ρ _
          cases ev C k ρ with
          | ok p =>
            cases ev C d ρ with
            | ok q =>
              show popS ρ i p.1 = _
              unfold popS
              rw [h]
              rfl
            | exc c => rfl
            | bad => rfl
          | exc c => rfl
          | bad => rfl
      | _ => rfl
theorem pop2A_str (i : Nat) (kvs : List (L2.Key × D)) (x : Str) (e : D × Bool) (p : Bool) : pop2A ρ i (some (.own (.dct false kvs))) (.ok (.str x, p)) (.ok e) = .nx (ρ.set i (.own (.dct false (dropKD kvs (.inr x))))) := nrfl rfl
def popN (j : Option Nat) (i : Nat) (kvs : List (L2.Key × D)) (v : D) : Out := match j with
  | none => .nx (ρ.set i (.own (.dct false kvs)))
  | some j => .nx ((ρ.set i (.own (.dct false kvs))).set j (.val v))
def pop1A (j : Option Nat) (i : Nat) (s : Option Sl) (x : R) : Out := match s with
  | some (Sl.own (.dct false kvs)) => x.out ρ fun p => match keyOf p.1 with
    | some k => match lookKD kvs k with
      | some v => if flat v = true then popN ρ j i (dropKD kvs k) v else .bad
      | none => .bad
    | none => .bad
  | _ => .bad
theorem s_pop1 (j : Option Nat) (i : Nat) (k : E) : evS C (.pop1 j i k) ρ = pop1A ρ j i ρ[i]? (ev C k ρ) := by
  show ownD ρ i ((ev C k ρ).out ρ fun p => popV ρ j i p.1) = _
  unfold ownD pop1A
  cases h : ρ[i]? with
  | none => rfl
  | some s =>
    cases s with
    | no => rfl
    | val d => rfl
    | own d' =>
      cases d' with
      | dct lk kvs =>
        cases lk with
        | true => rfl
        | false =>
          show (ev C k ρ).out ρ _ = (ev C k ρ).out ρ _
          cases ev C k ρ with
          | ok p =>
            show popV ρ j i p.1 = _
            unfold popV
            rw [h]
            cases j <;> rfl
          | exc c => rfl
          | bad => rfl
      | _ => rfl
theorem pop1A_str {i : Nat} {kvs : List (L2.Key × D)} {x : Str} {v : D} (j : Option Nat) (p : Bool) (h : lookKD kvs (.inr x) = some v) (hf : flat v = true) : pop1A ρ j i (some (.own (.dct false kvs))) (.ok (.str x, p)) = popN ρ j i (dropKD kvs (.inr x)) v := by
  show (match lookKD kvs (.inr x) with | some v => if flat v = true then popN ρ j i (dropKD kvs (.inr x)) v else .bad | none => .bad) = _
  rw [h]
  exact if_pos hf
theorem popN_none (i : Nat) (kvs : List (L2.Key × D)) (v : D) : popN ρ none i kvs v = .nx (ρ.set i (.own (.dct false kvs))) := nrfl rfl
theorem popN_some (i j : Nat) (kvs : List (L2.Key × D)) (v : D) : popN ρ (some j) i kvs v = .nx ((ρ.set i (.own (.dct false kvs))).set j (.val v)) := nrfl rfl
def updA (i : Nat) (s : Option Sl) (x : R) : Out := match s with
  | some (Sl.own (.dct false kvs)) => x.out ρ fun p => match p.1 with
    | .dct true ls => if kvs.length + ls.length ≤ LIM then .nx (ρ.set i (.own (.dct false (mergeKD kvs ls)))) else .bad
    | _ => .bad
  | _ => .bad
theorem s_upd (i : Nat) (e : E) : evS C (.upd i e) ρ = updA ρ i ρ[i]? (ev C e ρ) := by
  show ownD ρ i ((ev C e ρ).out ρ fun p => updS ρ i p.1) = _
  unfold ownD updA
  cases h : ρ[i]? with
  | none => rfl
  | some s =>
    cases s with
    | no => rfl
    | val d => rfl
    | own d' =>
      cases d' with
      | dct lk kvs =>
        cases lk with
        | true => rfl
        | false =>
          show (ev C e ρ).out ρ _ = (ev C e ρ).out ρ _
          cases ev C e ρ with
          | ok p =>
            show updS ρ i p.1 = _
            unfold updS
            rw [h]
            rfl
          | exc c => rfl
          | bad => rfl
      | _ => rfl
theorem updA_dct (i : Nat) (kvs ls : List (L2.Key × D)) (p : Bool) : updA ρ i (some (.own (.dct false kvs))) (.ok (.dct true ls, p)) = if kvs.length + ls.length ≤ LIM then .nx (ρ.set i (.own (.dct false (mergeKD kvs ls)))) else .bad := nrfl rfl
def putA (i : Nat) (s : Option Sl) (x y : R) : Out := match s with
  | some (Sl.own (.lst xs)) => x.out ρ fun p => y.out ρ fun q => match q.1 with
    | .int j => match L2.ixN xs.length j with
      | some n => .nx (ρ.set i (.own (.lst (xs.set n p.1))))
      | none => .bad
    | _ => .bad
  | some (Sl.own (.dct false kvs)) => x.out ρ fun p => y.out ρ fun q => match keyOf q.1 with
    | some k => if kvs.length < LIM ∧ keyFit k = true then .nx (ρ.set i (.own (.dct false (putKD kvs k p.1)))) else .bad
    | none => .bad
  | some (Sl.own (.dtn false kvs)) => x.out ρ fun p => y.out ρ fun q => if okN kvs q.1 = true ∧ kvs.length < LIM then .nx (ρ.set i (.own (.dtn false (putN kvs q.1 p.1)))) else .bad
  | _ => .bad
theorem s_put (i : Nat) (k e : E) : evS C (.put i k e) ρ = putA ρ i ρ[i]? (ev C e ρ) (ev C k ρ) := by
  show ownP ρ i ((ev C e ρ).out ρ fun p => (ev C k ρ).out ρ fun q => putS ρ i q.1 p.1) = _
  unfold ownP putA
  cases h : ρ[i]? with
  | none => rfl
  | some s =>
    cases s with
    | no => rfl
    | val d => rfl
    | own d =>
      cases d with
      | lst xs =>
        show (ev C e ρ).out ρ _ = (ev C e ρ).out ρ _
        cases ev C e ρ with
        | ok p =>
          cases ev C k ρ with
          | ok q =>
            show putS ρ i q.1 p.1 = _
            unfold putS
            rw [h]
            obtain ⟨q, fr⟩ := q
            cases q <;> rfl
          | exc c => rfl
          | bad => rfl
        | exc c => rfl
        | bad => rfl
      | dct lk kvs =>
        cases lk with
        | true => rfl
        | false =>
          show (ev C e ρ).out ρ _ = (ev C e ρ).out ρ _
          cases ev C e ρ with
          | ok p =>
            cases ev C k ρ with
            | ok q =>
              show putS ρ i q.1 p.1 = _
              unfold putS
              rw [h]
              rfl
            | exc c => rfl
            | bad => rfl
          | exc c => rfl
          | bad => rfl
      | dtn lk kvs =>
        cases lk with
        | true => rfl
        | false =>
          show (ev C e ρ).out ρ _ = (ev C e ρ).out ρ _
          cases ev C e ρ with
          | ok p =>
            cases ev C k ρ with
            | ok q =>
              show putS ρ i q.1 p.1 = _
              unfold putS
              rw [h]
              obtain ⟨q, fr⟩ := q
              cases q <;> rfl
            | exc c => rfl
            | bad => rfl
          | exc c => rfl
          | bad => rfl
      | _ => rfl
theorem putA_lst {i n : Nat} {xs : List D} {d : D} {j : Int} {p q : Bool} (hj : L2.ixN xs.length j = some n) : putA ρ i (some (.own (.lst xs))) (.ok (d, p)) (.ok (.int j, q)) = .nx (ρ.set i (.own (.lst (xs.set n d)))) := by
  unfold putA
  simp only [Rz.out_ok, hj]
theorem putA_str (i : Nat) (kvs : List (L2.Key × D)) (d : D) (x : Str) (p q : Bool) : putA ρ i (some (.own (.dct false kvs))) (.ok (d, p)) (.ok (.str x, q)) = if kvs.length < LIM ∧ x.length ≤ LIM then .nx (ρ.set i (.own (.dct false (putKD kvs (.inr x) d)))) else .bad := by
  show (if kvs.length < LIM ∧ decide (x.length ≤ LIM) = true then _ else _) = _
  simp only [decide_eq_true_eq]
theorem putA_int (i : Nat) (kvs : List (L2.Key × D)) (d : D) (x : Int) (p q : Bool) : putA ρ i (some (.own (.dct false kvs))) (.ok (d, p)) (.ok (.int x, q)) = if kvs.length < LIM then .nx (ρ.set i (.own (.dct false (putKD kvs (.inl x) d)))) else .bad := by
  show (if kvs.length < LIM ∧ true = true then _ else _) = _
  simp
theorem putA_dtn (i : Nat) {kvs : List (D × D)} (d : D) {x : D} (p q : Bool) (h : okN kvs x = true) (hl : kvs.length < LIM) : putA ρ i (some (.own (.dtn false kvs))) (.ok (d, p)) (.ok (x, q)) = .nx (ρ.set i (.own (.dtn false (putN kvs x d)))) := by
  show (if okN kvs x = true ∧ kvs.length < LIM then Out.nx (ρ.set i (.own (.dtn false (putN kvs x d)))) else .bad) = _
  exact if_pos ⟨h, hl⟩
def retR (x : R) : Out := x.out ρ fun p => .ret p.1 p.2
theorem retR_ok (d : D) (p : Bool) : retR ρ (.ok (d, p)) = .ret d p := nrfl rfl
theorem retR_exc (c : Str) : retR ρ (.exc c) = .exc c ρ := nrfl rfl
theorem retR_ite {c : Prop} [Decidable c] (x y : R) : retR ρ (if c then x else y) = if c then retR ρ x else retR ρ y := by split <;> rfl
theorem setF_ite {c : Prop} [Decidable c] (i : Nat) (x y : R) : setF ρ i (if c then x else y) = if c then setF ρ i x else setF ρ i y := by split <;> rfl
theorem s_ret (e : E) : evS C (.ret e) ρ = retR ρ (ev C e ρ) := nrfl rfl
def rvR (s : Option Sl) : Out := match s with
  | some (Sl.own d) => .ret d true
  | _ => .bad
theorem rvR_own (d : D) : rvR (some (.own d)) = .ret d true := nrfl rfl
theorem s_retv (i : Nat) : evS C (.retv i) ρ = rvR ρ[i]? := nrfl rfl
theorem s_retN : evS C .retN ρ = .ret .non false := nrfl rfl
noncomputable def iteR (a b : Ss) (x : Rz Bool) : Out := x.out ρ fun k => if k = true then evSs C a ρ else evSs C b ρ
theorem iteR_ok (a b : Ss) (k : Bool) : iteR C ρ a b (.ok k) = if k = true then evSs C a ρ else evSs C b ρ := nrfl rfl
theorem iteR_exc (a b : Ss) (c : Str) : iteR C ρ a b (.exc c) = .exc c ρ := nrfl rfl
theorem s_ite (c : T) (a b : Ss) : evS C (.ite c a b) ρ = iteR C ρ a b (evT C c ρ) := nrfl rfl
theorem s_whl (c : T) (b : Ss) : evS C (.whl c b) ρ = whlS C c b ρ := nrfl rfl
noncomputable def frR (tg : Tg) (b : Ss) (x : Rz (List D)) : Out := x.out ρ fun ds => frS C tg b ds ρ
theorem frR_ok (tg : Tg) (b : Ss) (ds : List D) : frR C ρ tg b (.ok ds) = frS C tg b ds ρ := nrfl rfl
theorem s_fr (tg : Tg) (it : It) (b : Ss) : evS C (.fr tg it b) ρ = frR C ρ tg b (evIt C it ρ) := nrfl rfl
theorem s_brk : evS C .brk ρ = .brk ρ := nrfl rfl
theorem s_pas : evS C .pas ρ = .nx ρ := nrfl rfl
theorem s_rai (c : Str) : evS C (.rai c) ρ = .exc c ρ := nrfl rfl
theorem s_frz (is : List Nat) (s : S) : evS C (.frz is s) ρ = evS C s (thaw is ρ) := nrfl rfl
theorem thaw_nil : thaw [] ρ = ρ := nrfl rfl
theorem thaw_cons (i : Nat) (is : List Nat) : thaw (i :: is) ρ = thaw is (thaw1 ρ i) := nrfl rfl
def thawA (i : Nat) (s : Option Sl) : List Sl := match s with
  | some (Sl.own d) => ρ.set i (.val d)
  | _ => ρ
theorem thaw1_at (i : Nat) : thaw1 ρ i = thawA ρ i ρ[i]? := nrfl rfl
theorem thawA_own (i : Nat) (d : D) : thawA ρ i (some (.own d)) = ρ.set i (.val d) := nrfl rfl
theorem thawA_val (i : Nat) (d : D) : thawA ρ i (some (.val d)) = ρ := nrfl rfl
theorem thawA_no (i : Nat) : thawA ρ i (some .no) = ρ := nrfl rfl
theorem wipe_nil : wipeS ρ [] = ρ := nrfl rfl
theorem wipe_cons (i : Nat) (is : List Nat) : wipeS ρ (i :: is) = wipeS (ρ.set i .no) is := nrfl rfl
def fmtR (x : R) : R := x.bind fun x => bf1 .str x.1
theorem e_fmt (a : E) : ev C (.fmt a) ρ = fmtR (ev C a ρ) := nrfl rfl
theorem fmtR_str (x : Str) (p : Bool) : fmtR (.ok (.str x, p)) = .ok (.str x, false) := nrfl rfl
theorem fmtR_int {i : Int} {p : Bool} (h : i.natAbs.log2 < 1920 ∧ (Str.ofString (toString i)).length ≤ LIM) : fmtR (.ok (.int i, p)) = .ok (.str (Str.ofString (toString i)), false) := if_pos h
def fstR (x : Rz (List D)) : R := match x with
  | .ok ds => fstD ds
  | _ => .bad
theorem fstR_ok (ds : List D) : fstR (.ok ds) = fstD ds := nrfl rfl
theorem e_fst (es : Es) : ev C (.fst es) ρ = fstR (evs C es ρ) := nrfl rfl
theorem e_dnew : ev C .dnew ρ = .ok (.dct false [], true) := nrfl rfl
theorem e_dnewN : ev C .dnewN ρ = .ok (.dtn false [], true) := nrfl rfl
def clrA (i : Nat) (s : Option Sl) : Out := match s with
  | some (Sl.own (.lst _)) => .nx (ρ.set i (.own (.lst [])))
  | _ => .bad
theorem s_clr (i : Nat) : evS C (.clr i) ρ = clrA ρ i ρ[i]? := nrfl rfl
theorem clrA_own (i : Nat) (xs : List D) : clrA ρ i (some (.own (.lst xs))) = .nx (ρ.set i (.own (.lst []))) := nrfl rfl
theorem e_dsp (ks : List Str) (ds : List D) : ev C (.dsp ks ds) ρ = dspD ks ds := nrfl rfl
def get1R (x y : R) : R := x.bind fun x => onD x.1 (y.bind fun y => getD1 x.1 y.1 .non)
def get2R (x y z : R) : R := x.bind fun x => onD x.1 (y.bind fun y => z.bind fun z => getD1 x.1 y.1 z.1)
theorem e_get1 (a k : E) : ev C (.get1 a k) ρ = get1R (ev C a ρ) (ev C k ρ) := nrfl rfl
theorem e_get2 (a k d : E) : ev C (.get2 a k d) ρ = get2R (ev C a ρ) (ev C k ρ) (ev C d ρ) := nrfl rfl
theorem get1R_str (lk : Bool) (kvs : List (L2.Key × D)) (x : Str) (p q : Bool) : get1R (.ok (.dct lk kvs, p)) (.ok (.str x, q)) = .ok ((lookKD kvs (.inr x)).getD .non, false) := nrfl rfl
theorem get2R_str (lk : Bool) (kvs : List (L2.Key × D)) (x : Str) (d : D) (p q r : Bool) : get2R (.ok (.dct lk kvs, p)) (.ok (.str x, q)) (.ok (d, r)) = .ok ((lookKD kvs (.inr x)).getD d, false) := nrfl rfl
theorem get2R_int (lk : Bool) (kvs : List (L2.Key × D)) (x : Int) (d : D) (p q r : Bool) : get2R (.ok (.dct lk kvs, p)) (.ok (.int x, q)) (.ok (d, r)) = .ok ((lookKD kvs (.inl x)).getD d, false) := nrfl rfl
def joinR (x y : R) : R := x.bind fun x => onS x.1 (y.bind fun y => joinD x.1 y.1)
theorem e_join (a e : E) : ev C (.join a e) ρ = joinR (ev C a ρ) (ev C e ρ) := nrfl rfl
theorem joinR_lst (a : Str) (ds : List D) (p q : Bool) : joinR (.ok (.str a, p)) (.ok (.lst ds, q)) = joinS a ds := nrfl rfl
def lokR (x : R) : R := x.bind lokD
theorem e_lok (a : E) : ev C (.lok a) ρ = lokR (ev C a ρ) := nrfl rfl
theorem lokR_dct (kvs : List (L2.Key × D)) : lokR (.ok (.dct false kvs, true)) = .ok (.dct true kvs, false) := nrfl rfl
theorem lokR_lst (ds : List D) (p : Bool) : lokR (.ok (.lst ds, p)) = .ok (.lst ds, p) := nrfl rfl
def enumR (x : R) : Rz (List D) := x.bind fun x => match enumOf x.1 with
  | some ds => .ok (enumD 0 ds)
  | _ => .bad
def zipR (x y : R) : Rz (List D) := x.bind fun x => y.bind fun y => match zipO x.1 y.1 with
  | some p => .ok (zipD p.1 p.2)
  | none => .bad
def itemsR (x : R) : Rz (List D) := x.bind fun x => match x.1 with
  | .dct true kvs => .ok (kvs.map fun kv => .tup [kD kv.1, kv.2])
  | _ => .bad
def revR (x : R) : Rz (List D) := x.bind fun x => match lstOf x.1 with
  | some ds => .ok ds.reverse
  | _ => .bad
theorem i_enum' (e : E) : evIt C (.enum e) ρ = enumR (ev C e ρ) := nrfl rfl
theorem i_zip' (a b : E) : evIt C (.zip a b) ρ = zipR (ev C a ρ) (ev C b ρ) := nrfl rfl
theorem i_items' (e : E) : evIt C (.items e) ρ = itemsR (ev C e ρ) := nrfl rfl
theorem i_rev' (e : E) : evIt C (.rev e) ρ = revR (ev C e ρ) := nrfl rfl
theorem enumR_lst (ds : List D) (p : Bool) : enumR (.ok (.lst ds, p)) = .ok (enumD 0 ds) := nrfl rfl
theorem enumR_dct (kvs : List (L2.Key × D)) (p : Bool) : enumR (.ok (.dct true kvs, p)) = .ok (enumD 0 (kvs.map fun kv => kD kv.1)) := nrfl rfl
theorem enumR_kl (ds : List D) (p : Bool) : enumR (.ok (.kl ds, p)) = .ok (enumD 0 ds) := nrfl rfl
theorem zipR_tup (ds es : List D) (p q : Bool) : zipR (.ok (.tup ds, p)) (.ok (.tup es, q)) = .ok (zipD ds es) := nrfl rfl
theorem zipR_lst (ds es : List D) (p q : Bool) : zipR (.ok (.lst ds, p)) (.ok (.lst es, q)) = .ok (zipD ds es) := nrfl rfl
theorem itemsR_dct (kvs : List (L2.Key × D)) (p : Bool) : itemsR (.ok (.dct true kvs, p)) = .ok (kvs.map fun kv => .tup [kD kv.1, kv.2]) := nrfl rfl
theorem revR_lst (ds : List D) (p : Bool) : revR (.ok (.lst ds, p)) = .ok ds.reverse := nrfl rfl
theorem itsR_dct (kvs : List (L2.Key × D)) (p : Bool) : itsR (.ok (.dct true kvs, p)) = .ok (kvs.map fun kv => kD kv.1) := nrfl rfl
theorem s_frzL (i : Nat) (s : S) : evS C (.frzL i s) ρ = evS C s (thawL ρ i) := nrfl rfl
def thawB (i : Nat) (s : Option Sl) : List Sl := match s with
  | some (Sl.own (.dct false kvs)) => ρ.set i (.val (.dct true kvs))
  | _ => ρ
theorem thawL_at (i : Nat) : thawL ρ i = thawB ρ i ρ[i]? := nrfl rfl
theorem thawB_own (i : Nat) (kvs : List (L2.Key × D)) : thawB ρ i (some (.own (.dct false kvs))) = ρ.set i (.val (.dct true kvs)) := nrfl rfl
theorem thawB_val (i : Nat) (d : D) : thawB ρ i (some (.val d)) = ρ := nrfl rfl
theorem thawB_no (i : Nat) : thawB ρ i (some .no) = ρ := nrfl rfl
end
/-! ### operations at their data -/
theorem b_add (i j : Int) : binD .add (.int i) (.int j) = .ok (.int (i + j), false) := nrfl rfl
theorem b_sub (i j : Int) : binD .sub (.int i) (.int j) = .ok (.int (i - j), false) := nrfl rfl
theorem b_mul (i j : Int) : binD .mul (.int i) (.int j) = if MulOk i j then .ok (.int (i * j), false) else .bad := nrfl rfl
theorem b_fdiv (i j : Int) : binD .fdiv (.int i) (.int j) = if DivOk i j then .ok (.int (i.fdiv j), false) else .bad := nrfl rfl
theorem b_mod (i j : Int) : binD .mod (.int i) (.int j) = if j = 0 then .bad else .ok (.int (i.fmod j), false) := nrfl rfl
theorem b_pow (i j : Int) : binD .pow (.int i) (.int j) = if PowOk i j then .ok (.int (i ^ j.toNat), false) else .bad := nrfl rfl
theorem b_cat (x y : List D) : binD .add (.lst x) (.lst y) = if x.length + y.length ≤ LIM then .ok (.lst (x ++ y), true) else .bad := nrfl rfl
theorem b_catS (x y : Str) : binD .add (.str x) (.str y) = if x.length + y.length ≤ LIM then .ok (.str (x ++ y), false) else .bad := nrfl rfl
theorem c_eqI (i j : Int) : cmpD .eq (.int i) (.int j) = .ok (.bl (decide (i = j)), false) := by
  show (if eqOk (.int i) (.int j) = true then dBl (i == j) else .bad) = _
  rw [if_pos (show eqOk (.int i) (.int j) = true from rfl), show (i == j) = decide (i = j) from rfl]; rfl
theorem c_neI (i j : Int) : cmpD .ne (.int i) (.int j) = .ok (.bl (decide (i ≠ j)), false) := by
  show (if eqOk (.int i) (.int j) = true then dBl (!(i == j)) else .bad) = _
  rw [if_pos (show eqOk (.int i) (.int j) = true from rfl), show (i == j) = decide (i = j) from rfl, ← decide_not]; rfl
theorem c_eqS (i j : Str) : cmpD .eq (.str i) (.str j) = .ok (.bl (i == j), false) := by
  show (if eqOk (.str i) (.str j) = true then dBl (i == j) else .bad) = _
  rw [if_pos (show eqOk (.str i) (.str j) = true from rfl)]; rfl
theorem c_neS (i j : Str) : cmpD .ne (.str i) (.str j) = .ok (.bl (!(i == j)), false) := by
  show (if eqOk (.str i) (.str j) = true then dBl (!(i == j)) else .bad) = _
  rw [if_pos (show eqOk (.str i) (.str j) = true from rfl)]; rfl
theorem c_eqDc {x y : D} (h : eqDct x y = true) : cmpD .eq x y = .ok (.bl true, false) := if_pos h
theorem c_neDc {x y : D} (h : eqDct x y = true) : cmpD .ne x y = .ok (.bl false, false) := if_pos h
theorem c_lt (i j : Int) : cmpD .lt (.int i) (.int j) = .ok (.bl (decide (i < j)), false) := nrfl rfl
theorem c_le (i j : Int) : cmpD .le (.int i) (.int j) = .ok (.bl (decide (i ≤ j)), false) := nrfl rfl
theorem c_gt (i j : Int) : cmpD .gt (.int i) (.int j) = .ok (.bl (decide (j < i)), false) := nrfl rfl
theorem c_ge (i j : Int) : cmpD .ge (.int i) (.int j) = .ok (.bl (decide (j ≤ i)), false) := nrfl rfl
theorem bf_abs (i : Int) : bfD .abs [.int i] = .ok (.int (i.natAbs : Nat), false) := by
  show dInt (if i < 0 then -i else i) = _
  have e : (if i < 0 then -i else i) = (i.natAbs : Int) := by omega
  rw [e]; rfl
theorem bf_lenL (ds : List D) : bfD .len [.lst ds] = .ok (.int (ds.length : Nat), false) := nrfl rfl
theorem bf_lenK (ds : List D) : bfD .len [.kl ds] = .ok (.int (ds.length : Nat), false) := nrfl rfl
theorem bf_lenT (ds : List D) : bfD .len [.tup ds] = .ok (.int (ds.length : Nat), false) := nrfl rfl
theorem bf_lenS (x : Str) : bfD .len [.str x] = .ok (.int (x.length : Nat), false) := nrfl rfl
theorem bf_max (i j : Int) : bfD .max2 [.int i, .int j] = .ok (.int (if j > i then j else i), false) := nrfl rfl
theorem bf_min (i j : Int) : bfD .min2 [.int i, .int j] = .ok (.int (if j < i then j else i), false) := nrfl rfl
theorem bf_list (ds : List D) : bfD .list [.lst ds] = .ok (.lst ds, true) := nrfl rfl
theorem bf_listT (ds : List D) : bfD .list [.tup ds] = .ok (.lst ds, true) := nrfl rfl
theorem bf_tuple (ds : List D) : bfD .tuple [.lst ds] = .ok (.tup ds, false) := nrfl rfl
theorem bf_tupleT (ds : List D) : bfD .tuple [.tup ds] = .ok (.tup ds, false) := nrfl rfl
theorem bf_int (i : Int) : bfD .int [.int i] = .ok (.int i, false) := nrfl rfl
theorem tr_bl (b : Bool) : truthD (.bl b) = .ok b := nrfl rfl
theorem bf_listD (lk : Bool) (kvs : List (L2.Key × D)) : bfD .list [.dct lk kvs] = .ok (.lst (kvs.map fun kv => kD kv.1), true) := nrfl rfl
theorem bf_lenD (lk : Bool) (kvs : List (L2.Key × D)) : bfD .len [.dct lk kvs] = .ok (.int (kvs.length : Nat), false) := nrfl rfl
theorem bf_dict (lk : Bool) (kvs : List (L2.Key × D)) : bfD .dict [.dct lk kvs] = .ok (.dct false kvs, true) := nrfl rfl
theorem strsOf_map (xs : List Str) : strsOf (xs.map .str) = some xs := by
  induction xs with
  | nil => rfl
  | cons x xs ih => simp [strsOf, ih]
theorem intsOf_map (xs : List Int) : intsOf (xs.map .int) = some xs := by
  induction xs with
  | nil => rfl
  | cons x xs ih => simp [intsOf, ih]
theorem blsOf_map (xs : List Bool) : blsOf (xs.map .bl) = some xs := by
  induction xs with
  | nil => rfl
  | cons x xs ih => simp [blsOf, ih]
theorem keyS_map (xs : List Str) : keyS (xs.map .inr) = some xs := by
  induction xs with
  | nil => rfl
  | cons x xs ih => simp [keyS, ih]
theorem bf_sortedD {lk : Bool} {kvs : List (L2.Key × D)} {ks : List Str} (h : kvs.map (·.1) = ks.map Sum.inr) (hl : ks.length < 64) : bfD .sorted [.dct lk kvs] = .ok (.lst ((sortS ks).map .str), true) := by
  show (match keyS (kvs.map (·.1)) with | some ks => if ks.length < 64 then Rz.ok (D.lst ((sortS ks).map .str), true) else .bad | none => .bad) = _
  rw [h, keyS_map]
  exact if_pos hl
theorem bf_sum {ns : List Int} : bfD .sum [.lst (ns.map .int)] = .ok (.int ns.sum, false) := by
  show (match intsOf (ns.map .int) with | some ks => dInt ks.sum | none => .bad) = _
  rw [intsOf_map]; rfl
theorem bf_all {bs : List Bool} : bfD .all [.lst (bs.map .bl)] = .ok (.bl (bs.all id), false) := by
  show (match blsOf (bs.map .bl) with | some ks => dBl (ks.all id) | none => .bad) = _
  rw [blsOf_map]; rfl
theorem bf_any {bs : List Bool} : bfD .any [.lst (bs.map .bl)] = .ok (.bl (bs.any id), false) := by
  show (match blsOf (bs.map .bl) with | some ks => dBl (ks.any id) | none => .bad) = _
  rw [blsOf_map]; rfl
theorem join_ok {a : Str} {ss : List Str} (h1 : (ss.map (·.length)).sum + ss.length * a.length ≤ LIM) (h2 : (Txt.join a ss).length ≤ LIM) : joinS a (ss.map .str) = .ok (.str (Txt.join a ss), false) := by
  unfold joinS
  rw [strsOf_map]
  exact if_pos ⟨h1, h2⟩
theorem c_eqB (a b : Bool) : cmpD .eq (.bl a) (.bl b) = .ok (.bl (a == b), false) := by
  show (if eqOk (.bl a) (.bl b) = true then dBl (a == b) else .bad) = _
  rw [if_pos (show eqOk (.bl a) (.bl b) = true from rfl)]; rfl
theorem c_neB (a b : Bool) : cmpD .ne (.bl a) (.bl b) = .ok (.bl (!(a == b)), false) := by
  show (if eqOk (.bl a) (.bl b) = true then dBl (!(a == b)) else .bad) = _
  rw [if_pos (show eqOk (.bl a) (.bl b) = true from rfl)]; rfl
theorem c_ltS (x y : Str) : cmpD .lt (.str x) (.str y) = .ok (.bl (decide (x.cps.toList < y.cps.toList)), false) := nrfl rfl
theorem c_leS (x y : Str) : cmpD .le (.str x) (.str y) = .ok (.bl (!decide (y.cps.toList < x.cps.toList)), false) := nrfl rfl
theorem c_gtS (x y : Str) : cmpD .gt (.str x) (.str y) = .ok (.bl (decide (y.cps.toList < x.cps.toList)), false) := nrfl rfl
theorem c_geS (x y : Str) : cmpD .ge (.str x) (.str y) = .ok (.bl (!decide (x.cps.toList < y.cps.toList)), false) := nrfl rfl
theorem c_isN (x : D) : cmpD .isN x .non = .ok (.bl (match x with | .non => true | _ => false), false) := by cases x <;> exact nrfl rfl
theorem c_notN (x : D) : cmpD .notN x .non = .ok (.bl (match x with | .non => false | _ => true), false) := by cases x <;> exact nrfl rfl
theorem c_isB (a b : Bool) : cmpD .isB (.bl a) (.bl b) = .ok (.bl (decide (a = b)), false) := nrfl rfl
theorem c_notB (a b : Bool) : cmpD .notB (.bl a) (.bl b) = .ok (.bl (!decide (a = b)), false) := nrfl rfl
theorem c_inT {x : Str} {ys : List D} (h : ys.all flat = true) : cmpD .isIn (.str x) (.tup ys) = .ok (.bl (inD (.str x) ys), false) := by
  have e : inK (.str x) (.tup ys) = .ok (inD (.str x) ys) := if_pos ⟨rfl, h⟩
  show (inK (.str x) (.tup ys)).bind _ = _
  rw [e]
  rfl
theorem c_inDs (x : Str) (lk : Bool) (kvs : List (L2.Key × D)) : cmpD .isIn (.str x) (.dct lk kvs) = .ok (.bl (lookKD kvs (.inr x)).isSome, false) := nrfl rfl
theorem c_notInDs (x : Str) (lk : Bool) (kvs : List (L2.Key × D)) : cmpD .notIn (.str x) (.dct lk kvs) = .ok (.bl (!(lookKD kvs (.inr x)).isSome), false) := nrfl rfl
theorem c_inN {kvs : List (D × D)} {x : D} (lk : Bool) (h : okN kvs x = true) : cmpD .isIn x (.dtn lk kvs) = .ok (.bl (lookN kvs x).isSome, false) := by
  have e : inK x (.dtn lk kvs) = .ok (lookN kvs x).isSome := if_pos h
  show (inK x (.dtn lk kvs)).bind _ = _
  rw [e]; rfl
theorem c_notInN {kvs : List (D × D)} {x : D} (lk : Bool) (h : okN kvs x = true) : cmpD .notIn x (.dtn lk kvs) = .ok (.bl (!(lookN kvs x).isSome), false) := by
  have e : inK x (.dtn lk kvs) = .ok (lookN kvs x).isSome := if_pos h
  show (inK x (.dtn lk kvs)).bind _ = _
  rw [e]; rfl
theorem ix_dtn {x : D} {lk : Bool} {kvs : List (D × D)} {d : D} (hk : okN kvs x = true) (h : lookN kvs x = some d) : ixD (.dtn lk kvs) x = .ok (d, false) := by
  have e : ixD (.dtn lk kvs) x = if okN kvs x = true then (match lookN kvs x with | some d => Rz.ok (d, false) | none => .bad) else .bad := by cases x <;> rfl
  rw [e, if_pos hk, h]
theorem ix_dctS {x : Str} {lk : Bool} {kvs : List (L2.Key × D)} {d : D} (h : lookKD kvs (.inr x) = some d) : ixD (.dct lk kvs) (.str x) = .ok (d, false) := by
  show (match lookKD kvs (.inr x) with | some d => Rz.ok (d, false) | none => .bad) = _
  rw [h]
theorem lookKD_put (kvs : List (L2.Key × D)) (k j : L2.Key) (d : D) : lookKD (putKD kvs k d) j = if j = k then some d else lookKD kvs j := by
  have key : ∀ (kvs : List (L2.Key × D)), (kvs.any fun kv => decide (kv.1 = k)) = true → lookKD (kvs.map fun kv => if kv.1 = k then (kv.1, d) else kv) j = if j = k then some d else lookKD kvs j := by
    intro kvs
    induction kvs with
    | nil => intro h; cases h
    | cons kv kvs ih =>
      intro h
      unfold lookKD at ih ⊢
      rw [List.map_cons]
      by_cases e : kv.1 = k
      · rw [if_pos e]
        by_cases e2 : j = k
        · subst e2
          rw [List.find?_cons_of_pos (by simpa using e), if_pos rfl]
          rfl
        · rw [List.find?_cons_of_neg (by simp only [decide_eq_true_eq]; rw [e]; exact fun z => e2 z.symm), if_neg e2, List.find?_cons_of_neg (by simp only [decide_eq_true_eq]; rw [e]; exact fun z => e2 z.symm)]
          by_cases h3 : (kvs.any fun kv => decide (kv.1 = k)) = true
          · have := ih h3
            rw [if_neg e2] at this
            exact this
          · have : kvs.map (fun kv => if kv.1 = k then (kv.1, d) else kv) = kvs := by
              conv => rhs; rw [← List.map_id kvs]
              apply List.map_congr_left
              intro kv' hm
              rw [if_neg]
              · rfl
              · intro z
                exact h3 (List.any_eq_true.mpr ⟨kv', hm, by simpa using z⟩)
            rw [this]
      · rw [if_neg e]
        have h' : (kvs.any fun kv => decide (kv.1 = k)) = true := by
          rw [List.any_cons] at h
          simpa [e] using h
        by_cases e2 : kv.1 = j
        · rw [List.find?_cons_of_pos (by simpa using e2), List.find?_cons_of_pos (by simpa using e2), if_neg (fun z => e (e2.trans z))]
        · rw [List.find?_cons_of_neg (by simpa using e2), List.find?_cons_of_neg (by simpa using e2)]
          exact ih h'
  unfold putKD
  split
  · rename_i h; exact key kvs h
  · rename_i h
    unfold lookKD
    rw [List.find?_append]
    by_cases e2 : j = k
    · subst e2
      rw [if_pos rfl]
      have : kvs.find? (fun kv => decide (kv.1 = j)) = none := by
        rw [List.find?_eq_none]
        intro kv hm z
        exact h (List.any_eq_true.mpr ⟨kv, hm, z⟩)
      rw [this]
      simp
    · rw [if_neg e2]
      have : [(k, d)].find? (fun kv => decide (kv.1 = j)) = none := by
        rw [List.find?_cons_of_neg (by simp only [decide_eq_true_eq]; exact fun z => e2 z.symm)]
        rfl
      rw [this, Option.or_none]
theorem putKD_keys (kvs : List (L2.Key × D)) (k : L2.Key) (d : D) : (k ∈ kvs.map (·.1) → (putKD kvs k d).map (·.1) = kvs.map (·.1)) ∧ (k ∉ kvs.map (·.1) → (putKD kvs k d).map (·.1) = kvs.map (·.1) ++ [k]) := by
  have e : (kvs.any fun kv => decide (kv.1 = k)) = true ↔ k ∈ kvs.map (·.1) := by
    rw [List.any_eq_true, List.mem_map]
    constructor
    · rintro ⟨kv, h1, h2⟩; exact ⟨kv, h1, of_decide_eq_true h2⟩
    · rintro ⟨kv, h1, h2⟩; exact ⟨kv, h1, by simpa using h2⟩
  unfold putKD
  refine ⟨fun h => ?_, fun h => ?_⟩
  · rw [if_pos (e.mpr h), List.map_map]
    apply List.map_congr_left
    intro kv _
    show (if kv.1 = k then (kv.1, d) else kv).1 = kv.1
    split <;> rfl
  · rw [if_neg (fun z => h (e.mp z)), List.map_append]
    rfl
theorem mul_ok {i j : Int} {m n : Nat} (h1 : i.natAbs < 2 ^ m) (h2 : j.natAbs < 2 ^ n) (h : m + n < 1000000) : MulOk i j := by
  refine .inr ?_
  show i.natAbs.log2 + j.natAbs.log2 < 1000000
  have a : i.natAbs.log2 ≤ m := by
    by_cases z : i.natAbs = 0
    · rw [z]; exact Nat.zero_le _
    · exact Nat.le_of_lt ((Nat.log2_lt z).mpr h1)
  have b : j.natAbs.log2 ≤ n := by
    by_cases z : j.natAbs = 0
    · rw [z]; exact Nat.zero_le _
    · exact Nat.le_of_lt ((Nat.log2_lt z).mpr h2)
  omega
theorem mul_okL {i j : Int} (h1 : -18446744073709551616 < i) (h2 : i < 18446744073709551616) : MulOk i j := .inl (.inl ⟨h1, h2⟩)
theorem mul_okR {i j : Int} (h1 : -18446744073709551616 < j) (h2 : j < 18446744073709551616) : MulOk i j := .inl (.inr ⟨h1, h2⟩)
theorem div_ok {i j : Int} (h1 : j ≠ 0) (h2 : j.natAbs < 1073741824) : DivOk i j := .inr ⟨h1, h2⟩
theorem atI_map {α : Type} {ns : List α} {g : α → D} {k : Nat} (h : k < ns.length) : L2.atI (ns.map g) (k : Int) = some (g ns[k]) :=
  L2.atI_nat (by rw [List.getElem?_map, List.getElem?_eq_getElem h] <;> rfl)
/-- a comprehension, by what its turns tell -/
theorem comp_all {C : DL.Ctx} {tg : Tg} {c : T} {e : E} {ρ : List Sl} {p : D → Bool} {g : D → D} : ∀ (ds acc : List D), (∀ d ∈ ds, ∃ ρ' b, tg.bind d ρ = some ρ' ∧ evT C c ρ' = .ok (p d) ∧ (p d = true → ev C e ρ' = .ok (g d, b))) → compS C tg c e ds acc ρ = .ok (acc ++ (ds.filter p).map g)
  | [], acc, _ => by simp [compS, cLoop]
  | d :: ds, acc, h => by
    obtain ⟨ρ', b, h1, h2, h3⟩ := h d List.mem_cons_self
    have ih := fun acc => comp_all ds acc fun d hd => h d (List.mem_cons_of_mem _ hd)
    unfold compS cLoop
    rw [h1]
    dsimp only
    rw [h2]
    cases hp : p d with
    | true =>
      dsimp only
      rw [h3 hp]
      dsimp only
      have := ih (acc ++ [g d])
      unfold compS at this
      rw [this]
      simp [List.filter_cons, hp]
    | false =>
      dsimp only
      have := ih acc
      unfold compS at this
      rw [this]
      simp [List.filter_cons, hp]
theorem comp_allL {α : Type} {C : DL.Ctx} {tg : Tg} {c : T} {e : E} {ρ : List Sl} {p : α → Bool} {f g : α → D} : ∀ (ds : List α) (acc : List D), (∀ d ∈ ds, ∃ ρ' b, tg.bind (f d) ρ = some ρ' ∧ evT C c ρ' = .ok (p d) ∧ (p d = true → ev C e ρ' = .ok (g d, b))) → compS C tg c e (ds.map f) acc ρ = .ok (acc ++ (ds.filter p).map g)
  | [], acc, _ => by simp [compS, cLoop]
  | d :: ds, acc, h => by
    obtain ⟨ρ', b, h1, h2, h3⟩ := h d List.mem_cons_self
    have ih := fun acc => comp_allL ds acc fun d hd => h d (List.mem_cons_of_mem _ hd)
    rw [List.map_cons]
    unfold compS cLoop
    rw [h1]
    dsimp only
    rw [h2]
    cases hp : p d with
    | true =>
      dsimp only
      rw [h3 hp]
      dsimp only
      have := ih (acc ++ [g d])
      unfold compS at this
      rw [this]
      simp [List.filter_cons, hp]
    | false =>
      dsimp only
      have := ih acc
      unfold compS at this
      rw [this]
      simp [List.filter_cons, hp]
theorem comp_mapL {α : Type} {C : DL.Ctx} {tg : Tg} {e : E} {ρ : List Sl} {f g : α → D} (ds : List α) (h : ∀ d ∈ ds, ∃ ρ' b, tg.bind (f d) ρ = some ρ' ∧ ev C e ρ' = .ok (g d, b)) : compS C tg .yes e (ds.map f) [] ρ = .ok (ds.map g) := by
  have := comp_allL (C := C) (tg := tg) (c := .yes) (e := e) (ρ := ρ) (p := fun _ => true) (f := f) (g := g) ds [] fun d hd => by
    obtain ⟨ρ', b, h1, h2⟩ := h d hd
    exact ⟨ρ', b, h1, rfl, fun _ => h2⟩
  rw [this, List.filter_eq_self.mpr (fun _ _ => rfl)]
  rfl
theorem comp_map {C : DL.Ctx} {tg : Tg} {e : E} {ρ : List Sl} {g : D → D} (ds : List D) (h : ∀ d ∈ ds, ∃ ρ' b, tg.bind d ρ = some ρ' ∧ ev C e ρ' = .ok (g d, b)) : compS C tg .yes e ds [] ρ = .ok (ds.map g) := by
  have := comp_all (C := C) (tg := tg) (c := .yes) (e := e) (ρ := ρ) (p := fun _ => true) (g := g) ds [] fun d hd => by
    obtain ⟨ρ', b, h1, h2⟩ := h d hd
    exact ⟨ρ', b, h1, rfl, fun _ => h2⟩
  rw [this, List.filter_eq_self.mpr (fun _ _ => rfl)]
  rfl
/-- a for whose turns go on -/
theorem fr_inv {C : DL.Ctx} {tg : Tg} {b : Ss} (Inv : Nat → List Sl → Prop) : ∀ (ds : List D) (i : Nat) (ρ : List Sl), Inv i ρ → (∀ j d ρ, ds[j]? = some d → Inv (i + j) ρ → ∃ ρ' ρ2, tg.bind d ρ = some ρ' ∧ evSs C b ρ' = .nx ρ2 ∧ Inv (i + j + 1) ρ2) → ∃ ρ', frS C tg b ds ρ = .nx ρ' ∧ Inv (i + ds.length) ρ'
  | [], i, ρ, h, _ => ⟨ρ, rfl, h⟩
  | d :: ds, i, ρ, h, k => by
    obtain ⟨ρ', ρ2, h1, h2, h3⟩ := k 0 d ρ rfl h
    obtain ⟨ρ3, h4, h5⟩ := fr_inv Inv ds (i + 1) ρ2 h3 fun j d ρ hj hi => by
      have := k (j + 1) d ρ (by simpa using hj) (by rw [show i + (j + 1) = i + 1 + j by omega]; exact hi)
      rw [show i + (j + 1) + 1 = i + 1 + j + 1 by omega] at this
      exact this
    refine ⟨ρ3, ?_, by rw [List.length_cons, show i + (ds.length + 1) = i + 1 + ds.length by omega]; exact h5⟩
    unfold frS fLoop
    rw [h1]
    dsimp only
    rw [h2]
    exact h4
theorem cut_nat (xs : List D) (a b : Nat) : cutD xs (some (a : Int)) (some (b : Int)) = (xs.drop a).take (b - a) := by
  unfold cutD
  rw [HT.sIx_nat, HT.sIx_nat]
  by_cases h : a ≤ xs.length
  · rw [Nat.min_eq_left h]
    apply List.ext_getElem?
    intro i
    simp only [List.getElem?_take, List.getElem?_drop]
    by_cases h1 : i < b - a
    · by_cases h2 : i < min b xs.length - a
      · rw [if_pos h1, if_pos h2]
      · rw [if_pos h1, if_neg h2, List.getElem?_eq_none (by omega)]
    · rw [if_neg h1, if_neg (by omega)]
  · rw [Nat.min_eq_right (by omega : xs.length ≤ a), List.drop_length, List.drop_eq_nil_of_le (by omega : xs.length ≤ a)]
    simp
theorem cut_to (xs : List D) (b : Nat) : cutD xs none (some (b : Int)) = xs.take b := by
  unfold cutD
  rw [HT.sIx_nat, HT.sIx_none]
  rw [List.drop_zero, Nat.sub_zero]
  by_cases h : b ≤ xs.length
  · rw [Nat.min_eq_left h]
  · rw [Nat.min_eq_right (by omega : xs.length ≤ b), List.take_length, List.take_of_length_le (by omega)]
theorem cut_from (xs : List D) (a : Nat) : cutD xs (some (a : Int)) none = xs.drop a := by
  unfold cutD
  rw [HT.sIx_nat, HT.sIx_none]
  by_cases h : a ≤ xs.length
  · rw [Nat.min_eq_left h, List.take_of_length_le (by rw [List.length_drop]; omega)]
  · rw [Nat.min_eq_right (by omega : xs.length ≤ a), List.drop_length, List.drop_eq_nil_of_le (by omega : xs.length ≤ a)]
    simp
theorem mod_bd {i n : Int} (h : 0 < n) : 0 ≤ i.fmod n ∧ i.fmod n < n := by
  have e : i.fmod n = i % n := Int.fmod_eq_emod_of_nonneg i (by omega)
  rw [e]
  exact ⟨Int.emod_nonneg i (by omega), Int.emod_lt_of_pos i h⟩
theorem slK (xs : List D) (lo hi : Option Int) : slD (.kl xs) lo hi = .ok (.lst (cutD xs lo hi), true) := nrfl rfl
theorem slL (xs : List D) (lo hi : Option Int) : slD (.lst xs) lo hi = .ok (.lst (cutD xs lo hi), true) := nrfl rfl
/-- a comprehension without a test, what it tells told turn by turn -/
theorem comp_ex {C : DL.Ctx} {tg : Tg} {e : E} {ρ : List Sl} {P : D → Prop} (ds : List D) (h : ∀ d ∈ ds, ∃ ρ' y b, tg.bind d ρ = some ρ' ∧ ev C e ρ' = .ok (y, b) ∧ P y) : ∃ ys, compS C tg .yes e ds [] ρ = .ok ys ∧ ys.length = ds.length ∧ ∀ y ∈ ys, P y := by
  have key : ∀ (ds acc : List D), (∀ d ∈ ds, ∃ ρ' y b, tg.bind d ρ = some ρ' ∧ ev C e ρ' = .ok (y, b) ∧ P y) → ∃ ys, compS C tg .yes e ds acc ρ = .ok (acc ++ ys) ∧ ys.length = ds.length ∧ ∀ y ∈ ys, P y := by
    intro ds
    induction ds with
    | nil => intro acc _; exact ⟨[], by simp [compS, cLoop], rfl, fun _ z => by cases z⟩
    | cons d ds ih =>
      intro acc h
      obtain ⟨ρ', y, b, h1, h2, h3⟩ := h d List.mem_cons_self
      obtain ⟨ys, a1, a2, a3⟩ := ih (acc ++ [y]) fun d hd => h d (List.mem_cons_of_mem _ hd)
      refine ⟨y :: ys, ?_, congrArg (· + 1) a2, fun z hz => ?_⟩
      · unfold compS cLoop
        rw [h1]
        dsimp only
        rw [show evT C .yes ρ' = .ok true from rfl]
        dsimp only
        rw [h2]
        dsimp only
        unfold compS at a1
        rw [a1]
        simp
      · rcases List.mem_cons.mp hz with z | z
        · rw [z]; exact h3
        · exact a3 _ z
  obtain ⟨ys, a1, a2, a3⟩ := key ds [] h
  exact ⟨ys, by simpa using a1, a2, a3⟩
theorem strs_ex {Q : Str → Prop} : ∀ ys : List D, (∀ y ∈ ys, ∃ r, y = .str r ∧ Q r) → ∃ rs : List Str, ys = rs.map .str ∧ ∀ r ∈ rs, Q r
  | [], _ => ⟨[], rfl, fun _ z => by cases z⟩
  | y :: ys, h => by
    obtain ⟨r, rfl, hr⟩ := h y List.mem_cons_self
    obtain ⟨rs, rfl, hrs⟩ := strs_ex ys fun y hy => h y (List.mem_cons_of_mem _ hy)
    exact ⟨r :: rs, rfl, fun z hz => by
      rcases List.mem_cons.mp hz with e | hz
      · rw [e]; exact hr
      · exact hrs z hz⟩
def tixR (dt : List (Str × List (Str × D))) (n : Str) (x : R) : R := x.bind fun k => tixD dt n k.1
theorem e_tix {C : DL.Ctx} {ρ : List Sl} (n : Str) (a : E) : ev C (.tix n a) ρ = tixR C.inf.dt n (ev C a ρ) := nrfl rfl
theorem tixR_ok (dt : List (Str × List (Str × D))) (n z : Str) (p : Bool) {tb : List (Str × D)} {d : D} (h1 : dt.lookup n = some tb) (h2 : tb.lookup z = some d) : tixR dt n (.ok (.str z, p)) = .ok (d, false) := by
  show tixD dt n (.str z) = _
  simp only [tixD, h1, h2]
theorem e_glb {C : DL.Ctx} {ρ : List Sl} (x : Str) {d : D} (h : C.inf.gt.lookup x = some d) : ev C (.glb x) ρ = .ok (d, false) := by
  show (match C.inf.gt.lookup x with | some d => (Rz.ok (d, false) : R) | none => .bad) = _
  rw [h]
def ssetR (x : R) : R := x.bind fun x => ssetD x.1
theorem e_sset {C : DL.Ctx} {ρ : List Sl} (a : E) : ev C (.sset a) ρ = ssetR (ev C a ρ) := nrfl rfl
theorem ssetR_ok (ks : List Str) (p : Bool) (h : ks.length + 1 < 4096) : ssetR (.ok (.lst (ks.map .str), p)) = .ok (.lst ((sortS (ddS ks)).map .str), true) := by
  show ssetD (.lst (ks.map .str)) = _
  simp only [ssetD, strsOf_map]
  exact if_pos h
def maxdR (x y : R) : R := x.bind fun x => y.bind fun y => maxdD x.1 y.1
theorem e_maxd {C : DL.Ctx} {ρ : List Sl} (a d : E) : ev C (.maxd a d) ρ = maxdR (ev C a ρ) (ev C d ρ) := nrfl rfl
theorem maxdR_ok (ks : List Int) (k : Int) (p q : Bool) : maxdR (.ok (.lst (ks.map .int), p)) (.ok (.int k, q)) = dInt (if ks.length = 0 then k else maxI ks) := by
  show maxdD (.lst (ks.map .int)) (.int k) = _
  simp only [maxdD, intsOf_map]
/-! classes, defaults -/
def clsBody : Stmt → List Stmt
  | .ClassDef (body := b) .. => b
  | _ => []
theorem e_cald {C : DL.Ctx} {ρ : List Sl} (f : Str) (es : Es) : ev C (.cald f es) ρ = match C.inf.df.lookup f with
    | some dv => (evs C es ρ).bind fun xs => C.cal f (xs ++ dv)
    | none => .bad := nrfl rfl
def mkR (cls : List (Str × List Str × List (Str × Str))) (c : Str) (x : R) (ds : Rz (List D)) : R := match x with
  | .ok _ => ds.bind fun ds => mkD cls c ds
  | _ => .bad
theorem e_mk {C : DL.Ctx} {ρ : List Sl} (c : Str) (es : Es) : ev C (.mk c es) ρ = mkR C.inf.cls c (C.cal Str.empty []) (evs C es ρ) := nrfl rfl
theorem mkR_ok (cls : List (Str × List Str × List (Str × Str))) (c : Str) (p : D × Bool) (ds : List D) : mkR cls c (.ok p) (.ok ds) = mkD cls c ds := nrfl rfl
def fldR (cls : List (Str × List Str × List (Str × Str))) (f : Str) (x : R) : R := x.bind fun x => fldD cls x.1 f
theorem e_fld {C : DL.Ctx} {ρ : List Sl} (a : E) (f : Str) : ev C (.fld a f) ρ = fldR C.inf.cls f (ev C a ρ) := nrfl rfl
theorem fldR_ok (cls : List (Str × List Str × List (Str × Str))) (f : Str) (d : D) (p : Bool) : fldR cls f (.ok (d, p)) = fldD cls d f := nrfl rfl
def mthX (cal : Str → List D → R) (d : D) (ds : Rz (List D)) (g : Option Str) : R := match g with
  | some g => ds.bind fun ds => cal g (d :: ds)
  | none => .bad
def mthR (cal : Str → List D → R) (cls : List (Str × List Str × List (Str × Str))) (m : Str) (x : R) (ds : Rz (List D)) : R := x.bind fun x => mthX cal x.1 ds (mthD cls x.1 m)
theorem e_mth {C : DL.Ctx} {ρ : List Sl} (a : E) (m : Str) (es : Es) : ev C (.mth a m es) ρ = mthR C.cal C.inf.cls m (ev C a ρ) (evs C es ρ) := nrfl rfl
theorem mthR_ok (cal : Str → List D → R) (cls : List (Str × List Str × List (Str × Str))) (m : Str) (d : D) (p : Bool) (ds : Rz (List D)) : mthR cal cls m (.ok (d, p)) ds = mthX cal d ds (mthD cls d m) := nrfl rfl
theorem mthX_ok (cal : Str → List D → R) (d : D) (ds : List D) (g : Str) : mthX cal d (.ok ds) (some g) = cal g (d :: ds) := nrfl rfl
theorem run_mk {I : Inf} {fs : List Fi} (h : fs.all (fun fi => !decide (fi.nm = Str.empty)) = true) {n : Nat} (hn : 2 ≤ n) : run I fs n Str.empty [] = .ok (.non, false) := by
  have hf : fs.find? (fun x => decide (x.nm = Str.empty)) = none := by
    rw [List.find?_eq_none]
    intro fi hm
    have := List.all_eq_true.mp h fi hm
    simpa using this
  match n, hn with
  | j + 2, _ =>
    show (match fs.find? (fun x => decide (x.nm = Str.empty)) with | some fi => (if ([] : List D).length = fi.ps.length then (evSs ⟨run I fs (j + 1), I⟩ fi.body (([] : List D).map Sl.val ++ List.replicate (fi.N.length - ([] : List D).length) Sl.no)).fin else Rz.bad) | none => if Str.empty = Str.empty then (match j + 1 with | 0 => Rz.bad | _ + 1 => Rz.ok (D.non, false)) else Rz.bad) = _
    rw [hf]
    exact if_pos rfl
def rng3D (x y z : R) : Rz (List D) := x.bind fun x => y.bind fun y => z.bind fun z => match x.1, y.1, z.1 with
    | .int i, .int j, .int k => if RgcOk i j k then .ok (rngC i k (Builtin.Range.rangeSize i j k).toNat) else .bad
    | _, _, _ => .bad
theorem i_rng3' {C : DL.Ctx} {ρ : List Sl} (a b c : E) : evIt C (.rng3 a b c) ρ = rng3D (ev C a ρ) (ev C b ρ) (ev C c ρ) := nrfl rfl
theorem rng3_nat {n k : Nat} {p q r : Bool} (hk : 0 < k) (hk2 : k < 1000000) (hn : n < 1000000) : rng3D (.ok (.int 0, p)) (.ok (.int (n : Nat), q)) (.ok (.int (k : Nat), r)) = .ok (rngC 0 (k : Nat) ((n + k - 1) / k)) := by
  have e : Builtin.Range.rangeSize 0 (n : Nat) (k : Nat) = (((n + k - 1) / k : Nat) : Int) := by
    unfold Builtin.Range.rangeSize
    rw [if_pos (by omega)]
    by_cases h : 0 < n
    · rw [if_pos (by omega)]
      have : (n + k - 1) / k = (n - 1) / k + 1 := by
        have : n + k - 1 = (n - 1) + k := by omega
        rw [this, Nat.add_div_right _ hk]
      rw [this]
      have e2 : ((n : Int) - 0 - 1) = ((n - 1 : Nat) : Int) := by omega
      rw [e2]
      rw [Int.natCast_add, Int.natCast_ediv]; rfl
    · rw [if_neg (by omega)]
      have : n = 0 := by omega
      subst this
      rw [Nat.div_eq_of_lt (by omega)]; rfl
  have b : (n + k - 1) / k ≤ n + k := Nat.le_trans (Nat.div_le_self _ _) (by omega)
  have ok : RgcOk 0 (n : Nat) (k : Nat) := by
    refine ⟨by omega, by omega, ?_, ?_⟩
    · unfold Builtin.Range.small
      rw [e]
      generalize (n + k - 1) / k = q at b ⊢
      simp only [Builtin.Range.rangeFitsLong, Bool.and_eq_true, Bool.or_eq_true, decide_eq_true_eq, beq_iff_eq]
      have : (k : Int) > 0 := by omega
      simp only [this, if_true, Bool.and_eq_true, decide_eq_true_eq]
      omega
    · rw [e]; show ((n + k - 1) / k : Nat) ≤ 16777216; omega
  show (if RgcOk 0 (n : Nat) (k : Nat) then _ else _) = _
  rw [if_pos ok, e]; rfl
theorem LIMv : LIM = 16777216 := rfl
theorem lentOk_dct (kvs : List (L2.Key × D)) : lentOk (.dct false kvs, true) = if hards (kvs.map (·.2)) = true then .ok (.dct false kvs, true) else .bad := nrfl rfl
theorem lentOk_lst (ds : List D) : lentOk (.lst ds, true) = if hards ds = true then .ok (.lst ds, true) else .bad := nrfl rfl
theorem lentOk_int (i : Int) (p : Bool) : lentOk (.int i, p) = .ok (.int i, false) := nrfl rfl
theorem lentOk_bl (i : Bool) (p : Bool) : lentOk (.bl i, p) = .ok (.bl i, false) := nrfl rfl
theorem lentOk_str (i : Str) (p : Bool) : lentOk (.str i, p) = .ok (.str i, false) := nrfl rfl
theorem lentOk_non (p : Bool) : lentOk (.non, p) = .ok (.non, false) := nrfl rfl
theorem atI_at {α : Type} {xs : List α} {k : Nat} (h : k < xs.length) : L2.atI xs (k : Int) = some xs[k] := L2.atI_nat (List.getElem?_eq_getElem h)
theorem ixD_lst (xs : List D) (i : Int) : ixD (.lst xs) (.int i) = match L2.atI xs i with | some d => .ok (d, false) | none => .bad := nrfl rfl
theorem ixD_tup (xs : List D) (i : Int) : ixD (.tup xs) (.int i) = match L2.atI xs i with | some d => .ok (d, false) | none => .bad := nrfl rfl
theorem ixD_kl (xs : List D) (i : Int) : ixD (.kl xs) (.int i) = match L2.atI xs i with | some d => .ok (d, false) | none => .bad := nrfl rfl
theorem ix_lst {xs : List D} {k : Nat} (h : k < xs.length) : ixD (.lst xs) (.int (k : Nat)) = .ok (xs[k], false) := by rw [ixD_lst, atI_at h]
theorem ix_tup' {xs : List D} {k : Nat} (h : k < xs.length) : ixD (.tup xs) (.int (k : Nat)) = .ok (xs[k], false) := by rw [ixD_tup, atI_at h]
theorem ix_kl {xs : List D} {k : Nat} (h : k < xs.length) : ixD (.kl xs) (.int (k : Nat)) = .ok (xs[k], false) := by rw [ixD_kl, atI_at h]
theorem fst_ok {ss : List Str} (h : (catS ss).length ≤ LIM) : fstD (ss.map .str) = .ok (.str (catS ss), false) := by
  unfold fstD
  rw [strsOf_map]
  exact if_pos h
theorem bf_str {i : Int} (h : i.natAbs.log2 < 1920 ∧ (Str.ofString (toString i)).length ≤ LIM) : bfD .str [.int i] = .ok (.str (Str.ofString (toString i)), false) := if_pos h
end DL

namespace K09
open PySem PySem.Spec DL
def f_measure_text : Fi := ⟨"measure_text", 10, ["text"], ["text", "figures", "deep", "sign"],
 (.cons (.ite (.cmp .gt (.bf .len (.cons (.var 0) .nil)) (.glb "SIGNS"))
 (.cons (.rai "TooLong")
 .nil)
 .nil)
 (.cons (.set 1 false (.lit (.int 0)))
 (.cons (.set 2 false (.lit (.int 0)))
 (.cons (.fr (.one 3) (.seq (.var 0))
 (.cons (.ite (.cmp .isIn (.var 3) (.glb "FIGURES"))
 (.cons (.set 1 false (.bin .add (.var 1) (.lit (.int 1))))
 .nil)
 (.cons (.set 1 false (.lit (.int 0)))
 .nil))
 (.cons (.ite (.cmp .eq (.var 3) (.lit (.str "(")))
 (.cons (.set 2 false (.bin .add (.var 2) (.lit (.int 1))))
 .nil)
 .nil)
 (.cons (.ite (.cmp .eq (.var 3) (.lit (.str ")")))
 (.cons (.set 2 false (.bin .sub (.var 2) (.lit (.int 1))))
 .nil)
 .nil)
 (.cons (.ite (.or (.cmp .gt (.var 1) (.glb "ROW")) (.cmp .gt (.var 2) (.glb "DEEP")))
 (.cons (.rai "TooLong")
 .nil)
 .nil)
 .nil)))))
 .nil))))⟩
def f_run_from : Fi := ⟨"run_from", 11, ["text", "at", "signs"], ["text", "at", "signs", "end"],
 (.cons (.set 3 false (.var 1))
 (.cons (.whl (.and (.cmp .lt (.var 3) (.bf .len (.cons (.var 0) .nil))) (.cmp .isIn (.idx (.var 0) (.var 3)) (.var 2)))
 (.cons (.set 3 false (.bin .add (.var 3) (.lit (.int 1))))
 .nil))
 (.cons (.ret (.slc (.var 0) (.at (.var 1)) (.at (.var 3))))
 .nil)))⟩
def f_piece_from : Fi := ⟨"piece_from", 12, ["text", "at"], ["text", "at", "sign"],
 (.cons (.set 2 false (.idx (.var 0) (.var 1)))
 (.cons (.ite (.cmp .isIn (.var 2) (.glb "LETTERS"))
 (.cons (.ret (.call "run_from" (.cons (.var 0) (.cons (.var 1) (.cons (.bin .add (.glb "LETTERS") (.glb "FIGURES")) .nil)))))
 .nil)
 .nil)
 (.cons (.ite (.cmp .isIn (.var 2) (.glb "FIGURES"))
 (.cons (.ret (.call "run_from" (.cons (.var 0) (.cons (.var 1) (.cons (.glb "FIGURES") .nil)))))
 .nil)
 .nil)
 (.cons (.ite (.cmp .isIn (.var 2) (.lit (.str "(),+-*=")))
 (.cons (.ret (.var 2))
 .nil)
 .nil)
 (.cons (.ite (.and (.cmp .isIn (.var 2) (.lit (.str "<>"))) (.cmp .eq (.slc (.var 0) (.at (.bin .add (.var 1) (.lit (.int 1)))) (.at (.bin .add (.var 1) (.lit (.int 2))))) (.lit (.str "="))))
 (.cons (.ret (.bin .add (.var 2) (.lit (.str "="))))
 .nil)
 .nil)
 (.cons (.rai "NoText")
 .nil))))))⟩
def f_pieces : Fi := ⟨"pieces", 13, ["text"], ["text", "row", "at"],
 (.cons (.exp (.call "measure_text" (.cons (.var 0) .nil)))
 (.cons (.set 1 true (.lst .nil))
 (.cons (.set 2 false (.lit (.int 0)))
 (.cons (.whl (.cmp .lt (.var 2) (.bf .len (.cons (.var 0) .nil)))
 (.cons (.ite (.cmp .eq (.idx (.var 0) (.var 2)) (.lit (.str " ")))
 (.cons (.set 2 false (.bin .add (.var 2) (.lit (.int 1))))
 .nil)
 (.cons (.app 1 (.call "piece_from" (.cons (.var 0) (.cons (.var 2) .nil))))
 (.cons (.set 2 false (.lent [1] (.bin .add (.var 2) (.bf .len (.cons (.idx (.var 1) (.neg (.lit (.int 1)))) .nil)))))
 .nil)))
 .nil))
 (.cons (.retv 1)
 .nil)))))⟩
def f_law_cell_at : Fi := ⟨"_law_cell_at", 15, ["_law_script", "_law_k"], ["_law_script", "_law_k"],
 (.cons (.ite (.cmp .lt (.var 1) (.bf .len (.cons (.var 0) .nil)))
 (.cons (.ret (.idx (.var 0) (.var 1)))
 .nil)
 .nil)
 (.cons (.ret (.lit (.int 0)))
 .nil))⟩
def f_law_mix : Fi := ⟨"_law_mix", 16, ["_law_cell", "_law_k", "_law_many"], ["_law_cell", "_law_k", "_law_many", "_law_some"],
 (.cons (.set 3 false (.lst (.cons (.lit (.int 271828183)) (.cons (.lit (.int 314159269)) (.cons (.lit (.int 161803399)) (.cons (.lit (.int 141421357)) (.cons (.lit (.int 173205081)) .nil)))))))
 (.cons (.set 3 false (.bin .add (.var 3) (.lst (.cons (.lit (.int 223606797)) (.cons (.lit (.int 244948975)) (.cons (.lit (.int 264575131)) (.cons (.lit (.int 331662479)) (.cons (.lit (.int 360555127)) .nil))))))))
 (.cons (.ret (.bin .mod (.bin .mod (.bin .mul (.bin .add (.var 0) (.lit (.int 1))) (.idx (.var 3) (.var 1))) (.lit (.int 1000000007))) (.var 2)))
 .nil)))⟩
def f_law_parted : Fi := ⟨"_law_parted", 17, ["_law_last", "_law_piece"], ["_law_last", "_law_piece", "_law_letters", "_law_figures"],
 (.cons (.set 2 false (.lit (.str "abcdefghijklmnopqrstuvwxyz")))
 (.cons (.set 3 false (.lit (.str "0123456789")))
 (.cons (.ite (.cmp .eq (.var 0) (.lit (.str "")))
 (.cons (.ret (.lit (.bl false)))
 .nil)
 .nil)
 (.cons (.ite (.cmp .isIn (.idx (.var 0) (.lit (.int 0))) (.var 2))
 (.cons (.ret (.or (.cmp .isIn (.idx (.var 1) (.lit (.int 0))) (.var 2)) (.cmp .isIn (.idx (.var 1) (.lit (.int 0))) (.var 3))))
 .nil)
 .nil)
 (.cons (.ite (.cmp .isIn (.idx (.var 0) (.lit (.int 0))) (.var 3))
 (.cons (.ret (.cmp .isIn (.idx (.var 1) (.lit (.int 0))) (.var 3)))
 .nil)
 .nil)
 (.cons (.ret (.cmp .isIn (.var 0) (.tup (.cons (.lit (.str "<")) (.cons (.lit (.str ">")) .nil)))))
 .nil))))))⟩
def f_law_text_of : Fi := ⟨"_law_text_of", 18, ["_law_row", "_law_seed"], ["_law_row", "_law_seed", "_law_text", "_law_last", "_law_k", "_law_gap"],
 (.cons (.set 2 false (.slc (.lit (.str "  ")) .no (.at (.bin .mod (.var 1) (.lit (.int 3))))))
 (.cons (.set 3 false (.lit (.str "")))
 (.cons (.fr (.one 4) (.rng1 (.bf .len (.cons (.var 0) .nil)))
 (.cons (.set 5 false (.slc (.lit (.str "  ")) .no (.at (.call "_law_mix" (.cons (.bin .add (.var 1) (.var 4)) (.cons (.lit (.int 0)) (.cons (.lit (.int 3)) .nil)))))))
 (.cons (.ite (.and (.cmp .eq (.var 5) (.lit (.str ""))) (.v (.call "_law_parted" (.cons (.var 3) (.cons (.idx (.var 0) (.var 4)) .nil)))))
 (.cons (.set 5 false (.lit (.str " ")))
 .nil)
 .nil)
 (.cons (.set 2 false (.bin .add (.bin .add (.var 2) (.var 5)) (.idx (.var 0) (.var 4))))
 (.cons (.set 3 false (.idx (.var 0) (.var 4)))
 .nil)))))
 (.cons (.ret (.bin .add (.var 2) (.slc (.lit (.str "  ")) .no (.at (.bin .mod (.bin .fdiv (.var 1) (.lit (.int 3))) (.lit (.int 3)))))))
 .nil))))⟩
def f_law_piece_by : Fi := ⟨"_law_piece_by", 19, ["_law_cell"], ["_law_cell", "_law_letters", "_law_signs", "_law_way_here", "_law_rest", "_law_size", "_law_number", "_law_k", "_law_word"],
 (.cons (.set 1 false (.lit (.str "abcdefghijklmnopqrstuvwxyz")))
 (.cons (.set 2 false (.bin .add (.var 1) (.lit (.str "0123456789"))))
 (.cons (.set 3 false (.bin .mod (.var 0) (.lit (.int 12))))
 (.cons (.set 4 false (.bin .fdiv (.var 0) (.lit (.int 12))))
 (.cons (.ite (.cmp .gt (.var 3) (.lit (.int 6)))
 (.cons (.ret (.idx (.lst (.cons (.lit (.str "(")) (.cons (.lit (.str ")")) (.cons (.lit (.str ",")) (.cons (.lit (.str "+")) (.cons (.lit (.str "-")) (.cons (.lit (.str "*")) (.cons (.lit (.str "=")) (.cons (.lit (.str ">=")) (.cons (.lit (.str "<=")) .nil)))))))))) (.bin .mod (.var 4) (.lit (.int 9)))))
 .nil)
 .nil)
 (.cons (.ite (.cmp .gt (.var 3) (.lit (.int 3)))
 (.cons (.set 8 false (.idx (.var 1) (.bin .mod (.var 4) (.lit (.int 26)))))
 (.cons (.fr (.one 7) (.rng1 (.bin .mod (.bin .fdiv (.var 4) (.lit (.int 26))) (.lit (.int 12))))
 (.cons (.set 8 false (.bin .add (.var 8) (.idx (.var 2) (.bin .mod (.bin .add (.var 4) (.bin .mul (.bin .mul (.lit (.int 7)) (.var 7)) (.var 7))) (.lit (.int 36))))))
 .nil))
 (.cons (.ret (.var 8))
 .nil)))
 .nil)
 (.cons (.set 5 false (.bin .add (.lit (.int 1)) (.bin .mod (.var 4) (.lit (.int 5)))))
 (.cons (.ite (.cmp .eq (.bin .mod (.bin .fdiv (.var 4) (.lit (.int 5))) (.lit (.int 6))) (.lit (.int 0)))
 (.cons (.set 5 false (.bin .add (.lit (.int 60)) (.bin .mod (.var 4) (.lit (.int 2)))))
 .nil)
 .nil)
 (.cons (.set 6 false (.lit (.str "")))
 (.cons (.fr (.one 7) (.rng1 (.var 5))
 (.cons (.set 6 false (.bin .add (.var 6) (.idx (.var 2) (.bin .add (.lit (.int 26)) (.bin .mod (.bin .add (.bin .fdiv (.var 4) (.lit (.int 7))) (.bin .mul (.bin .mul (.lit (.int 3)) (.var 7)) (.var 7))) (.lit (.int 10)))))))
 .nil))
 (.cons (.ret (.var 6))
 .nil)))))))))))⟩
def f_law_alien : Fi := ⟨"_law_alien", 20, ["_law_cell"], ["_law_cell", "_law_some"],
 (.cons (.set 1 false (.lst (.cons (.lit (.str "A")) (.cons (.lit (.str "Z")) (.cons (.lit (.str ".")) (.cons (.lit (.str "/")) (.cons (.lit (.str ":")) (.cons (.lit (.str ";")) (.cons (.lit (.str "!")) (.cons (.lit (.str "?")) (.cons (.lit (.str "#")) (.cons (.lit (.str "&")) (.cons (.lit (.str "'")) (.cons (.lit (.str "\"")) (.cons (.lit (.str "[")) (.cons (.lit (.str "\\")) (.cons (.lit (.str "]")) (.cons (.lit (.str "^")) (.cons (.lit (.str "{")) (.cons (.lit (.str "|")) (.cons (.lit (.str "}")) (.cons (.lit (.str "~")) .nil))))))))))))))))))))))
 (.cons (.set 1 false (.bin .add (.var 1) (.lst (.cons (.lit (.str "\n")) (.cons (.lit (.str "\t")) (.cons (.lit (.str "$")) (.cons (.lit (.str "@")) (.cons (.lit (.str "<")) (.cons (.lit (.str ">")) .nil)))))))))
 (.cons (.ret (.idx (.var 1) (.bin .mod (.var 0) (.lit (.int 26)))))
 .nil)))⟩
def f_law_too_long : Fi := ⟨"_law_too_long", 21, ["_law_text", "_law_row"], ["_law_text", "_law_row", "_law_deep", "_law_piece"],
 (.cons (.ite (.cmp .gt (.bf .len (.cons (.var 0) .nil)) (.lit (.int 2000)))
 (.cons (.ret (.lit (.bl true)))
 .nil)
 .nil)
 (.cons (.set 2 false (.lit (.int 0)))
 (.cons (.fr (.one 3) (.seq (.var 1))
 (.cons (.ite (.cmp .eq (.var 3) (.lit (.str "(")))
 (.cons (.set 2 false (.bin .add (.var 2) (.lit (.int 1))))
 .nil)
 .nil)
 (.cons (.ite (.cmp .eq (.var 3) (.lit (.str ")")))
 (.cons (.set 2 false (.bin .sub (.var 2) (.lit (.int 1))))
 .nil)
 .nil)
 (.cons (.ite (.or (.cmp .gt (.var 2) (.lit (.int 16))) (.cmp .gt (.bf .len (.cons (.var 3) .nil)) (.lit (.int 60))))
 (.cons (.ret (.lit (.bl true)))
 .nil)
 .nil)
 .nil))))
 (.cons (.ret (.lit (.bl false)))
 .nil))))⟩
def f_law_row_by : Fi := ⟨"_law_row_by", 22, ["_law_cells", "_law_first", "_law_second"], ["_law_cells", "_law_first", "_law_second", "_law_row", "_law_place", "_law_cell", "_law_k"],
 (.cons (.set 3 false (.comp (.one 5) (.seq (.var 0)) .yes (.call "_law_piece_by" (.cons (.var 5) .nil)) [("_law_cell", 5)]))
 (.cons (.ite (.cmp .eq (.bin .mod (.var 1) (.lit (.int 4))) (.lit (.int 1)))
 (.cons (.set 3 false (.bin .add (.comp (.one 6) (.rng1 (.bin .add (.lit (.int 14)) (.bin .mod (.bin .fdiv (.var 1) (.lit (.int 4))) (.lit (.int 5))))) .yes (.lit (.str "(")) [("_law_k", 6)]) (.var 3)))
 .nil)
 .nil)
 (.cons (.ite (.cmp .eq (.bin .mod (.var 2) (.lit (.int 3))) (.lit (.int 1)))
 (.cons (.set 4 false (.bin .mod (.bin .fdiv (.var 2) (.lit (.int 3))) (.bin .add (.bf .len (.cons (.var 3) .nil)) (.lit (.int 1)))))
 (.cons (.set 3 false (.bin .add (.bin .add (.slc (.var 3) .no (.at (.var 4))) (.lst (.cons (.call "_law_alien" (.cons (.bin .fdiv (.var 2) (.lit (.int 101))) .nil)) .nil))) (.slc (.var 3) (.at (.var 4)) .no)))
 .nil))
 .nil)
 (.cons (.ret (.var 3))
 .nil))))⟩
def f_law_way : Fi := ⟨"_law_way", 23, ["_law_text"], ["_law_text", "_law_caught", "error"],
 (.cons (.set 1 false (.lit .non))
 (.cons (.tryK "SumError"
 (.cons (.exp (.call "pieces" (.cons (.var 0) .nil)))
 .nil)
 2 1)
 (.cons (.ite (.cmp .isN (.var 1) (.lit .non))
 (.cons (.ret (.lit (.str "none")))
 .nil)
 .nil)
 (.cons (.ite (.v (.isx (.var 1) "TooLong"))
 (.cons (.ret (.idx (.lst (.cons (.lit (.str "long")) (.cons (.lit (.str "both")) .nil))) (.bf .int (.cons (.isx (.var 1) "NoText") .nil))))
 .nil)
 .nil)
 (.cons (.ret (.idx (.lst (.cons (.lit (.str "other")) (.cons (.lit (.str "text")) .nil))) (.bf .int (.cons (.isx (.var 1) "NoText") .nil))))
 .nil)))))⟩
def f_law : Fi := ⟨"law", 24, ["_law_script"], ["_law_script", "_law_first", "_law_second", "_law_row", "_law_text", "_law_got", "_law_k", "_law_piece"],
 (.cons (.set 1 false (.call "_law_cell_at" (.cons (.var 0) (.cons (.lit (.int 0)) .nil))))
 (.cons (.set 2 false (.call "_law_cell_at" (.cons (.var 0) (.cons (.lit (.int 1)) .nil))))
 (.cons (.set 3 false (.call "_law_row_by" (.cons (.slc (.var 0) (.at (.lit (.int 3))) (.at (.lit (.int 53)))) (.cons (.var 1) (.cons (.var 2) .nil)))))
 (.cons (.set 4 false (.call "_law_text_of" (.cons (.var 3) (.cons (.call "_law_cell_at" (.cons (.var 0) (.cons (.lit (.int 2)) .nil))) .nil))))
 (.cons (.ite (.cmp .eq (.bin .mod (.bin .fdiv (.var 1) (.lit (.int 4))) (.lit (.int 8))) (.lit (.int 2)))
 (.cons (.set 4 false (.bin .add (.var 4) (.join (.lit (.str "")) (.comp (.one 6) (.rng1 (.bin .sub (.bin .add (.lit (.int 1999)) (.bin .mod (.var 2) (.lit (.int 4)))) (.bf .len (.cons (.var 4) .nil)))) .yes (.lit (.str " ")) [("_law_k", 6)]))))
 .nil)
 .nil)
 (.cons (.ite (.v (.call "_law_too_long" (.cons (.var 4) (.cons (.var 3) .nil))))
 (.cons (.ret (.cmp .eq (.call "_law_way" (.cons (.var 4) .nil)) (.lit (.str "long"))))
 .nil)
 .nil)
 (.cons (.ite (.cmp .eq (.bin .mod (.var 2) (.lit (.int 3))) (.lit (.int 1)))
 (.cons (.ret (.cmp .eq (.call "_law_way" (.cons (.var 4) .nil)) (.lit (.str "text"))))
 .nil)
 .nil)
 (.cons (.set 5 true (.call "pieces" (.cons (.var 4) .nil)))
 (.cons (.ite (.lent [5] (.or (.not (.v (.isi (.var 5) .list))) (.or (.not (.v (.bf .all (.cons (.comp (.one 7) (.seq (.var 5)) .yes (.isi (.var 7) .str) [("_law_piece", 7)]) .nil)))) (.cmp .ne (.var 5) (.var 3)))))
 (.cons (.ret (.lit (.bl false)))
 .nil)
 .nil)
 (.cons (.clr 5)
 (.cons (.ret (.cmp .eq (.call "pieces" (.cons (.var 4) .nil)) (.var 3)))
 .nil)))))))))))⟩
def fs : List Fi := [f_measure_text, f_run_from, f_piece_from, f_pieces, f_law_cell_at, f_law_mix, f_law_parted, f_law_text_of, f_law_piece_by, f_law_alien, f_law_too_long, f_law_row_by, f_law_way, f_law]
def I : Inf := ⟨("measure_text" :: "run_from" :: "piece_from" :: "pieces" :: "_law_cell_at" :: "_law_mix" :: "_law_parted" :: "_law_text_of" :: "_law_piece_by" :: "_law_alien" :: "_law_too_long" :: "_law_row_by" :: "_law_way" :: []), ("NoText" :: "TooLong" :: []), [("DEEP", (.int 16)), ("FIGURES", (.str "0123456789")), ("LETTERS", (.str "abcdefghijklmnopqrstuvwxyz")), ("ROW", (.int 60)), ("SIGNS", (.int 2000))], ("ValueError" :: "range" :: "isinstance" :: "len" :: "int" :: "list" :: "all" :: "str" :: []), [], [], [], [(("NoText", "SumError"), true), (("TooLong", "SumError"), true)], [], [(("NoText", "NoText"), true), (("NoText", "TooLong"), false), (("TooLong", "NoText"), false), (("TooLong", "TooLong"), true)]⟩
theorem nd : (fs.map (·.nm)).Nodup := by decide +kernel
theorem e_measure_text (n : Nat) (ds : List D) (h : ds.length = 1) : run I fs (n + 1) "measure_text" ds = (evSs ⟨run I fs n, I⟩ f_measure_text.body (ds.map Sl.val ++ List.replicate (4 - ds.length) .no)).fin := run_eq (fi := f_measure_text) nd (List.mem_of_getElem? (i := 0) rfl) h
theorem e_run_from (n : Nat) (ds : List D) (h : ds.length = 3) : run I fs (n + 1) "run_from" ds = (evSs ⟨run I fs n, I⟩ f_run_from.body (ds.map Sl.val ++ List.replicate (4 - ds.length) .no)).fin := run_eq (fi := f_run_from) nd (List.mem_of_getElem? (i := 1) rfl) h
theorem e_piece_from (n : Nat) (ds : List D) (h : ds.length = 2) : run I fs (n + 1) "piece_from" ds = (evSs ⟨run I fs n, I⟩ f_piece_from.body (ds.map Sl.val ++ List.replicate (3 - ds.length) .no)).fin := run_eq (fi := f_piece_from) nd (List.mem_of_getElem? (i := 2) rfl) h
theorem e_pieces (n : Nat) (ds : List D) (h : ds.length = 1) : run I fs (n + 1) "pieces" ds = (evSs ⟨run I fs n, I⟩ f_pieces.body (ds.map Sl.val ++ List.replicate (3 - ds.length) .no)).fin := run_eq (fi := f_pieces) nd (List.mem_of_getElem? (i := 3) rfl) h
theorem e_law_cell_at (n : Nat) (ds : List D) (h : ds.length = 2) : run I fs (n + 1) "_law_cell_at" ds = (evSs ⟨run I fs n, I⟩ f_law_cell_at.body (ds.map Sl.val ++ List.replicate (2 - ds.length) .no)).fin := run_eq (fi := f_law_cell_at) nd (List.mem_of_getElem? (i := 4) rfl) h
theorem e_law_mix (n : Nat) (ds : List D) (h : ds.length = 3) : run I fs (n + 1) "_law_mix" ds = (evSs ⟨run I fs n, I⟩ f_law_mix.body (ds.map Sl.val ++ List.replicate (4 - ds.length) .no)).fin := run_eq (fi := f_law_mix) nd (List.mem_of_getElem? (i := 5) rfl) h
theorem e_law_parted (n : Nat) (ds : List D) (h : ds.length = 2) : run I fs (n + 1) "_law_parted" ds = (evSs ⟨run I fs n, I⟩ f_law_parted.body (ds.map Sl.val ++ List.replicate (4 - ds.length) .no)).fin := run_eq (fi := f_law_parted) nd (List.mem_of_getElem? (i := 6) rfl) h
theorem e_law_text_of (n : Nat) (ds : List D) (h : ds.length = 2) : run I fs (n + 1) "_law_text_of" ds = (evSs ⟨run I fs n, I⟩ f_law_text_of.body (ds.map Sl.val ++ List.replicate (6 - ds.length) .no)).fin := run_eq (fi := f_law_text_of) nd (List.mem_of_getElem? (i := 7) rfl) h
theorem e_law_piece_by (n : Nat) (ds : List D) (h : ds.length = 1) : run I fs (n + 1) "_law_piece_by" ds = (evSs ⟨run I fs n, I⟩ f_law_piece_by.body (ds.map Sl.val ++ List.replicate (9 - ds.length) .no)).fin := run_eq (fi := f_law_piece_by) nd (List.mem_of_getElem? (i := 8) rfl) h
theorem e_law_alien (n : Nat) (ds : List D) (h : ds.length = 1) : run I fs (n + 1) "_law_alien" ds = (evSs ⟨run I fs n, I⟩ f_law_alien.body (ds.map Sl.val ++ List.replicate (2 - ds.length) .no)).fin := run_eq (fi := f_law_alien) nd (List.mem_of_getElem? (i := 9) rfl) h
theorem e_law_too_long (n : Nat) (ds : List D) (h : ds.length = 2) : run I fs (n + 1) "_law_too_long" ds = (evSs ⟨run I fs n, I⟩ f_law_too_long.body (ds.map Sl.val ++ List.replicate (4 - ds.length) .no)).fin := run_eq (fi := f_law_too_long) nd (List.mem_of_getElem? (i := 10) rfl) h
theorem e_law_row_by (n : Nat) (ds : List D) (h : ds.length = 3) : run I fs (n + 1) "_law_row_by" ds = (evSs ⟨run I fs n, I⟩ f_law_row_by.body (ds.map Sl.val ++ List.replicate (7 - ds.length) .no)).fin := run_eq (fi := f_law_row_by) nd (List.mem_of_getElem? (i := 11) rfl) h
theorem e_law_way (n : Nat) (ds : List D) (h : ds.length = 1) : run I fs (n + 1) "_law_way" ds = (evSs ⟨run I fs n, I⟩ f_law_way.body (ds.map Sl.val ++ List.replicate (3 - ds.length) .no)).fin := run_eq (fi := f_law_way) nd (List.mem_of_getElem? (i := 12) rfl) h
theorem e_law (n : Nat) (ds : List D) (h : ds.length = 1) : run I fs (n + 1) "law" ds = (evSs ⟨run I fs n, I⟩ f_law.body (ds.map Sl.val ++ List.replicate (8 - ds.length) .no)).fin := run_eq (fi := f_law) nd (List.mem_of_getElem? (i := 13) rfl) h
--BODY
theorem dpos {n : Nat} (h : 1 ≤ n) : ∃ m, n = m + 1 := ⟨n - 1, by omega⟩
theorem cell_at_ok {n : Nat} (hn : 1 ≤ n) (ns : List Int) (k : Nat) : run I fs n "_law_cell_at" [.kl (ns.map .int), .int k] = dInt (ns.getD k 0) := by
  obtain ⟨m, rfl⟩ := dpos hn
  rw [e_law_cell_at _ _ rfl]
  by_cases h : k < ns.length
  · simp only [ss_nil, ss_cons, s_setF, setF_ok, s_setT, setT_ok, s_unp, unp_two, unp_three, s_exp, expR_ok, expR_exc, s_app, appA_own, s_ext, extA_own, s_put, putA_str, putA_int, s_try1, tryO_nx, tryO_ret, s_tryK, tryKO_nx, tryKO_ret, s_pop2, pop2A_str, s_pop1, popN_none, popN_some, s_upd, updA_dct, s_ret, retR_ok, s_retv, rvR_own, s_retN, s_ite, iteR_ok, s_whl, whT_ok, s_fr, frR_ok, s_brk, s_pas, s_rai, s_frz, e_var, var_val, e_lit, e_bin, bin2_ok, e_neg, negR_int, e_not, notR_bl, e_and, andR_bl, e_or, orR_bl, e_cmp, cmp2_ok, e_chn, chnR_bl, e_tup, e_lst, tup0, tup1, tup2, tup3, tup4, lst0, lst1, lst2, lst3, lst4, lst5, e_idx, idx2_ok, e_slc, slc3_ok, e_call, calR_ok, e_bf, bfR_ok, e_isi, isiR_int, isiR_bl, isiR_str, isiR_tup, isiR_lst, isiR_non, e_lent, lentR_ok, lentOk_int, lentOk_dct, lentOk_bl, lentOk_str, lentOk_non, e_comp, compR_ok, lstT_ok, blR_bl, t_and', andB_ok, t_or', orB_ok, t_not', notB_ok, t_cmp', t_chn', t_lent', t_v', truR_ok, t_yes', es_nil, es_cons, consR_ok, p_no, p_at, inR_int, i_seq', itsR_lst, itsR_tup, itsR_kl, i_rng1', i_rng2', thaw_nil, thaw_cons, thaw1_at, thawA_own, thawA_val, thawA_no, wipe_nil, wipe_cons, e_dnew, e_dnewN, s_clr, clrA_own, e_get1, e_get2, get1R_str, get2R_str, get2R_int, e_join, joinR_lst, e_lok, lokR_dct, lokR_lst, i_enum', i_zip', i_items', i_rev', enumR_lst, enumR_kl, enumR_dct, zipR_lst, zipR_tup, itemsR_dct, revR_lst, itsR_dct, s_frzL, thawL_at, thawB_own, thawB_val, thawB_no, bf_listD, bf_lenD, bf_dict, bf_sum, bf_all, bf_any, c_isN, c_notN, c_isB, c_notB, c_eqB, c_neB, c_leS, c_ltS, c_gtS, c_geS, c_inDs, c_notInDs, b_add, b_sub, b_mul, b_fdiv, b_mod, b_pow, b_cat, b_catS, c_eqI, c_neI, c_eqS, c_neS, c_lt, c_le, c_gt, c_ge, bf_abs, bf_lenL, bf_lenK, bf_lenT, bf_lenS, bf_max, bf_min, bf_list, bf_listT, bf_tuple, bf_tupleT, bf_int, tr_bl, slK, slL, e_fmt, fmtR_str, e_fst, fstR_ok, e_tix, e_maxd, maxdR_ok, e_sset, i_rng3', e_isc, e_isx, e_cald, e_mk, mkR_ok, e_fld, fldR_ok, e_mth, mthR_ok, mthX_ok, seq_nx, seq_ret, seq_brk, seq_exc, seq_ite, wh_nx, wh_brk, wh_ret, wh_exc, wh_ite, fin_nx, fin_ret, fin_exc, fin_ite, List.getElem?_cons_succ, List.getElem?_cons_zero, List.set_cons_zero, List.set_cons_succ, List.map_cons, List.map_nil, List.cons_append, List.nil_append, List.replicate_succ, List.replicate_zero, List.length_cons, List.length_nil, if_true, ite_true, if_false, ite_false, Bool.false_eq_true, decide_eq_true_eq, decide_not, Bool.not_eq_true', Bool.not_true, Bool.not_false, Bool.or_true, Bool.true_or, Bool.or_false, Bool.false_or, not_true_eq_false, not_false_eq_true, bne_iff_ne, ne_eq, reduceCtorEq, eq_self, decide_true, decide_false, dInt, dBl, Nat.reduceAdd, Nat.reduceSub, Nat.reduceLeDiff, Nat.zero_add, Int.reduceToNat, f_law_cell_at, Int.ofNat_lt, List.length_map, h, ixD, atI_map h]
    simp [h]
  · simp only [ss_nil, ss_cons, s_setF, setF_ok, s_setT, setT_ok, s_unp, unp_two, unp_three, s_exp, expR_ok, expR_exc, s_app, appA_own, s_ext, extA_own, s_put, putA_str, putA_int, s_try1, tryO_nx, tryO_ret, s_tryK, tryKO_nx, tryKO_ret, s_pop2, pop2A_str, s_pop1, popN_none, popN_some, s_upd, updA_dct, s_ret, retR_ok, s_retv, rvR_own, s_retN, s_ite, iteR_ok, s_whl, whT_ok, s_fr, frR_ok, s_brk, s_pas, s_rai, s_frz, e_var, var_val, e_lit, e_bin, bin2_ok, e_neg, negR_int, e_not, notR_bl, e_and, andR_bl, e_or, orR_bl, e_cmp, cmp2_ok, e_chn, chnR_bl, e_tup, e_lst, tup0, tup1, tup2, tup3, tup4, lst0, lst1, lst2, lst3, lst4, lst5, e_idx, idx2_ok, e_slc, slc3_ok, e_call, calR_ok, e_bf, bfR_ok, e_isi, isiR_int, isiR_bl, isiR_str, isiR_tup, isiR_lst, isiR_non, e_lent, lentR_ok, lentOk_int, lentOk_dct, lentOk_bl, lentOk_str, lentOk_non, e_comp, compR_ok, lstT_ok, blR_bl, t_and', andB_ok, t_or', orB_ok, t_not', notB_ok, t_cmp', t_chn', t_lent', t_v', truR_ok, t_yes', es_nil, es_cons, consR_ok, p_no, p_at, inR_int, i_seq', itsR_lst, itsR_tup, itsR_kl, i_rng1', i_rng2', thaw_nil, thaw_cons, thaw1_at, thawA_own, thawA_val, thawA_no, wipe_nil, wipe_cons, e_dnew, e_dnewN, s_clr, clrA_own, e_get1, e_get2, get1R_str, get2R_str, get2R_int, e_join, joinR_lst, e_lok, lokR_dct, lokR_lst, i_enum', i_zip', i_items', i_rev', enumR_lst, enumR_kl, enumR_dct, zipR_lst, zipR_tup, itemsR_dct, revR_lst, itsR_dct, s_frzL, thawL_at, thawB_own, thawB_val, thawB_no, bf_listD, bf_lenD, bf_dict, bf_sum, bf_all, bf_any, c_isN, c_notN, c_isB, c_notB, c_eqB, c_neB, c_leS, c_ltS, c_gtS, c_geS, c_inDs, c_notInDs, b_add, b_sub, b_mul, b_fdiv, b_mod, b_pow, b_cat, b_catS, c_eqI, c_neI, c_eqS, c_neS, c_lt, c_le, c_gt, c_ge, bf_abs, bf_lenL, bf_lenK, bf_lenT, bf_lenS, bf_max, bf_min, bf_list, bf_listT, bf_tuple, bf_tupleT, bf_int, tr_bl, slK, slL, e_fmt, fmtR_str, e_fst, fstR_ok, e_tix, e_maxd, maxdR_ok, e_sset, i_rng3', e_isc, e_isx, e_cald, e_mk, mkR_ok, e_fld, fldR_ok, e_mth, mthR_ok, mthX_ok, seq_nx, seq_ret, seq_brk, seq_exc, seq_ite, wh_nx, wh_brk, wh_ret, wh_exc, wh_ite, fin_nx, fin_ret, fin_exc, fin_ite, List.getElem?_cons_succ, List.getElem?_cons_zero, List.set_cons_zero, List.set_cons_succ, List.map_cons, List.map_nil, List.cons_append, List.nil_append, List.replicate_succ, List.replicate_zero, List.length_cons, List.length_nil, if_true, ite_true, if_false, ite_false, Bool.false_eq_true, decide_eq_true_eq, decide_not, Bool.not_eq_true', Bool.not_true, Bool.not_false, Bool.or_true, Bool.true_or, Bool.or_false, Bool.false_or, not_true_eq_false, not_false_eq_true, bne_iff_ne, ne_eq, reduceCtorEq, eq_self, decide_true, decide_false, dInt, dBl, Nat.reduceAdd, Nat.reduceSub, Nat.reduceLeDiff, Nat.zero_add, Int.reduceToNat, f_law_cell_at, Int.ofNat_lt, List.length_map, h]
    simp [h]
/-! texts by their signs -/
def tx (l : List Nat) : Str := ⟨l.toArray⟩
theorem tx_app (a b : List Nat) : tx a ++ tx b = tx (a ++ b) := by
  show (⟨a.toArray ++ b.toArray⟩ : Str) = ⟨(a ++ b).toArray⟩
  rw [List.append_toArray]
theorem tx_len (l : List Nat) : (tx l).length = l.length := List.size_toArray ..
theorem tx_inj {a b : List Nat} (h : tx a = tx b) : a = b := by
  have := congrArg (fun s : Str => s.cps.toList) h
  simpa [tx] using this
theorem tx_toList (l : List Nat) : (tx l).cps.toList = l := List.toList_toArray
theorem tx_of (x : Str) : x = tx x.cps.toList := by
  show x = ⟨x.cps.toList.toArray⟩
  rw [Array.toArray_toList]
theorem tx_ix {l : List Nat} {k : Nat} (h : k < l.length) : ixD (.str (tx l)) (.int (k : Nat)) = .ok (.str (tx [l[k]]), false) := by
  show (match L2.atI (tx l).cps.toList (k : Int) with | some c => Rz.ok (D.str ⟨#[c]⟩, false) | none => .bad) = _
  rw [tx_toList, L2.atI_nat (List.getElem?_eq_getElem h)]; rfl
theorem cutS_take (l : List Nat) (k : Nat) : L2.cutS (tx l) none (some (k : Int)) = tx (l.take k) := by
  unfold L2.cutS
  rw [tx_toList, HT.sIx_nat, HT.sIx_none, tx_len, List.drop_zero, Nat.sub_zero]
  show tx (l.take (min k l.length)) = _
  rw [← List.take_eq_take_min]
theorem cutS_drop {l : List Nat} {k : Nat} (h : k ≤ l.length) : L2.cutS (tx l) (some (k : Int)) none = tx (l.drop k) := by
  unfold L2.cutS
  rw [tx_toList, HT.sIx_nat, HT.sIx_none, tx_len, Nat.min_eq_left h]
  show tx ((l.drop k).take (l.length - k)) = _
  rw [List.take_of_length_le (by rw [List.length_drop]; exact Nat.le_refl _)]
theorem slS (z : Str) (lo hi : Option Int) : slD (.str z) lo hi = .ok (.str (L2.cutS z lo hi), false) := rfl
theorem catT {a b : List Nat} (h : a.length + b.length ≤ 1000) : binD .add (.str (tx a)) (.str (tx b)) = .ok (.str (tx (a ++ b)), false) := by
  rw [b_catS, if_pos (by rw [tx_len, tx_len]; exact Nat.le_trans h (by decide)), tx_app]
theorem last_ix (xs : List D) (d : D) : ixD (.lst (xs ++ [d])) (.int (-1)) = .ok (d, false) := by
  rw [ixD_lst]
  have : L2.atI (xs ++ [d]) (-1) = some d := by
    have e : L2.ixN (xs ++ [d]).length (-1) = some xs.length := by
      unfold L2.ixN
      rw [List.length_append, if_neg (by decide)]
      simp
      omega
    unfold L2.atI
    rw [e]
    simp
  rw [this]
/-! texts scanned -/
def LET : List Nat := ("abcdefghijklmnopqrstuvwxyz" : Str).cps.toList
def FIG : List Nat := ("0123456789" : Str).cps.toList
theorem let_def : tx LET = "abcdefghijklmnopqrstuvwxyz" := by decide +kernel
theorem fig_def : tx FIG = "0123456789" := by decide +kernel
def SIG : List Nat := ("(),+-*=" : Str).cps.toList
theorem sig_def : tx SIG = "(),+-*=" := by decide +kernel
def ANG : List Nat := ("<>" : Str).cps.toList
theorem ang_def : tx ANG = "<>" := by decide +kernel
theorem sp_def : tx [32] = " " := by decide +kernel
theorem op_def : tx [40] = "(" := by decide +kernel
theorem cl_def : tx [41] = ")" := by decide +kernel
theorem eq_def : tx [61] = "=" := by decide +kernel
theorem c_inS (c : Nat) (z : List Nat) : cmpD .isIn (.str (tx [c])) (.str (tx z)) = .ok (.bl (decide (c ∈ z)), false) := by
  show (Rz.ok (!(Builtin.Str.occurrences (tx z) ⟨#[c]⟩ 0 (tx z).length 1).isEmpty)).bind (fun k => dBl k) = _
  rw [PySem.StrLaws.found_one, tx_toList]; rfl
theorem c_eqT (a b : List Nat) : cmpD .eq (.str (tx a)) (.str (tx b)) = .ok (.bl (decide (a = b)), false) := by
  rw [c_eqS]
  congr 2
  by_cases h : a = b
  · rw [h, decide_eq_true rfl]; simp
  · rw [decide_eq_false h, beq_eq_false_iff_ne.mpr fun e => h (tx_inj e)]
def chD (c : Nat) : D := .str (tx [c])
theorem its_str (l : List Nat) (p : Bool) : itsR (.ok (.str (tx l), p)) = .ok (l.map chD) := by
  show Rz.ok ((tx l).cps.toList.map fun c => D.str ⟨#[c]⟩) = _
  rw [tx_toList]; rfl
theorem len_tx (l : List Nat) : bfD .len [.str (tx l)] = .ok (.int (l.length : Nat), false) := by
  show dInt ((tx l).length : Nat) = _
  rw [tx_len]; rfl
theorem ch_ix {l : List Nat} {k : Nat} {c : Nat} {r : List Nat} (h : l.drop k = c :: r) : ixD (.str (tx l)) (.int (k : Nat)) = .ok (.str (tx [c]), false) := by
  have hk : k < l.length := by
    have := congrArg List.length h
    rw [List.length_drop, List.length_cons] at this; omega
  have e : l[k] = c := by
    rw [List.drop_eq_getElem_cons hk] at h
    exact (List.cons.inj h).1
  rw [tx_ix hk, e]
theorem cutS_nat (l : List Nat) (a b : Nat) : L2.cutS (tx l) (some (a : Int)) (some (b : Int)) = tx ((l.drop a).take (b - a)) := by
  unfold L2.cutS
  rw [tx_toList, HT.sIx_nat, HT.sIx_nat, tx_len]
  show tx ((l.drop (min a l.length)).take (min b l.length - min a l.length)) = _
  congr 1
  rcases Nat.lt_or_ge a l.length with h | h
  · rw [Nat.min_eq_left (Nat.le_of_lt h)]
    rcases Nat.lt_or_ge b l.length with h2 | h2
    · rw [Nat.min_eq_left (Nat.le_of_lt h2)]
    · rw [Nat.min_eq_right h2]
      rw [List.take_of_length_le (by rw [List.length_drop]; exact Nat.le_refl _), List.take_of_length_le (by rw [List.length_drop]; omega)]
  · rw [Nat.min_eq_right h, List.drop_length, List.take_nil, List.drop_eq_nil_of_le h, List.take_nil]
/-! the measure -/
def meas : List Nat → Int → Int → Option (Int × Int)
  | [], f, d => some (f, d)
  | c :: cs, f, d => if 60 < (if c ∈ FIG then f + 1 else 0) ∨ 16 < (if c = 41 then (if c = 40 then d + 1 else d) - 1 else if c = 40 then d + 1 else d) then none else meas cs (if c ∈ FIG then f + 1 else 0) (if c = 41 then (if c = 40 then d + 1 else d) - 1 else if c = 40 then d + 1 else d)
theorem glbs {n : Nat} : (∀ ρ, ev ⟨run I fs n, I⟩ (.glb "SIGNS") ρ = .ok (.int 2000, false)) ∧ (∀ ρ, ev ⟨run I fs n, I⟩ (.glb "ROW") ρ = .ok (.int 60, false)) ∧ (∀ ρ, ev ⟨run I fs n, I⟩ (.glb "DEEP") ρ = .ok (.int 16, false)) ∧ (∀ ρ, ev ⟨run I fs n, I⟩ (.glb "FIGURES") ρ = .ok (.str (tx FIG), false)) ∧ (∀ ρ, ev ⟨run I fs n, I⟩ (.glb "LETTERS") ρ = .ok (.str (tx LET), false)) := by
  rw [fig_def, let_def]
  exact ⟨fun ρ => e_glb _ rfl, fun ρ => e_glb _ rfl, fun ρ => e_glb _ rfl, fun ρ => e_glb _ rfl, fun ρ => e_glb _ rfl⟩
theorem meas_loop {m : Nat} (a0 : Sl) : ∀ (cs : List Nat) (f d : Int) (a3 : Sl), (meas cs f d = none ∧ ∃ ρ', frS ⟨run I fs m, I⟩ (.one 3) (.cons (.ite (.cmp .isIn (.var 3) (.glb "FIGURES")) (.cons (.set 1 false (.bin .add (.var 1) (.lit (.int 1)))) .nil) (.cons (.set 1 false (.lit (.int 0))) .nil)) (.cons (.ite (.cmp .eq (.var 3) (.lit (.str "("))) (.cons (.set 2 false (.bin .add (.var 2) (.lit (.int 1)))) .nil) .nil) (.cons (.ite (.cmp .eq (.var 3) (.lit (.str ")"))) (.cons (.set 2 false (.bin .sub (.var 2) (.lit (.int 1)))) .nil) .nil) (.cons (.ite (.or (.cmp .gt (.var 1) (.glb "ROW")) (.cmp .gt (.var 2) (.glb "DEEP"))) (.cons (.rai "TooLong") .nil) .nil) .nil)))) (cs.map chD) [a0, .val (.int f), .val (.int d), a3] = .exc "TooLong" ρ') ∨ ∃ f' d' a3', meas cs f d = some (f', d') ∧ frS ⟨run I fs m, I⟩ (.one 3) (.cons (.ite (.cmp .isIn (.var 3) (.glb "FIGURES")) (.cons (.set 1 false (.bin .add (.var 1) (.lit (.int 1)))) .nil) (.cons (.set 1 false (.lit (.int 0))) .nil)) (.cons (.ite (.cmp .eq (.var 3) (.lit (.str "("))) (.cons (.set 2 false (.bin .add (.var 2) (.lit (.int 1)))) .nil) .nil) (.cons (.ite (.cmp .eq (.var 3) (.lit (.str ")"))) (.cons (.set 2 false (.bin .sub (.var 2) (.lit (.int 1)))) .nil) .nil) (.cons (.ite (.or (.cmp .gt (.var 1) (.glb "ROW")) (.cmp .gt (.var 2) (.glb "DEEP"))) (.cons (.rai "TooLong") .nil) .nil) .nil)))) (cs.map chD) [a0, .val (.int f), .val (.int d), a3] = .nx [a0, .val (.int f'), .val (.int d'), a3']
  | [], f, d, a3 => .inr ⟨f, d, a3, rfl, fr_nil ..⟩
  | c :: cs, f, d, a3 => by
    obtain ⟨-, g2, g3, g4, -⟩ := glbs (n := m)
    rw [List.map_cons, fr_one]
    obtain ⟨f1, hf1⟩ : ∃ f1 : Int, (if c ∈ FIG then f + 1 else 0) = f1 := ⟨_, rfl⟩
    obtain ⟨d1, hd1⟩ : ∃ d1 : Int, (if c = 41 then (if c = 40 then d + 1 else d) - 1 else if c = 40 then d + 1 else d) = d1 := ⟨_, rfl⟩
    have i1 := c_inS c FIG
    have i2 := c_eqT [c] [40]
    have i3 := c_eqT [c] [41]
    rw [op_def] at i2
    rw [cl_def] at i3
    have e1 : ([c] = [40]) = (c = 40) := propext ⟨fun h => (List.cons.inj h).1, fun h => by rw [h]⟩
    have e2 : ([c] = [41]) = (c = 41) := propext ⟨fun h => (List.cons.inj h).1, fun h => by rw [h]⟩
    simp only [e1] at i2
    simp only [e2] at i3
    have step : evSs ⟨run I fs m, I⟩ (.cons (.ite (.cmp .isIn (.var 3) (.glb "FIGURES")) (.cons (.set 1 false (.bin .add (.var 1) (.lit (.int 1)))) .nil) (.cons (.set 1 false (.lit (.int 0))) .nil)) (.cons (.ite (.cmp .eq (.var 3) (.lit (.str "("))) (.cons (.set 2 false (.bin .add (.var 2) (.lit (.int 1)))) .nil) .nil) (.cons (.ite (.cmp .eq (.var 3) (.lit (.str ")"))) (.cons (.set 2 false (.bin .sub (.var 2) (.lit (.int 1)))) .nil) .nil) (.cons (.ite (.or (.cmp .gt (.var 1) (.glb "ROW")) (.cmp .gt (.var 2) (.glb "DEEP"))) (.cons (.rai "TooLong") .nil) .nil) .nil)))) [a0, .val (.int f), .val (.int d), .val (chD c)] = if 60 < f1 ∨ 16 < d1 then .exc "TooLong" [a0, .val (.int f1), .val (.int d1), .val (chD c)] else .nx [a0, .val (.int f1), .val (.int d1), .val (chD c)] := by
      unfold chD
      by_cases hc : c ∈ FIG
      · have h40 : ¬ c = 40 := fun e => by rw [e] at hc; exact absurd hc (by decide +kernel)
        have h41 : ¬ c = 41 := fun e => by rw [e] at hc; exact absurd hc (by decide +kernel)
        rw [if_pos hc] at hf1
        rw [if_neg h41, if_neg h40] at hd1
        subst hf1 hd1
        have hc := eq_true hc
        by_cases q1 : (60 : Int) < f + 1
        · rw [if_pos (.inl q1)]
          simp only [ss_nil, ss_cons, s_setF, setF_ok, s_setT, setT_ok, s_unp, unp_two, unp_three, s_exp, expR_ok, expR_exc, s_app, appA_own, s_ext, extA_own, s_put, putA_str, putA_int, s_try1, tryO_nx, tryO_ret, s_tryK, tryKO_nx, tryKO_ret, s_pop2, pop2A_str, s_pop1, popN_none, popN_some, s_upd, updA_dct, s_ret, retR_ok, s_retv, rvR_own, s_retN, s_ite, iteR_ok, s_whl, whT_ok, s_fr, frR_ok, s_brk, s_pas, s_rai, s_frz, e_var, var_val, e_lit, e_bin, bin2_ok, e_neg, negR_int, e_not, notR_bl, e_and, andR_bl, e_or, orR_bl, e_cmp, cmp2_ok, e_chn, chnR_bl, e_tup, e_lst, tup0, tup1, tup2, tup3, tup4, lst0, lst1, lst2, lst3, lst4, lst5, e_idx, idx2_ok, e_slc, slc3_ok, e_call, calR_ok, e_bf, bfR_ok, e_isi, isiR_int, isiR_bl, isiR_str, isiR_tup, isiR_lst, isiR_non, e_lent, lentR_ok, lentOk_int, lentOk_dct, lentOk_bl, lentOk_str, lentOk_non, e_comp, compR_ok, lstT_ok, blR_bl, t_and', andB_ok, t_or', orB_ok, t_not', notB_ok, t_cmp', t_chn', t_lent', t_v', truR_ok, t_yes', es_nil, es_cons, consR_ok, p_no, p_at, inR_int, i_seq', itsR_lst, itsR_tup, itsR_kl, i_rng1', i_rng2', thaw_nil, thaw_cons, thaw1_at, thawA_own, thawA_val, thawA_no, wipe_nil, wipe_cons, e_dnew, e_dnewN, s_clr, clrA_own, e_get1, e_get2, get1R_str, get2R_str, get2R_int, e_join, joinR_lst, e_lok, lokR_dct, lokR_lst, i_enum', i_zip', i_items', i_rev', enumR_lst, enumR_kl, enumR_dct, zipR_lst, zipR_tup, itemsR_dct, revR_lst, itsR_dct, s_frzL, thawL_at, thawB_own, thawB_val, thawB_no, bf_listD, bf_lenD, bf_dict, bf_sum, bf_all, bf_any, c_isN, c_notN, c_isB, c_notB, c_eqB, c_neB, c_leS, c_ltS, c_gtS, c_geS, c_inDs, c_notInDs, b_add, b_sub, b_mul, b_fdiv, b_mod, b_pow, b_cat, b_catS, c_eqI, c_neI, c_eqS, c_neS, c_lt, c_le, c_gt, c_ge, bf_abs, bf_lenL, bf_lenK, bf_lenT, bf_lenS, bf_max, bf_min, bf_list, bf_listT, bf_tuple, bf_tupleT, bf_int, tr_bl, slK, slL, e_fmt, fmtR_str, e_fst, fstR_ok, e_tix, e_maxd, maxdR_ok, e_sset, i_rng3', e_isc, e_isx, e_cald, e_mk, mkR_ok, e_fld, fldR_ok, e_mth, mthR_ok, mthX_ok, seq_nx, seq_ret, seq_brk, seq_exc, seq_ite, wh_nx, wh_brk, wh_ret, wh_exc, wh_ite, fin_nx, fin_ret, fin_exc, fin_ite, List.getElem?_cons_succ, List.getElem?_cons_zero, List.set_cons_zero, List.set_cons_succ, List.map_cons, List.map_nil, List.cons_append, List.nil_append, List.replicate_succ, List.replicate_zero, List.length_cons, List.length_nil, if_true, ite_true, if_false, ite_false, Bool.false_eq_true, decide_eq_true_eq, decide_not, Bool.not_eq_true', Bool.not_true, Bool.not_false, Bool.or_true, Bool.true_or, Bool.or_false, Bool.false_or, not_true_eq_false, not_false_eq_true, bne_iff_ne, ne_eq, reduceCtorEq, eq_self, decide_true, decide_false, dInt, dBl, Nat.reduceAdd, Nat.reduceSub, Nat.reduceLeDiff, Nat.zero_add, Int.reduceToNat, g2, g3, g4, i1, i2, i3, hc, h40, h41, q1]
        · by_cases q2 : (16 : Int) < d
          · rw [if_pos (.inr q2)]
            simp only [ss_nil, ss_cons, s_setF, setF_ok, s_setT, setT_ok, s_unp, unp_two, unp_three, s_exp, expR_ok, expR_exc, s_app, appA_own, s_ext, extA_own, s_put, putA_str, putA_int, s_try1, tryO_nx, tryO_ret, s_tryK, tryKO_nx, tryKO_ret, s_pop2, pop2A_str, s_pop1, popN_none, popN_some, s_upd, updA_dct, s_ret, retR_ok, s_retv, rvR_own, s_retN, s_ite, iteR_ok, s_whl, whT_ok, s_fr, frR_ok, s_brk, s_pas, s_rai, s_frz, e_var, var_val, e_lit, e_bin, bin2_ok, e_neg, negR_int, e_not, notR_bl, e_and, andR_bl, e_or, orR_bl, e_cmp, cmp2_ok, e_chn, chnR_bl, e_tup, e_lst, tup0, tup1, tup2, tup3, tup4, lst0, lst1, lst2, lst3, lst4, lst5, e_idx, idx2_ok, e_slc, slc3_ok, e_call, calR_ok, e_bf, bfR_ok, e_isi, isiR_int, isiR_bl, isiR_str, isiR_tup, isiR_lst, isiR_non, e_lent, lentR_ok, lentOk_int, lentOk_dct, lentOk_bl, lentOk_str, lentOk_non, e_comp, compR_ok, lstT_ok, blR_bl, t_and', andB_ok, t_or', orB_ok, t_not', notB_ok, t_cmp', t_chn', t_lent', t_v', truR_ok, t_yes', es_nil, es_cons, consR_ok, p_no, p_at, inR_int, i_seq', itsR_lst, itsR_tup, itsR_kl, i_rng1', i_rng2', thaw_nil, thaw_cons, thaw1_at, thawA_own, thawA_val, thawA_no, wipe_nil, wipe_cons, e_dnew, e_dnewN, s_clr, clrA_own, e_get1, e_get2, get1R_str, get2R_str, get2R_int, e_join, joinR_lst, e_lok, lokR_dct, lokR_lst, i_enum', i_zip', i_items', i_rev', enumR_lst, enumR_kl, enumR_dct, zipR_lst, zipR_tup, itemsR_dct, revR_lst, itsR_dct, s_frzL, thawL_at, thawB_own, thawB_val, thawB_no, bf_listD, bf_lenD, bf_dict, bf_sum, bf_all, bf_any, c_isN, c_notN, c_isB, c_notB, c_eqB, c_neB, c_leS, c_ltS, c_gtS, c_geS, c_inDs, c_notInDs, b_add, b_sub, b_mul, b_fdiv, b_mod, b_pow, b_cat, b_catS, c_eqI, c_neI, c_eqS, c_neS, c_lt, c_le, c_gt, c_ge, bf_abs, bf_lenL, bf_lenK, bf_lenT, bf_lenS, bf_max, bf_min, bf_list, bf_listT, bf_tuple, bf_tupleT, bf_int, tr_bl, slK, slL, e_fmt, fmtR_str, e_fst, fstR_ok, e_tix, e_maxd, maxdR_ok, e_sset, i_rng3', e_isc, e_isx, e_cald, e_mk, mkR_ok, e_fld, fldR_ok, e_mth, mthR_ok, mthX_ok, seq_nx, seq_ret, seq_brk, seq_exc, seq_ite, wh_nx, wh_brk, wh_ret, wh_exc, wh_ite, fin_nx, fin_ret, fin_exc, fin_ite, List.getElem?_cons_succ, List.getElem?_cons_zero, List.set_cons_zero, List.set_cons_succ, List.map_cons, List.map_nil, List.cons_append, List.nil_append, List.replicate_succ, List.replicate_zero, List.length_cons, List.length_nil, if_true, ite_true, if_false, ite_false, Bool.false_eq_true, decide_eq_true_eq, decide_not, Bool.not_eq_true', Bool.not_true, Bool.not_false, Bool.or_true, Bool.true_or, Bool.or_false, Bool.false_or, not_true_eq_false, not_false_eq_true, bne_iff_ne, ne_eq, reduceCtorEq, eq_self, decide_true, decide_false, dInt, dBl, Nat.reduceAdd, Nat.reduceSub, Nat.reduceLeDiff, Nat.zero_add, Int.reduceToNat, g2, g3, g4, i1, i2, i3, hc, h40, h41, q1, q2]
          · rw [if_neg (by omega)]
            simp only [ss_nil, ss_cons, s_setF, setF_ok, s_setT, setT_ok, s_unp, unp_two, unp_three, s_exp, expR_ok, expR_exc, s_app, appA_own, s_ext, extA_own, s_put, putA_str, putA_int, s_try1, tryO_nx, tryO_ret, s_tryK, tryKO_nx, tryKO_ret, s_pop2, pop2A_str, s_pop1, popN_none, popN_some, s_upd, updA_dct, s_ret, retR_ok, s_retv, rvR_own, s_retN, s_ite, iteR_ok, s_whl, whT_ok, s_fr, frR_ok, s_brk, s_pas, s_rai, s_frz, e_var, var_val, e_lit, e_bin, bin2_ok, e_neg, negR_int, e_not, notR_bl, e_and, andR_bl, e_or, orR_bl, e_cmp, cmp2_ok, e_chn, chnR_bl, e_tup, e_lst, tup0, tup1, tup2, tup3, tup4, lst0, lst1, lst2, lst3, lst4, lst5, e_idx, idx2_ok, e_slc, slc3_ok, e_call, calR_ok, e_bf, bfR_ok, e_isi, isiR_int, isiR_bl, isiR_str, isiR_tup, isiR_lst, isiR_non, e_lent, lentR_ok, lentOk_int, lentOk_dct, lentOk_bl, lentOk_str, lentOk_non, e_comp, compR_ok, lstT_ok, blR_bl, t_and', andB_ok, t_or', orB_ok, t_not', notB_ok, t_cmp', t_chn', t_lent', t_v', truR_ok, t_yes', es_nil, es_cons, consR_ok, p_no, p_at, inR_int, i_seq', itsR_lst, itsR_tup, itsR_kl, i_rng1', i_rng2', thaw_nil, thaw_cons, thaw1_at, thawA_own, thawA_val, thawA_no, wipe_nil, wipe_cons, e_dnew, e_dnewN, s_clr, clrA_own, e_get1, e_get2, get1R_str, get2R_str, get2R_int, e_join, joinR_lst, e_lok, lokR_dct, lokR_lst, i_enum', i_zip', i_items', i_rev', enumR_lst, enumR_kl, enumR_dct, zipR_lst, zipR_tup, itemsR_dct, revR_lst, itsR_dct, s_frzL, thawL_at, thawB_own, thawB_val, thawB_no, bf_listD, bf_lenD, bf_dict, bf_sum, bf_all, bf_any, c_isN, c_notN, c_isB, c_notB, c_eqB, c_neB, c_leS, c_ltS, c_gtS, c_geS, c_inDs, c_notInDs, b_add, b_sub, b_mul, b_fdiv, b_mod, b_pow, b_cat, b_catS, c_eqI, c_neI, c_eqS, c_neS, c_lt, c_le, c_gt, c_ge, bf_abs, bf_lenL, bf_lenK, bf_lenT, bf_lenS, bf_max, bf_min, bf_list, bf_listT, bf_tuple, bf_tupleT, bf_int, tr_bl, slK, slL, e_fmt, fmtR_str, e_fst, fstR_ok, e_tix, e_maxd, maxdR_ok, e_sset, i_rng3', e_isc, e_isx, e_cald, e_mk, mkR_ok, e_fld, fldR_ok, e_mth, mthR_ok, mthX_ok, seq_nx, seq_ret, seq_brk, seq_exc, seq_ite, wh_nx, wh_brk, wh_ret, wh_exc, wh_ite, fin_nx, fin_ret, fin_exc, fin_ite, List.getElem?_cons_succ, List.getElem?_cons_zero, List.set_cons_zero, List.set_cons_succ, List.map_cons, List.map_nil, List.cons_append, List.nil_append, List.replicate_succ, List.replicate_zero, List.length_cons, List.length_nil, if_true, ite_true, if_false, ite_false, Bool.false_eq_true, decide_eq_true_eq, decide_not, Bool.not_eq_true', Bool.not_true, Bool.not_false, Bool.or_true, Bool.true_or, Bool.or_false, Bool.false_or, not_true_eq_false, not_false_eq_true, bne_iff_ne, ne_eq, reduceCtorEq, eq_self, decide_true, decide_false, dInt, dBl, Nat.reduceAdd, Nat.reduceSub, Nat.reduceLeDiff, Nat.zero_add, Int.reduceToNat, g2, g3, g4, i1, i2, i3, hc, h40, h41, q1, q2]
      · rw [if_neg hc] at hf1
        subst hf1
        have hc := eq_false hc
        have n60 : ¬ (60 : Int) < 0 := by decide
        by_cases h40 : c = 40
        · have h41 : ¬ c = 41 := by omega
          rw [if_neg h41, if_pos h40] at hd1
          subst hd1
          have h40 := eq_true h40
          by_cases q2 : (16 : Int) < d + 1
          · rw [if_pos (.inr q2)]
            simp only [ss_nil, ss_cons, s_setF, setF_ok, s_setT, setT_ok, s_unp, unp_two, unp_three, s_exp, expR_ok, expR_exc, s_app, appA_own, s_ext, extA_own, s_put, putA_str, putA_int, s_try1, tryO_nx, tryO_ret, s_tryK, tryKO_nx, tryKO_ret, s_pop2, pop2A_str, s_pop1, popN_none, popN_some, s_upd, updA_dct, s_ret, retR_ok, s_retv, rvR_own, s_retN, s_ite, iteR_ok, s_whl, whT_ok, s_fr, frR_ok, s_brk, s_pas, s_rai, s_frz, e_var, var_val, e_lit, e_bin, bin2_ok, e_neg, negR_int, e_not, notR_bl, e_and, andR_bl, e_or, orR_bl, e_cmp, cmp2_ok, e_chn, chnR_bl, e_tup, e_lst, tup0, tup1, tup2, tup3, tup4, lst0, lst1, lst2, lst3, lst4, lst5, e_idx, idx2_ok, e_slc, slc3_ok, e_call, calR_ok, e_bf, bfR_ok, e_isi, isiR_int, isiR_bl, isiR_str, isiR_tup, isiR_lst, isiR_non, e_lent, lentR_ok, lentOk_int, lentOk_dct, lentOk_bl, lentOk_str, lentOk_non, e_comp, compR_ok, lstT_ok, blR_bl, t_and', andB_ok, t_or', orB_ok, t_not', notB_ok, t_cmp', t_chn', t_lent', t_v', truR_ok, t_yes', es_nil, es_cons, consR_ok, p_no, p_at, inR_int, i_seq', itsR_lst, itsR_tup, itsR_kl, i_rng1', i_rng2', thaw_nil, thaw_cons, thaw1_at, thawA_own, thawA_val, thawA_no, wipe_nil, wipe_cons, e_dnew, e_dnewN, s_clr, clrA_own, e_get1, e_get2, get1R_str, get2R_str, get2R_int, e_join, joinR_lst, e_lok, lokR_dct, lokR_lst, i_enum', i_zip', i_items', i_rev', enumR_lst, enumR_kl, enumR_dct, zipR_lst, zipR_tup, itemsR_dct, revR_lst, itsR_dct, s_frzL, thawL_at, thawB_own, thawB_val, thawB_no, bf_listD, bf_lenD, bf_dict, bf_sum, bf_all, bf_any, c_isN, c_notN, c_isB, c_notB, c_eqB, c_neB, c_leS, c_ltS, c_gtS, c_geS, c_inDs, c_notInDs, b_add, b_sub, b_mul, b_fdiv, b_mod, b_pow, b_cat, b_catS, c_eqI, c_neI, c_eqS, c_neS, c_lt, c_le, c_gt, c_ge, bf_abs, bf_lenL, bf_lenK, bf_lenT, bf_lenS, bf_max, bf_min, bf_list, bf_listT, bf_tuple, bf_tupleT, bf_int, tr_bl, slK, slL, e_fmt, fmtR_str, e_fst, fstR_ok, e_tix, e_maxd, maxdR_ok, e_sset, i_rng3', e_isc, e_isx, e_cald, e_mk, mkR_ok, e_fld, fldR_ok, e_mth, mthR_ok, mthX_ok, seq_nx, seq_ret, seq_brk, seq_exc, seq_ite, wh_nx, wh_brk, wh_ret, wh_exc, wh_ite, fin_nx, fin_ret, fin_exc, fin_ite, List.getElem?_cons_succ, List.getElem?_cons_zero, List.set_cons_zero, List.set_cons_succ, List.map_cons, List.map_nil, List.cons_append, List.nil_append, List.replicate_succ, List.replicate_zero, List.length_cons, List.length_nil, if_true, ite_true, if_false, ite_false, Bool.false_eq_true, decide_eq_true_eq, decide_not, Bool.not_eq_true', Bool.not_true, Bool.not_false, Bool.or_true, Bool.true_or, Bool.or_false, Bool.false_or, not_true_eq_false, not_false_eq_true, bne_iff_ne, ne_eq, reduceCtorEq, eq_self, decide_true, decide_false, dInt, dBl, Nat.reduceAdd, Nat.reduceSub, Nat.reduceLeDiff, Nat.zero_add, Int.reduceToNat, g2, g3, g4, i1, i2, i3, hc, h40, h41, n60, q2]
          · rw [if_neg (by omega)]
            simp only [ss_nil, ss_cons, s_setF, setF_ok, s_setT, setT_ok, s_unp, unp_two, unp_three, s_exp, expR_ok, expR_exc, s_app, appA_own, s_ext, extA_own, s_put, putA_str, putA_int, s_try1, tryO_nx, tryO_ret, s_tryK, tryKO_nx, tryKO_ret, s_pop2, pop2A_str, s_pop1, popN_none, popN_some, s_upd, updA_dct, s_ret, retR_ok, s_retv, rvR_own, s_retN, s_ite, iteR_ok, s_whl, whT_ok, s_fr, frR_ok, s_brk, s_pas, s_rai, s_frz, e_var, var_val, e_lit, e_bin, bin2_ok, e_neg, negR_int, e_not, notR_bl, e_and, andR_bl, e_or, orR_bl, e_cmp, cmp2_ok, e_chn, chnR_bl, e_tup, e_lst, tup0, tup1, tup2, tup3, tup4, lst0, lst1, lst2, lst3, lst4, lst5, e_idx, idx2_ok, e_slc, slc3_ok, e_call, calR_ok, e_bf, bfR_ok, e_isi, isiR_int, isiR_bl, isiR_str, isiR_tup, isiR_lst, isiR_non, e_lent, lentR_ok, lentOk_int, lentOk_dct, lentOk_bl, lentOk_str, lentOk_non, e_comp, compR_ok, lstT_ok, blR_bl, t_and', andB_ok, t_or', orB_ok, t_not', notB_ok, t_cmp', t_chn', t_lent', t_v', truR_ok, t_yes', es_nil, es_cons, consR_ok, p_no, p_at, inR_int, i_seq', itsR_lst, itsR_tup, itsR_kl, i_rng1', i_rng2', thaw_nil, thaw_cons, thaw1_at, thawA_own, thawA_val, thawA_no, wipe_nil, wipe_cons, e_dnew, e_dnewN, s_clr, clrA_own, e_get1, e_get2, get1R_str, get2R_str, get2R_int, e_join, joinR_lst, e_lok, lokR_dct, lokR_lst, i_enum', i_zip', i_items', i_rev', enumR_lst, enumR_kl, enumR_dct, zipR_lst, zipR_tup, itemsR_dct, revR_lst, itsR_dct, s_frzL, thawL_at, thawB_own, thawB_val, thawB_no, bf_listD, bf_lenD, bf_dict, bf_sum, bf_all, bf_any, c_isN, c_notN, c_isB, c_notB, c_eqB, c_neB, c_leS, c_ltS, c_gtS, c_geS, c_inDs, c_notInDs, b_add, b_sub, b_mul, b_fdiv, b_mod, b_pow, b_cat, b_catS, c_eqI, c_neI, c_eqS, c_neS, c_lt, c_le, c_gt, c_ge, bf_abs, bf_lenL, bf_lenK, bf_lenT, bf_lenS, bf_max, bf_min, bf_list, bf_listT, bf_tuple, bf_tupleT, bf_int, tr_bl, slK, slL, e_fmt, fmtR_str, e_fst, fstR_ok, e_tix, e_maxd, maxdR_ok, e_sset, i_rng3', e_isc, e_isx, e_cald, e_mk, mkR_ok, e_fld, fldR_ok, e_mth, mthR_ok, mthX_ok, seq_nx, seq_ret, seq_brk, seq_exc, seq_ite, wh_nx, wh_brk, wh_ret, wh_exc, wh_ite, fin_nx, fin_ret, fin_exc, fin_ite, List.getElem?_cons_succ, List.getElem?_cons_zero, List.set_cons_zero, List.set_cons_succ, List.map_cons, List.map_nil, List.cons_append, List.nil_append, List.replicate_succ, List.replicate_zero, List.length_cons, List.length_nil, if_true, ite_true, if_false, ite_false, Bool.false_eq_true, decide_eq_true_eq, decide_not, Bool.not_eq_true', Bool.not_true, Bool.not_false, Bool.or_true, Bool.true_or, Bool.or_false, Bool.false_or, not_true_eq_false, not_false_eq_true, bne_iff_ne, ne_eq, reduceCtorEq, eq_self, decide_true, decide_false, dInt, dBl, Nat.reduceAdd, Nat.reduceSub, Nat.reduceLeDiff, Nat.zero_add, Int.reduceToNat, g2, g3, g4, i1, i2, i3, hc, h40, h41, n60, q2]
        · by_cases h41 : c = 41
          · rw [if_pos h41, if_neg h40] at hd1
            subst hd1
            have h41 := eq_true h41
            by_cases q2 : (16 : Int) < d - 1
            · rw [if_pos (.inr q2)]
              simp only [ss_nil, ss_cons, s_setF, setF_ok, s_setT, setT_ok, s_unp, unp_two, unp_three, s_exp, expR_ok, expR_exc, s_app, appA_own, s_ext, extA_own, s_put, putA_str, putA_int, s_try1, tryO_nx, tryO_ret, s_tryK, tryKO_nx, tryKO_ret, s_pop2, pop2A_str, s_pop1, popN_none, popN_some, s_upd, updA_dct, s_ret, retR_ok, s_retv, rvR_own, s_retN, s_ite, iteR_ok, s_whl, whT_ok, s_fr, frR_ok, s_brk, s_pas, s_rai, s_frz, e_var, var_val, e_lit, e_bin, bin2_ok, e_neg, negR_int, e_not, notR_bl, e_and, andR_bl, e_or, orR_bl, e_cmp, cmp2_ok, e_chn, chnR_bl, e_tup, e_lst, tup0, tup1, tup2, tup3, tup4, lst0, lst1, lst2, lst3, lst4, lst5, e_idx, idx2_ok, e_slc, slc3_ok, e_call, calR_ok, e_bf, bfR_ok, e_isi, isiR_int, isiR_bl, isiR_str, isiR_tup, isiR_lst, isiR_non, e_lent, lentR_ok, lentOk_int, lentOk_dct, lentOk_bl, lentOk_str, lentOk_non, e_comp, compR_ok, lstT_ok, blR_bl, t_and', andB_ok, t_or', orB_ok, t_not', notB_ok, t_cmp', t_chn', t_lent', t_v', truR_ok, t_yes', es_nil, es_cons, consR_ok, p_no, p_at, inR_int, i_seq', itsR_lst, itsR_tup, itsR_kl, i_rng1', i_rng2', thaw_nil, thaw_cons, thaw1_at, thawA_own, thawA_val, thawA_no, wipe_nil, wipe_cons, e_dnew, e_dnewN, s_clr, clrA_own, e_get1, e_get2, get1R_str, get2R_str, get2R_int, e_join, joinR_lst, e_lok, lokR_dct, lokR_lst, i_enum', i_zip', i_items', i_rev', enumR_lst, enumR_kl, enumR_dct, zipR_lst, zipR_tup, itemsR_dct, revR_lst, itsR_dct, s_frzL, thawL_at, thawB_own, thawB_val, thawB_no, bf_listD, bf_lenD, bf_dict, bf_sum, bf_all, bf_any, c_isN, c_notN, c_isB, c_notB, c_eqB, c_neB, c_leS, c_ltS, c_gtS, c_geS, c_inDs, c_notInDs, b_add, b_sub, b_mul, b_fdiv, b_mod, b_pow, b_cat, b_catS, c_eqI, c_neI, c_eqS, c_neS, c_lt, c_le, c_gt, c_ge, bf_abs, bf_lenL, bf_lenK, bf_lenT, bf_lenS, bf_max, bf_min, bf_list, bf_listT, bf_tuple, bf_tupleT, bf_int, tr_bl, slK, slL, e_fmt, fmtR_str, e_fst, fstR_ok, e_tix, e_maxd, maxdR_ok, e_sset, i_rng3', e_isc, e_isx, e_cald, e_mk, mkR_ok, e_fld, fldR_ok, e_mth, mthR_ok, mthX_ok, seq_nx, seq_ret, seq_brk, seq_exc, seq_ite, wh_nx, wh_brk, wh_ret, wh_exc, wh_ite, fin_nx, fin_ret, fin_exc, fin_ite, List.getElem?_cons_succ, List.getElem?_cons_zero, List.set_cons_zero, List.set_cons_succ, List.map_cons, List.map_nil, List.cons_append, List.nil_append, List.replicate_succ, List.replicate_zero, List.length_cons, List.length_nil, if_true, ite_true, if_false, ite_false, Bool.false_eq_true, decide_eq_true_eq, decide_not, Bool.not_eq_true', Bool.not_true, Bool.not_false, Bool.or_true, Bool.true_or, Bool.or_false, Bool.false_or, not_true_eq_false, not_false_eq_true, bne_iff_ne, ne_eq, reduceCtorEq, eq_self, decide_true, decide_false, dInt, dBl, Nat.reduceAdd, Nat.reduceSub, Nat.reduceLeDiff, Nat.zero_add, Int.reduceToNat, g2, g3, g4, i1, i2, i3, hc, h40, h41, n60, q2]
            · rw [if_neg (by omega)]
              simp only [ss_nil, ss_cons, s_setF, setF_ok, s_setT, setT_ok, s_unp, unp_two, unp_three, s_exp, expR_ok, expR_exc, s_app, appA_own, s_ext, extA_own, s_put, putA_str, putA_int, s_try1, tryO_nx, tryO_ret, s_tryK, tryKO_nx, tryKO_ret, s_pop2, pop2A_str, s_pop1, popN_none, popN_some, s_upd, updA_dct, s_ret, retR_ok, s_retv, rvR_own, s_retN, s_ite, iteR_ok, s_whl, whT_ok, s_fr, frR_ok, s_brk, s_pas, s_rai, s_frz, e_var, var_val, e_lit, e_bin, bin2_ok, e_neg, negR_int, e_not, notR_bl, e_and, andR_bl, e_or, orR_bl, e_cmp, cmp2_ok, e_chn, chnR_bl, e_tup, e_lst, tup0, tup1, tup2, tup3, tup4, lst0, lst1, lst2, lst3, lst4, lst5, e_idx, idx2_ok, e_slc, slc3_ok, e_call, calR_ok, e_bf, bfR_ok, e_isi, isiR_int, isiR_bl, isiR_str, isiR_tup, isiR_lst, isiR_non, e_lent, lentR_ok, lentOk_int, lentOk_dct, lentOk_bl, lentOk_str, lentOk_non, e_comp, compR_ok, lstT_ok, blR_bl, t_and', andB_ok, t_or', orB_ok, t_not', notB_ok, t_cmp', t_chn', t_lent', t_v', truR_ok, t_yes', es_nil, es_cons, consR_ok, p_no, p_at, inR_int, i_seq', itsR_lst, itsR_tup, itsR_kl, i_rng1', i_rng2', thaw_nil, thaw_cons, thaw1_at, thawA_own, thawA_val, thawA_no, wipe_nil, wipe_cons, e_dnew, e_dnewN, s_clr, clrA_own, e_get1, e_get2, get1R_str, get2R_str, get2R_int, e_join, joinR_lst, e_lok, lokR_dct, lokR_lst, i_enum', i_zip', i_items', i_rev', enumR_lst, enumR_kl, enumR_dct, zipR_lst, zipR_tup, itemsR_dct, revR_lst, itsR_dct, s_frzL, thawL_at, thawB_own, thawB_val, thawB_no, bf_listD, bf_lenD, bf_dict, bf_sum, bf_all, bf_any, c_isN, c_notN, c_isB, c_notB, c_eqB, c_neB, c_leS, c_ltS, c_gtS, c_geS, c_inDs, c_notInDs, b_add, b_sub, b_mul, b_fdiv, b_mod, b_pow, b_cat, b_catS, c_eqI, c_neI, c_eqS, c_neS, c_lt, c_le, c_gt, c_ge, bf_abs, bf_lenL, bf_lenK, bf_lenT, bf_lenS, bf_max, bf_min, bf_list, bf_listT, bf_tuple, bf_tupleT, bf_int, tr_bl, slK, slL, e_fmt, fmtR_str, e_fst, fstR_ok, e_tix, e_maxd, maxdR_ok, e_sset, i_rng3', e_isc, e_isx, e_cald, e_mk, mkR_ok, e_fld, fldR_ok, e_mth, mthR_ok, mthX_ok, seq_nx, seq_ret, seq_brk, seq_exc, seq_ite, wh_nx, wh_brk, wh_ret, wh_exc, wh_ite, fin_nx, fin_ret, fin_exc, fin_ite, List.getElem?_cons_succ, List.getElem?_cons_zero, List.set_cons_zero, List.set_cons_succ, List.map_cons, List.map_nil, List.cons_append, List.nil_append, List.replicate_succ, List.replicate_zero, List.length_cons, List.length_nil, if_true, ite_true, if_false, ite_false, Bool.false_eq_true, decide_eq_true_eq, decide_not, Bool.not_eq_true', Bool.not_true, Bool.not_false, Bool.or_true, Bool.true_or, Bool.or_false, Bool.false_or, not_true_eq_false, not_false_eq_true, bne_iff_ne, ne_eq, reduceCtorEq, eq_self, decide_true, decide_false, dInt, dBl, Nat.reduceAdd, Nat.reduceSub, Nat.reduceLeDiff, Nat.zero_add, Int.reduceToNat, g2, g3, g4, i1, i2, i3, hc, h40, h41, n60, q2]
          · rw [if_neg h41, if_neg h40] at hd1
            subst hd1
            by_cases q2 : (16 : Int) < d
            · rw [if_pos (.inr q2)]
              simp only [ss_nil, ss_cons, s_setF, setF_ok, s_setT, setT_ok, s_unp, unp_two, unp_three, s_exp, expR_ok, expR_exc, s_app, appA_own, s_ext, extA_own, s_put, putA_str, putA_int, s_try1, tryO_nx, tryO_ret, s_tryK, tryKO_nx, tryKO_ret, s_pop2, pop2A_str, s_pop1, popN_none, popN_some, s_upd, updA_dct, s_ret, retR_ok, s_retv, rvR_own, s_retN, s_ite, iteR_ok, s_whl, whT_ok, s_fr, frR_ok, s_brk, s_pas, s_rai, s_frz, e_var, var_val, e_lit, e_bin, bin2_ok, e_neg, negR_int, e_not, notR_bl, e_and, andR_bl, e_or, orR_bl, e_cmp, cmp2_ok, e_chn, chnR_bl, e_tup, e_lst, tup0, tup1, tup2, tup3, tup4, lst0, lst1, lst2, lst3, lst4, lst5, e_idx, idx2_ok, e_slc, slc3_ok, e_call, calR_ok, e_bf, bfR_ok, e_isi, isiR_int, isiR_bl, isiR_str, isiR_tup, isiR_lst, isiR_non, e_lent, lentR_ok, lentOk_int, lentOk_dct, lentOk_bl, lentOk_str, lentOk_non, e_comp, compR_ok, lstT_ok, blR_bl, t_and', andB_ok, t_or', orB_ok, t_not', notB_ok, t_cmp', t_chn', t_lent', t_v', truR_ok, t_yes', es_nil, es_cons, consR_ok, p_no, p_at, inR_int, i_seq', itsR_lst, itsR_tup, itsR_kl, i_rng1', i_rng2', thaw_nil, thaw_cons, thaw1_at, thawA_own, thawA_val, thawA_no, wipe_nil, wipe_cons, e_dnew, e_dnewN, s_clr, clrA_own, e_get1, e_get2, get1R_str, get2R_str, get2R_int, e_join, joinR_lst, e_lok, lokR_dct, lokR_lst, i_enum', i_zip', i_items', i_rev', enumR_lst, enumR_kl, enumR_dct, zipR_lst, zipR_tup, itemsR_dct, revR_lst, itsR_dct, s_frzL, thawL_at, thawB_own, thawB_val, thawB_no, bf_listD, bf_lenD, bf_dict, bf_sum, bf_all, bf_any, c_isN, c_notN, c_isB, c_notB, c_eqB, c_neB, c_leS, c_ltS, c_gtS, c_geS, c_inDs, c_notInDs, b_add, b_sub, b_mul, b_fdiv, b_mod, b_pow, b_cat, b_catS, c_eqI, c_neI, c_eqS, c_neS, c_lt, c_le, c_gt, c_ge, bf_abs, bf_lenL, bf_lenK, bf_lenT, bf_lenS, bf_max, bf_min, bf_list, bf_listT, bf_tuple, bf_tupleT, bf_int, tr_bl, slK, slL, e_fmt, fmtR_str, e_fst, fstR_ok, e_tix, e_maxd, maxdR_ok, e_sset, i_rng3', e_isc, e_isx, e_cald, e_mk, mkR_ok, e_fld, fldR_ok, e_mth, mthR_ok, mthX_ok, seq_nx, seq_ret, seq_brk, seq_exc, seq_ite, wh_nx, wh_brk, wh_ret, wh_exc, wh_ite, fin_nx, fin_ret, fin_exc, fin_ite, List.getElem?_cons_succ, List.getElem?_cons_zero, List.set_cons_zero, List.set_cons_succ, List.map_cons, List.map_nil, List.cons_append, List.nil_append, List.replicate_succ, List.replicate_zero, List.length_cons, List.length_nil, if_true, ite_true, if_false, ite_false, Bool.false_eq_true, decide_eq_true_eq, decide_not, Bool.not_eq_true', Bool.not_true, Bool.not_false, Bool.or_true, Bool.true_or, Bool.or_false, Bool.false_or, not_true_eq_false, not_false_eq_true, bne_iff_ne, ne_eq, reduceCtorEq, eq_self, decide_true, decide_false, dInt, dBl, Nat.reduceAdd, Nat.reduceSub, Nat.reduceLeDiff, Nat.zero_add, Int.reduceToNat, g2, g3, g4, i1, i2, i3, hc, h40, h41, n60, q2]
            · rw [if_neg (by omega)]
              simp only [ss_nil, ss_cons, s_setF, setF_ok, s_setT, setT_ok, s_unp, unp_two, unp_three, s_exp, expR_ok, expR_exc, s_app, appA_own, s_ext, extA_own, s_put, putA_str, putA_int, s_try1, tryO_nx, tryO_ret, s_tryK, tryKO_nx, tryKO_ret, s_pop2, pop2A_str, s_pop1, popN_none, popN_some, s_upd, updA_dct, s_ret, retR_ok, s_retv, rvR_own, s_retN, s_ite, iteR_ok, s_whl, whT_ok, s_fr, frR_ok, s_brk, s_pas, s_rai, s_frz, e_var, var_val, e_lit, e_bin, bin2_ok, e_neg, negR_int, e_not, notR_bl, e_and, andR_bl, e_or, orR_bl, e_cmp, cmp2_ok, e_chn, chnR_bl, e_tup, e_lst, tup0, tup1, tup2, tup3, tup4, lst0, lst1, lst2, lst3, lst4, lst5, e_idx, idx2_ok, e_slc, slc3_ok, e_call, calR_ok, e_bf, bfR_ok, e_isi, isiR_int, isiR_bl, isiR_str, isiR_tup, isiR_lst, isiR_non, e_lent, lentR_ok, lentOk_int, lentOk_dct, lentOk_bl, lentOk_str, lentOk_non, e_comp, compR_ok, lstT_ok, blR_bl, t_and', andB_ok, t_or', orB_ok, t_not', notB_ok, t_cmp', t_chn', t_lent', t_v', truR_ok, t_yes', es_nil, es_cons, consR_ok, p_no, p_at, inR_int, i_seq', itsR_lst, itsR_tup, itsR_kl, i_rng1', i_rng2', thaw_nil, thaw_cons, thaw1_at, thawA_own, thawA_val, thawA_no, wipe_nil, wipe_cons, e_dnew, e_dnewN, s_clr, clrA_own, e_get1, e_get2, get1R_str, get2R_str, get2R_int, e_join, joinR_lst, e_lok, lokR_dct, lokR_lst, i_enum', i_zip', i_items', i_rev', enumR_lst, enumR_kl, enumR_dct, zipR_lst, zipR_tup, itemsR_dct, revR_lst, itsR_dct, s_frzL, thawL_at, thawB_own, thawB_val, thawB_no, bf_listD, bf_lenD, bf_dict, bf_sum, bf_all, bf_any, c_isN, c_notN, c_isB, c_notB, c_eqB, c_neB, c_leS, c_ltS, c_gtS, c_geS, c_inDs, c_notInDs, b_add, b_sub, b_mul, b_fdiv, b_mod, b_pow, b_cat, b_catS, c_eqI, c_neI, c_eqS, c_neS, c_lt, c_le, c_gt, c_ge, bf_abs, bf_lenL, bf_lenK, bf_lenT, bf_lenS, bf_max, bf_min, bf_list, bf_listT, bf_tuple, bf_tupleT, bf_int, tr_bl, slK, slL, e_fmt, fmtR_str, e_fst, fstR_ok, e_tix, e_maxd, maxdR_ok, e_sset, i_rng3', e_isc, e_isx, e_cald, e_mk, mkR_ok, e_fld, fldR_ok, e_mth, mthR_ok, mthX_ok, seq_nx, seq_ret, seq_brk, seq_exc, seq_ite, wh_nx, wh_brk, wh_ret, wh_exc, wh_ite, fin_nx, fin_ret, fin_exc, fin_ite, List.getElem?_cons_succ, List.getElem?_cons_zero, List.set_cons_zero, List.set_cons_succ, List.map_cons, List.map_nil, List.cons_append, List.nil_append, List.replicate_succ, List.replicate_zero, List.length_cons, List.length_nil, if_true, ite_true, if_false, ite_false, Bool.false_eq_true, decide_eq_true_eq, decide_not, Bool.not_eq_true', Bool.not_true, Bool.not_false, Bool.or_true, Bool.true_or, Bool.or_false, Bool.false_or, not_true_eq_false, not_false_eq_true, bne_iff_ne, ne_eq, reduceCtorEq, eq_self, decide_true, decide_false, dInt, dBl, Nat.reduceAdd, Nat.reduceSub, Nat.reduceLeDiff, Nat.zero_add, Int.reduceToNat, g2, g3, g4, i1, i2, i3, hc, h40, h41, n60, q2]
    have em : meas (c :: cs) f d = if 60 < f1 ∨ 16 < d1 then none else meas cs f1 d1 := by rw [meas, hf1, hd1]
    show (_ ∧ ∃ ρ', Out.wh (evSs ⟨run I fs m, I⟩ _ [a0, .val (.int f), .val (.int d), .val (chD c)]) _ = _) ∨ ∃ f' d' a3', _ ∧ Out.wh (evSs ⟨run I fs m, I⟩ _ [a0, .val (.int f), .val (.int d), .val (chD c)]) _ = _
    rw [step, em]
    by_cases q : 60 < f1 ∨ 16 < d1
    · rw [if_pos q, if_pos q, wh_exc]
      exact .inl ⟨rfl, _, rfl⟩
    · rw [if_neg q, if_neg q, wh_nx]
      exact meas_loop a0 cs f1 d1 (.val (chD c))
theorem measure_yes {n : Nat} (hn : 1 ≤ n) {l : List Nat} (h1 : l.length ≤ 2000) (h2 : meas l 0 0 ≠ none) : run I fs n "measure_text" [.str (tx l)] = .ok (.non, false) := by
  obtain ⟨m, rfl⟩ := dpos hn
  rw [e_measure_text _ _ rfl]
  obtain ⟨g1, -, -, -, -⟩ := glbs (n := m)
  have q : ¬ (2000 : Int) < (l.length : Nat) := by omega
  have hs := its_str l
  have hl := len_tx l
  rcases meas_loop (m := m) (.val (.str (tx l))) l 0 0 .no with ⟨e, _⟩ | ⟨f', d', a3', e, e1⟩
  · exact absurd e h2
  · simp only [ss_nil, ss_cons, s_setF, setF_ok, s_setT, setT_ok, s_unp, unp_two, unp_three, s_exp, expR_ok, expR_exc, s_app, appA_own, s_ext, extA_own, s_put, putA_str, putA_int, s_try1, tryO_nx, tryO_ret, s_tryK, tryKO_nx, tryKO_ret, s_pop2, pop2A_str, s_pop1, popN_none, popN_some, s_upd, updA_dct, s_ret, retR_ok, s_retv, rvR_own, s_retN, s_ite, iteR_ok, s_whl, whT_ok, s_fr, frR_ok, s_brk, s_pas, s_rai, s_frz, e_var, var_val, e_lit, e_bin, bin2_ok, e_neg, negR_int, e_not, notR_bl, e_and, andR_bl, e_or, orR_bl, e_cmp, cmp2_ok, e_chn, chnR_bl, e_tup, e_lst, tup0, tup1, tup2, tup3, tup4, lst0, lst1, lst2, lst3, lst4, lst5, e_idx, idx2_ok, e_slc, slc3_ok, e_call, calR_ok, e_bf, bfR_ok, e_isi, isiR_int, isiR_bl, isiR_str, isiR_tup, isiR_lst, isiR_non, e_lent, lentR_ok, lentOk_int, lentOk_dct, lentOk_bl, lentOk_str, lentOk_non, e_comp, compR_ok, lstT_ok, blR_bl, t_and', andB_ok, t_or', orB_ok, t_not', notB_ok, t_cmp', t_chn', t_lent', t_v', truR_ok, t_yes', es_nil, es_cons, consR_ok, p_no, p_at, inR_int, i_seq', itsR_lst, itsR_tup, itsR_kl, i_rng1', i_rng2', thaw_nil, thaw_cons, thaw1_at, thawA_own, thawA_val, thawA_no, wipe_nil, wipe_cons, e_dnew, e_dnewN, s_clr, clrA_own, e_get1, e_get2, get1R_str, get2R_str, get2R_int, e_join, joinR_lst, e_lok, lokR_dct, lokR_lst, i_enum', i_zip', i_items', i_rev', enumR_lst, enumR_kl, enumR_dct, zipR_lst, zipR_tup, itemsR_dct, revR_lst, itsR_dct, s_frzL, thawL_at, thawB_own, thawB_val, thawB_no, bf_listD, bf_lenD, bf_dict, bf_sum, bf_all, bf_any, c_isN, c_notN, c_isB, c_notB, c_eqB, c_neB, c_leS, c_ltS, c_gtS, c_geS, c_inDs, c_notInDs, b_add, b_sub, b_mul, b_fdiv, b_mod, b_pow, b_cat, b_catS, c_eqI, c_neI, c_eqS, c_neS, c_lt, c_le, c_gt, c_ge, bf_abs, bf_lenL, bf_lenK, bf_lenT, bf_lenS, bf_max, bf_min, bf_list, bf_listT, bf_tuple, bf_tupleT, bf_int, tr_bl, slK, slL, e_fmt, fmtR_str, e_fst, fstR_ok, e_tix, e_maxd, maxdR_ok, e_sset, i_rng3', e_isc, e_isx, e_cald, e_mk, mkR_ok, e_fld, fldR_ok, e_mth, mthR_ok, mthX_ok, seq_nx, seq_ret, seq_brk, seq_exc, seq_ite, wh_nx, wh_brk, wh_ret, wh_exc, wh_ite, fin_nx, fin_ret, fin_exc, fin_ite, List.getElem?_cons_succ, List.getElem?_cons_zero, List.set_cons_zero, List.set_cons_succ, List.map_cons, List.map_nil, List.cons_append, List.nil_append, List.replicate_succ, List.replicate_zero, List.length_cons, List.length_nil, if_true, ite_true, if_false, ite_false, Bool.false_eq_true, decide_eq_true_eq, decide_not, Bool.not_eq_true', Bool.not_true, Bool.not_false, Bool.or_true, Bool.true_or, Bool.or_false, Bool.false_or, not_true_eq_false, not_false_eq_true, bne_iff_ne, ne_eq, reduceCtorEq, eq_self, decide_true, decide_false, dInt, dBl, Nat.reduceAdd, Nat.reduceSub, Nat.reduceLeDiff, Nat.zero_add, Int.reduceToNat, f_measure_text, g1, hl, q, hs, e1]
theorem measure_no {n : Nat} (hn : 1 ≤ n) {l : List Nat} (h : 2000 < l.length ∨ meas l 0 0 = none) : run I fs n "measure_text" [.str (tx l)] = .exc "TooLong" := by
  obtain ⟨m, rfl⟩ := dpos hn
  rw [e_measure_text _ _ rfl]
  obtain ⟨g1, -, -, -, -⟩ := glbs (n := m)
  have hs := its_str l
  have hl := len_tx l
  by_cases q : (2000 : Int) < (l.length : Nat)
  · simp only [ss_nil, ss_cons, s_setF, setF_ok, s_setT, setT_ok, s_unp, unp_two, unp_three, s_exp, expR_ok, expR_exc, s_app, appA_own, s_ext, extA_own, s_put, putA_str, putA_int, s_try1, tryO_nx, tryO_ret, s_tryK, tryKO_nx, tryKO_ret, s_pop2, pop2A_str, s_pop1, popN_none, popN_some, s_upd, updA_dct, s_ret, retR_ok, s_retv, rvR_own, s_retN, s_ite, iteR_ok, s_whl, whT_ok, s_fr, frR_ok, s_brk, s_pas, s_rai, s_frz, e_var, var_val, e_lit, e_bin, bin2_ok, e_neg, negR_int, e_not, notR_bl, e_and, andR_bl, e_or, orR_bl, e_cmp, cmp2_ok, e_chn, chnR_bl, e_tup, e_lst, tup0, tup1, tup2, tup3, tup4, lst0, lst1, lst2, lst3, lst4, lst5, e_idx, idx2_ok, e_slc, slc3_ok, e_call, calR_ok, e_bf, bfR_ok, e_isi, isiR_int, isiR_bl, isiR_str, isiR_tup, isiR_lst, isiR_non, e_lent, lentR_ok, lentOk_int, lentOk_dct, lentOk_bl, lentOk_str, lentOk_non, e_comp, compR_ok, lstT_ok, blR_bl, t_and', andB_ok, t_or', orB_ok, t_not', notB_ok, t_cmp', t_chn', t_lent', t_v', truR_ok, t_yes', es_nil, es_cons, consR_ok, p_no, p_at, inR_int, i_seq', itsR_lst, itsR_tup, itsR_kl, i_rng1', i_rng2', thaw_nil, thaw_cons, thaw1_at, thawA_own, thawA_val, thawA_no, wipe_nil, wipe_cons, e_dnew, e_dnewN, s_clr, clrA_own, e_get1, e_get2, get1R_str, get2R_str, get2R_int, e_join, joinR_lst, e_lok, lokR_dct, lokR_lst, i_enum', i_zip', i_items', i_rev', enumR_lst, enumR_kl, enumR_dct, zipR_lst, zipR_tup, itemsR_dct, revR_lst, itsR_dct, s_frzL, thawL_at, thawB_own, thawB_val, thawB_no, bf_listD, bf_lenD, bf_dict, bf_sum, bf_all, bf_any, c_isN, c_notN, c_isB, c_notB, c_eqB, c_neB, c_leS, c_ltS, c_gtS, c_geS, c_inDs, c_notInDs, b_add, b_sub, b_mul, b_fdiv, b_mod, b_pow, b_cat, b_catS, c_eqI, c_neI, c_eqS, c_neS, c_lt, c_le, c_gt, c_ge, bf_abs, bf_lenL, bf_lenK, bf_lenT, bf_lenS, bf_max, bf_min, bf_list, bf_listT, bf_tuple, bf_tupleT, bf_int, tr_bl, slK, slL, e_fmt, fmtR_str, e_fst, fstR_ok, e_tix, e_maxd, maxdR_ok, e_sset, i_rng3', e_isc, e_isx, e_cald, e_mk, mkR_ok, e_fld, fldR_ok, e_mth, mthR_ok, mthX_ok, seq_nx, seq_ret, seq_brk, seq_exc, seq_ite, wh_nx, wh_brk, wh_ret, wh_exc, wh_ite, fin_nx, fin_ret, fin_exc, fin_ite, List.getElem?_cons_succ, List.getElem?_cons_zero, List.set_cons_zero, List.set_cons_succ, List.map_cons, List.map_nil, List.cons_append, List.nil_append, List.replicate_succ, List.replicate_zero, List.length_cons, List.length_nil, if_true, ite_true, if_false, ite_false, Bool.false_eq_true, decide_eq_true_eq, decide_not, Bool.not_eq_true', Bool.not_true, Bool.not_false, Bool.or_true, Bool.true_or, Bool.or_false, Bool.false_or, not_true_eq_false, not_false_eq_true, bne_iff_ne, ne_eq, reduceCtorEq, eq_self, decide_true, decide_false, dInt, dBl, Nat.reduceAdd, Nat.reduceSub, Nat.reduceLeDiff, Nat.zero_add, Int.reduceToNat, f_measure_text, g1, hl, q]
  · have h2 : meas l 0 0 = none := by rcases h with h | h; exact absurd (by omega) q; exact h
    rcases meas_loop (m := m) (.val (.str (tx l))) l 0 0 .no with ⟨_, ρ', e1⟩ | ⟨f', d', a3', e, _⟩
    · simp only [ss_nil, ss_cons, s_setF, setF_ok, s_setT, setT_ok, s_unp, unp_two, unp_three, s_exp, expR_ok, expR_exc, s_app, appA_own, s_ext, extA_own, s_put, putA_str, putA_int, s_try1, tryO_nx, tryO_ret, s_tryK, tryKO_nx, tryKO_ret, s_pop2, pop2A_str, s_pop1, popN_none, popN_some, s_upd, updA_dct, s_ret, retR_ok, s_retv, rvR_own, s_retN, s_ite, iteR_ok, s_whl, whT_ok, s_fr, frR_ok, s_brk, s_pas, s_rai, s_frz, e_var, var_val, e_lit, e_bin, bin2_ok, e_neg, negR_int, e_not, notR_bl, e_and, andR_bl, e_or, orR_bl, e_cmp, cmp2_ok, e_chn, chnR_bl, e_tup, e_lst, tup0, tup1, tup2, tup3, tup4, lst0, lst1, lst2, lst3, lst4, lst5, e_idx, idx2_ok, e_slc, slc3_ok, e_call, calR_ok, e_bf, bfR_ok, e_isi, isiR_int, isiR_bl, isiR_str, isiR_tup, isiR_lst, isiR_non, e_lent, lentR_ok, lentOk_int, lentOk_dct, lentOk_bl, lentOk_str, lentOk_non, e_comp, compR_ok, lstT_ok, blR_bl, t_and', andB_ok, t_or', orB_ok, t_not', notB_ok, t_cmp', t_chn', t_lent', t_v', truR_ok, t_yes', es_nil, es_cons, consR_ok, p_no, p_at, inR_int, i_seq', itsR_lst, itsR_tup, itsR_kl, i_rng1', i_rng2', thaw_nil, thaw_cons, thaw1_at, thawA_own, thawA_val, thawA_no, wipe_nil, wipe_cons, e_dnew, e_dnewN, s_clr, clrA_own, e_get1, e_get2, get1R_str, get2R_str, get2R_int, e_join, joinR_lst, e_lok, lokR_dct, lokR_lst, i_enum', i_zip', i_items', i_rev', enumR_lst, enumR_kl, enumR_dct, zipR_lst, zipR_tup, itemsR_dct, revR_lst, itsR_dct, s_frzL, thawL_at, thawB_own, thawB_val, thawB_no, bf_listD, bf_lenD, bf_dict, bf_sum, bf_all, bf_any, c_isN, c_notN, c_isB, c_notB, c_eqB, c_neB, c_leS, c_ltS, c_gtS, c_geS, c_inDs, c_notInDs, b_add, b_sub, b_mul, b_fdiv, b_mod, b_pow, b_cat, b_catS, c_eqI, c_neI, c_eqS, c_neS, c_lt, c_le, c_gt, c_ge, bf_abs, bf_lenL, bf_lenK, bf_lenT, bf_lenS, bf_max, bf_min, bf_list, bf_listT, bf_tuple, bf_tupleT, bf_int, tr_bl, slK, slL, e_fmt, fmtR_str, e_fst, fstR_ok, e_tix, e_maxd, maxdR_ok, e_sset, i_rng3', e_isc, e_isx, e_cald, e_mk, mkR_ok, e_fld, fldR_ok, e_mth, mthR_ok, mthX_ok, seq_nx, seq_ret, seq_brk, seq_exc, seq_ite, wh_nx, wh_brk, wh_ret, wh_exc, wh_ite, fin_nx, fin_ret, fin_exc, fin_ite, List.getElem?_cons_succ, List.getElem?_cons_zero, List.set_cons_zero, List.set_cons_succ, List.map_cons, List.map_nil, List.cons_append, List.nil_append, List.replicate_succ, List.replicate_zero, List.length_cons, List.length_nil, if_true, ite_true, if_false, ite_false, Bool.false_eq_true, decide_eq_true_eq, decide_not, Bool.not_eq_true', Bool.not_true, Bool.not_false, Bool.or_true, Bool.true_or, Bool.or_false, Bool.false_or, not_true_eq_false, not_false_eq_true, bne_iff_ne, ne_eq, reduceCtorEq, eq_self, decide_true, decide_false, dInt, dBl, Nat.reduceAdd, Nat.reduceSub, Nat.reduceLeDiff, Nat.zero_add, Int.reduceToNat, f_measure_text, g1, hl, q, hs, e1]
    · rw [h2] at e; cases e
/-! pieces -/
theorem run_loop {m : Nat} (l S : List Nat) (a1 : Sl) : ∀ (r : List Nat) (k : Nat), l.drop k = r → ∃ k', whlS ⟨run I fs m, I⟩ (.and (.cmp .lt (.var 3) (.bf .len (.cons (.var 0) .nil))) (.cmp .isIn (.idx (.var 0) (.var 3)) (.var 2))) (.cons (.set 3 false (.bin .add (.var 3) (.lit (.int 1)))) .nil) [.val (.str (tx l)), a1, .val (.str (tx S)), .val (.int (k : Nat))] = .nx [.val (.str (tx l)), a1, .val (.str (tx S)), .val (.int (k' : Nat))] ∧ k' = k + (r.takeWhile fun c => decide (c ∈ S)).length
  | [], k, h => by
    refine ⟨k, ?_, rfl⟩
    have hk : l.length ≤ k := List.drop_eq_nil_iff.mp h
    have q : ¬ ((k : Nat) : Int) < (l.length : Nat) := by omega
    have hl := len_tx l
    rw [whl_turn]
    simp only [ss_nil, ss_cons, s_setF, setF_ok, s_setT, setT_ok, s_unp, unp_two, unp_three, s_exp, expR_ok, expR_exc, s_app, appA_own, s_ext, extA_own, s_put, putA_str, putA_int, s_try1, tryO_nx, tryO_ret, s_tryK, tryKO_nx, tryKO_ret, s_pop2, pop2A_str, s_pop1, popN_none, popN_some, s_upd, updA_dct, s_ret, retR_ok, s_retv, rvR_own, s_retN, s_ite, iteR_ok, s_whl, whT_ok, s_fr, frR_ok, s_brk, s_pas, s_rai, s_frz, e_var, var_val, e_lit, e_bin, bin2_ok, e_neg, negR_int, e_not, notR_bl, e_and, andR_bl, e_or, orR_bl, e_cmp, cmp2_ok, e_chn, chnR_bl, e_tup, e_lst, tup0, tup1, tup2, tup3, tup4, lst0, lst1, lst2, lst3, lst4, lst5, e_idx, idx2_ok, e_slc, slc3_ok, e_call, calR_ok, e_bf, bfR_ok, e_isi, isiR_int, isiR_bl, isiR_str, isiR_tup, isiR_lst, isiR_non, e_lent, lentR_ok, lentOk_int, lentOk_dct, lentOk_bl, lentOk_str, lentOk_non, e_comp, compR_ok, lstT_ok, blR_bl, t_and', andB_ok, t_or', orB_ok, t_not', notB_ok, t_cmp', t_chn', t_lent', t_v', truR_ok, t_yes', es_nil, es_cons, consR_ok, p_no, p_at, inR_int, i_seq', itsR_lst, itsR_tup, itsR_kl, i_rng1', i_rng2', thaw_nil, thaw_cons, thaw1_at, thawA_own, thawA_val, thawA_no, wipe_nil, wipe_cons, e_dnew, e_dnewN, s_clr, clrA_own, e_get1, e_get2, get1R_str, get2R_str, get2R_int, e_join, joinR_lst, e_lok, lokR_dct, lokR_lst, i_enum', i_zip', i_items', i_rev', enumR_lst, enumR_kl, enumR_dct, zipR_lst, zipR_tup, itemsR_dct, revR_lst, itsR_dct, s_frzL, thawL_at, thawB_own, thawB_val, thawB_no, bf_listD, bf_lenD, bf_dict, bf_sum, bf_all, bf_any, c_isN, c_notN, c_isB, c_notB, c_eqB, c_neB, c_leS, c_ltS, c_gtS, c_geS, c_inDs, c_notInDs, b_add, b_sub, b_mul, b_fdiv, b_mod, b_pow, b_cat, b_catS, c_eqI, c_neI, c_eqS, c_neS, c_lt, c_le, c_gt, c_ge, bf_abs, bf_lenL, bf_lenK, bf_lenT, bf_lenS, bf_max, bf_min, bf_list, bf_listT, bf_tuple, bf_tupleT, bf_int, tr_bl, slK, slL, e_fmt, fmtR_str, e_fst, fstR_ok, e_tix, e_maxd, maxdR_ok, e_sset, i_rng3', e_isc, e_isx, e_cald, e_mk, mkR_ok, e_fld, fldR_ok, e_mth, mthR_ok, mthX_ok, seq_nx, seq_ret, seq_brk, seq_exc, seq_ite, wh_nx, wh_brk, wh_ret, wh_exc, wh_ite, fin_nx, fin_ret, fin_exc, fin_ite, List.getElem?_cons_succ, List.getElem?_cons_zero, List.set_cons_zero, List.set_cons_succ, List.map_cons, List.map_nil, List.cons_append, List.nil_append, List.replicate_succ, List.replicate_zero, List.length_cons, List.length_nil, if_true, ite_true, if_false, ite_false, Bool.false_eq_true, decide_eq_true_eq, decide_not, Bool.not_eq_true', Bool.not_true, Bool.not_false, Bool.or_true, Bool.true_or, Bool.or_false, Bool.false_or, not_true_eq_false, not_false_eq_true, bne_iff_ne, ne_eq, reduceCtorEq, eq_self, decide_true, decide_false, dInt, dBl, Nat.reduceAdd, Nat.reduceSub, Nat.reduceLeDiff, Nat.zero_add, Int.reduceToNat, hl, q]
  | c :: r, k, h => by
    have hk : k < l.length := by
      have := congrArg List.length h
      rw [List.length_drop, List.length_cons] at this; omega
    have q := eq_true (show ((k : Nat) : Int) < (l.length : Nat) by omega)
    have hl := len_tx l
    have hx := ch_ix h
    have hi := c_inS c S
    rw [whl_turn]
    by_cases hc : c ∈ S
    · obtain ⟨k', e1, e2⟩ := run_loop l S a1 r (k + 1) (by rw [← List.drop_drop, h]; rfl)
      refine ⟨k', ?_, ?_⟩
      · rw [← e1]
        have hc := eq_true hc
        simp only [ss_nil, ss_cons, s_setF, setF_ok, s_setT, setT_ok, s_unp, unp_two, unp_three, s_exp, expR_ok, expR_exc, s_app, appA_own, s_ext, extA_own, s_put, putA_str, putA_int, s_try1, tryO_nx, tryO_ret, s_tryK, tryKO_nx, tryKO_ret, s_pop2, pop2A_str, s_pop1, popN_none, popN_some, s_upd, updA_dct, s_ret, retR_ok, s_retv, rvR_own, s_retN, s_ite, iteR_ok, s_whl, whT_ok, s_fr, frR_ok, s_brk, s_pas, s_rai, s_frz, e_var, var_val, e_lit, e_bin, bin2_ok, e_neg, negR_int, e_not, notR_bl, e_and, andR_bl, e_or, orR_bl, e_cmp, cmp2_ok, e_chn, chnR_bl, e_tup, e_lst, tup0, tup1, tup2, tup3, tup4, lst0, lst1, lst2, lst3, lst4, lst5, e_idx, idx2_ok, e_slc, slc3_ok, e_call, calR_ok, e_bf, bfR_ok, e_isi, isiR_int, isiR_bl, isiR_str, isiR_tup, isiR_lst, isiR_non, e_lent, lentR_ok, lentOk_int, lentOk_dct, lentOk_bl, lentOk_str, lentOk_non, e_comp, compR_ok, lstT_ok, blR_bl, t_and', andB_ok, t_or', orB_ok, t_not', notB_ok, t_cmp', t_chn', t_lent', t_v', truR_ok, t_yes', es_nil, es_cons, consR_ok, p_no, p_at, inR_int, i_seq', itsR_lst, itsR_tup, itsR_kl, i_rng1', i_rng2', thaw_nil, thaw_cons, thaw1_at, thawA_own, thawA_val, thawA_no, wipe_nil, wipe_cons, e_dnew, e_dnewN, s_clr, clrA_own, e_get1, e_get2, get1R_str, get2R_str, get2R_int, e_join, joinR_lst, e_lok, lokR_dct, lokR_lst, i_enum', i_zip', i_items', i_rev', enumR_lst, enumR_kl, enumR_dct, zipR_lst, zipR_tup, itemsR_dct, revR_lst, itsR_dct, s_frzL, thawL_at, thawB_own, thawB_val, thawB_no, bf_listD, bf_lenD, bf_dict, bf_sum, bf_all, bf_any, c_isN, c_notN, c_isB, c_notB, c_eqB, c_neB, c_leS, c_ltS, c_gtS, c_geS, c_inDs, c_notInDs, b_add, b_sub, b_mul, b_fdiv, b_mod, b_pow, b_cat, b_catS, c_eqI, c_neI, c_eqS, c_neS, c_lt, c_le, c_gt, c_ge, bf_abs, bf_lenL, bf_lenK, bf_lenT, bf_lenS, bf_max, bf_min, bf_list, bf_listT, bf_tuple, bf_tupleT, bf_int, tr_bl, slK, slL, e_fmt, fmtR_str, e_fst, fstR_ok, e_tix, e_maxd, maxdR_ok, e_sset, i_rng3', e_isc, e_isx, e_cald, e_mk, mkR_ok, e_fld, fldR_ok, e_mth, mthR_ok, mthX_ok, seq_nx, seq_ret, seq_brk, seq_exc, seq_ite, wh_nx, wh_brk, wh_ret, wh_exc, wh_ite, fin_nx, fin_ret, fin_exc, fin_ite, List.getElem?_cons_succ, List.getElem?_cons_zero, List.set_cons_zero, List.set_cons_succ, List.map_cons, List.map_nil, List.cons_append, List.nil_append, List.replicate_succ, List.replicate_zero, List.length_cons, List.length_nil, if_true, ite_true, if_false, ite_false, Bool.false_eq_true, decide_eq_true_eq, decide_not, Bool.not_eq_true', Bool.not_true, Bool.not_false, Bool.or_true, Bool.true_or, Bool.or_false, Bool.false_or, not_true_eq_false, not_false_eq_true, bne_iff_ne, ne_eq, reduceCtorEq, eq_self, decide_true, decide_false, dInt, dBl, Nat.reduceAdd, Nat.reduceSub, Nat.reduceLeDiff, Nat.zero_add, Int.reduceToNat, hl, q, hx, hi, hc]
        rfl
      · rw [e2, List.takeWhile_cons_of_pos (p := fun c => decide (c ∈ S)) (decide_eq_true hc), List.length_cons]; omega
    · refine ⟨k, ?_, ?_⟩
      · have hc := eq_false hc
        simp only [ss_nil, ss_cons, s_setF, setF_ok, s_setT, setT_ok, s_unp, unp_two, unp_three, s_exp, expR_ok, expR_exc, s_app, appA_own, s_ext, extA_own, s_put, putA_str, putA_int, s_try1, tryO_nx, tryO_ret, s_tryK, tryKO_nx, tryKO_ret, s_pop2, pop2A_str, s_pop1, popN_none, popN_some, s_upd, updA_dct, s_ret, retR_ok, s_retv, rvR_own, s_retN, s_ite, iteR_ok, s_whl, whT_ok, s_fr, frR_ok, s_brk, s_pas, s_rai, s_frz, e_var, var_val, e_lit, e_bin, bin2_ok, e_neg, negR_int, e_not, notR_bl, e_and, andR_bl, e_or, orR_bl, e_cmp, cmp2_ok, e_chn, chnR_bl, e_tup, e_lst, tup0, tup1, tup2, tup3, tup4, lst0, lst1, lst2, lst3, lst4, lst5, e_idx, idx2_ok, e_slc, slc3_ok, e_call, calR_ok, e_bf, bfR_ok, e_isi, isiR_int, isiR_bl, isiR_str, isiR_tup, isiR_lst, isiR_non, e_lent, lentR_ok, lentOk_int, lentOk_dct, lentOk_bl, lentOk_str, lentOk_non, e_comp, compR_ok, lstT_ok, blR_bl, t_and', andB_ok, t_or', orB_ok, t_not', notB_ok, t_cmp', t_chn', t_lent', t_v', truR_ok, t_yes', es_nil, es_cons, consR_ok, p_no, p_at, inR_int, i_seq', itsR_lst, itsR_tup, itsR_kl, i_rng1', i_rng2', thaw_nil, thaw_cons, thaw1_at, thawA_own, thawA_val, thawA_no, wipe_nil, wipe_cons, e_dnew, e_dnewN, s_clr, clrA_own, e_get1, e_get2, get1R_str, get2R_str, get2R_int, e_join, joinR_lst, e_lok, lokR_dct, lokR_lst, i_enum', i_zip', i_items', i_rev', enumR_lst, enumR_kl, enumR_dct, zipR_lst, zipR_tup, itemsR_dct, revR_lst, itsR_dct, s_frzL, thawL_at, thawB_own, thawB_val, thawB_no, bf_listD, bf_lenD, bf_dict, bf_sum, bf_all, bf_any, c_isN, c_notN, c_isB, c_notB, c_eqB, c_neB, c_leS, c_ltS, c_gtS, c_geS, c_inDs, c_notInDs, b_add, b_sub, b_mul, b_fdiv, b_mod, b_pow, b_cat, b_catS, c_eqI, c_neI, c_eqS, c_neS, c_lt, c_le, c_gt, c_ge, bf_abs, bf_lenL, bf_lenK, bf_lenT, bf_lenS, bf_max, bf_min, bf_list, bf_listT, bf_tuple, bf_tupleT, bf_int, tr_bl, slK, slL, e_fmt, fmtR_str, e_fst, fstR_ok, e_tix, e_maxd, maxdR_ok, e_sset, i_rng3', e_isc, e_isx, e_cald, e_mk, mkR_ok, e_fld, fldR_ok, e_mth, mthR_ok, mthX_ok, seq_nx, seq_ret, seq_brk, seq_exc, seq_ite, wh_nx, wh_brk, wh_ret, wh_exc, wh_ite, fin_nx, fin_ret, fin_exc, fin_ite, List.getElem?_cons_succ, List.getElem?_cons_zero, List.set_cons_zero, List.set_cons_succ, List.map_cons, List.map_nil, List.cons_append, List.nil_append, List.replicate_succ, List.replicate_zero, List.length_cons, List.length_nil, if_true, ite_true, if_false, ite_false, Bool.false_eq_true, decide_eq_true_eq, decide_not, Bool.not_eq_true', Bool.not_true, Bool.not_false, Bool.or_true, Bool.true_or, Bool.or_false, Bool.false_or, not_true_eq_false, not_false_eq_true, bne_iff_ne, ne_eq, reduceCtorEq, eq_self, decide_true, decide_false, dInt, dBl, Nat.reduceAdd, Nat.reduceSub, Nat.reduceLeDiff, Nat.zero_add, Int.reduceToNat, hl, q, hx, hi, hc]
      · rw [List.takeWhile_cons_of_neg (p := fun c => decide (c ∈ S)) (by simpa using hc)]; rfl
theorem take_tw (p : Nat → Bool) : ∀ r : List Nat, r.take (r.takeWhile p).length = r.takeWhile p
  | [] => rfl
  | c :: r => by
    by_cases h : p c = true
    · rw [List.takeWhile_cons_of_pos h, List.length_cons, List.take_succ_cons, take_tw p r]
    · rw [List.takeWhile_cons_of_neg h]; rfl
theorem run_from_ok {n : Nat} (hn : 1 ≤ n) (l S : List Nat) (k : Nat) : run I fs n "run_from" [.str (tx l), .int (k : Nat), .str (tx S)] = .ok (.str (tx ((l.drop k).takeWhile fun c => decide (c ∈ S))), false) := by
  obtain ⟨m, rfl⟩ := dpos hn
  rw [e_run_from _ _ rfl]
  obtain ⟨k', e1, e2⟩ := run_loop (m := m) l S (.val (.int (k : Nat))) (l.drop k) k rfl
  have hc := cutS_nat l k k'
  rw [show k' - k = ((l.drop k).takeWhile fun c => decide (c ∈ S)).length by omega, take_tw] at hc
  simp only [ss_nil, ss_cons, s_setF, setF_ok, s_setT, setT_ok, s_unp, unp_two, unp_three, s_exp, expR_ok, expR_exc, s_app, appA_own, s_ext, extA_own, s_put, putA_str, putA_int, s_try1, tryO_nx, tryO_ret, s_tryK, tryKO_nx, tryKO_ret, s_pop2, pop2A_str, s_pop1, popN_none, popN_some, s_upd, updA_dct, s_ret, retR_ok, s_retv, rvR_own, s_retN, s_ite, iteR_ok, s_whl, whT_ok, s_fr, frR_ok, s_brk, s_pas, s_rai, s_frz, e_var, var_val, e_lit, e_bin, bin2_ok, e_neg, negR_int, e_not, notR_bl, e_and, andR_bl, e_or, orR_bl, e_cmp, cmp2_ok, e_chn, chnR_bl, e_tup, e_lst, tup0, tup1, tup2, tup3, tup4, lst0, lst1, lst2, lst3, lst4, lst5, e_idx, idx2_ok, e_slc, slc3_ok, e_call, calR_ok, e_bf, bfR_ok, e_isi, isiR_int, isiR_bl, isiR_str, isiR_tup, isiR_lst, isiR_non, e_lent, lentR_ok, lentOk_int, lentOk_dct, lentOk_bl, lentOk_str, lentOk_non, e_comp, compR_ok, lstT_ok, blR_bl, t_and', andB_ok, t_or', orB_ok, t_not', notB_ok, t_cmp', t_chn', t_lent', t_v', truR_ok, t_yes', es_nil, es_cons, consR_ok, p_no, p_at, inR_int, i_seq', itsR_lst, itsR_tup, itsR_kl, i_rng1', i_rng2', thaw_nil, thaw_cons, thaw1_at, thawA_own, thawA_val, thawA_no, wipe_nil, wipe_cons, e_dnew, e_dnewN, s_clr, clrA_own, e_get1, e_get2, get1R_str, get2R_str, get2R_int, e_join, joinR_lst, e_lok, lokR_dct, lokR_lst, i_enum', i_zip', i_items', i_rev', enumR_lst, enumR_kl, enumR_dct, zipR_lst, zipR_tup, itemsR_dct, revR_lst, itsR_dct, s_frzL, thawL_at, thawB_own, thawB_val, thawB_no, bf_listD, bf_lenD, bf_dict, bf_sum, bf_all, bf_any, c_isN, c_notN, c_isB, c_notB, c_eqB, c_neB, c_leS, c_ltS, c_gtS, c_geS, c_inDs, c_notInDs, b_add, b_sub, b_mul, b_fdiv, b_mod, b_pow, b_cat, b_catS, c_eqI, c_neI, c_eqS, c_neS, c_lt, c_le, c_gt, c_ge, bf_abs, bf_lenL, bf_lenK, bf_lenT, bf_lenS, bf_max, bf_min, bf_list, bf_listT, bf_tuple, bf_tupleT, bf_int, tr_bl, slK, slL, e_fmt, fmtR_str, e_fst, fstR_ok, e_tix, e_maxd, maxdR_ok, e_sset, i_rng3', e_isc, e_isx, e_cald, e_mk, mkR_ok, e_fld, fldR_ok, e_mth, mthR_ok, mthX_ok, seq_nx, seq_ret, seq_brk, seq_exc, seq_ite, wh_nx, wh_brk, wh_ret, wh_exc, wh_ite, fin_nx, fin_ret, fin_exc, fin_ite, List.getElem?_cons_succ, List.getElem?_cons_zero, List.set_cons_zero, List.set_cons_succ, List.map_cons, List.map_nil, List.cons_append, List.nil_append, List.replicate_succ, List.replicate_zero, List.length_cons, List.length_nil, if_true, ite_true, if_false, ite_false, Bool.false_eq_true, decide_eq_true_eq, decide_not, Bool.not_eq_true', Bool.not_true, Bool.not_false, Bool.or_true, Bool.true_or, Bool.or_false, Bool.false_or, not_true_eq_false, not_false_eq_true, bne_iff_ne, ne_eq, reduceCtorEq, eq_self, decide_true, decide_false, dInt, dBl, Nat.reduceAdd, Nat.reduceSub, Nat.reduceLeDiff, Nat.zero_add, Int.reduceToNat, f_run_from, e1, slS, hc]
/-- the piece at the head -/
def pieceAt : List Nat → Option (List Nat)
  | [] => none
  | c :: r => if c ∈ LET then some ((c :: r).takeWhile fun x => decide (x ∈ LET ++ FIG)) else if c ∈ FIG then some ((c :: r).takeWhile fun x => decide (x ∈ FIG)) else if c ∈ SIG then some [c] else if c ∈ ANG ∧ r.head? = some 61 then some [c, 61] else none
theorem pieceAt_cons (c : Nat) (r : List Nat) : pieceAt (c :: r) = if c ∈ LET then some ((c :: r).takeWhile fun x => decide (x ∈ LET ++ FIG)) else if c ∈ FIG then some ((c :: r).takeWhile fun x => decide (x ∈ FIG)) else if c ∈ SIG then some [c] else if c ∈ ANG ∧ r.head? = some 61 then some [c, 61] else none := rfl
theorem piece_from_ok {n : Nat} (hn : 2 ≤ n) {l : List Nat} {k c : Nat} {r : List Nat} (h : l.drop k = c :: r) : run I fs n "piece_from" [.str (tx l), .int (k : Nat)] = match pieceAt (c :: r) with | some p => .ok (.str (tx p), false) | none => .exc "NoText" := by
  obtain ⟨m, rfl⟩ := dpos (n := n) (by omega)
  rw [e_piece_from _ _ rfl]
  obtain ⟨-, -, -, g4, g5⟩ := glbs (n := m)
  have hx := ch_ix h
  have i1 := c_inS c LET
  have i2 := c_inS c FIG
  have i3 := c_inS c SIG
  have i4 := c_inS c ANG
  rw [sig_def] at i3
  rw [ang_def] at i4
  have cat : binD .add (.str (tx LET)) (.str (tx FIG)) = .ok (.str (tx (LET ++ FIG)), false) := catT (by decide +kernel)
  have r1 := run_from_ok (n := m) (by omega) l (LET ++ FIG) k
  have r2 := run_from_ok (n := m) (by omega) l FIG k
  rw [h] at r1 r2
  rw [pieceAt_cons]
  by_cases h1 : c ∈ LET
  · rw [if_pos h1]
    have h1 := eq_true h1
    simp only [ss_nil, ss_cons, s_setF, setF_ok, s_setT, setT_ok, s_unp, unp_two, unp_three, s_exp, expR_ok, expR_exc, s_app, appA_own, s_ext, extA_own, s_put, putA_str, putA_int, s_try1, tryO_nx, tryO_ret, s_tryK, tryKO_nx, tryKO_ret, s_pop2, pop2A_str, s_pop1, popN_none, popN_some, s_upd, updA_dct, s_ret, retR_ok, s_retv, rvR_own, s_retN, s_ite, iteR_ok, s_whl, whT_ok, s_fr, frR_ok, s_brk, s_pas, s_rai, s_frz, e_var, var_val, e_lit, e_bin, bin2_ok, e_neg, negR_int, e_not, notR_bl, e_and, andR_bl, e_or, orR_bl, e_cmp, cmp2_ok, e_chn, chnR_bl, e_tup, e_lst, tup0, tup1, tup2, tup3, tup4, lst0, lst1, lst2, lst3, lst4, lst5, e_idx, idx2_ok, e_slc, slc3_ok, e_call, calR_ok, e_bf, bfR_ok, e_isi, isiR_int, isiR_bl, isiR_str, isiR_tup, isiR_lst, isiR_non, e_lent, lentR_ok, lentOk_int, lentOk_dct, lentOk_bl, lentOk_str, lentOk_non, e_comp, compR_ok, lstT_ok, blR_bl, t_and', andB_ok, t_or', orB_ok, t_not', notB_ok, t_cmp', t_chn', t_lent', t_v', truR_ok, t_yes', es_nil, es_cons, consR_ok, p_no, p_at, inR_int, i_seq', itsR_lst, itsR_tup, itsR_kl, i_rng1', i_rng2', thaw_nil, thaw_cons, thaw1_at, thawA_own, thawA_val, thawA_no, wipe_nil, wipe_cons, e_dnew, e_dnewN, s_clr, clrA_own, e_get1, e_get2, get1R_str, get2R_str, get2R_int, e_join, joinR_lst, e_lok, lokR_dct, lokR_lst, i_enum', i_zip', i_items', i_rev', enumR_lst, enumR_kl, enumR_dct, zipR_lst, zipR_tup, itemsR_dct, revR_lst, itsR_dct, s_frzL, thawL_at, thawB_own, thawB_val, thawB_no, bf_listD, bf_lenD, bf_dict, bf_sum, bf_all, bf_any, c_isN, c_notN, c_isB, c_notB, c_eqB, c_neB, c_leS, c_ltS, c_gtS, c_geS, c_inDs, c_notInDs, b_add, b_sub, b_mul, b_fdiv, b_mod, b_pow, b_cat, b_catS, c_eqI, c_neI, c_eqS, c_neS, c_lt, c_le, c_gt, c_ge, bf_abs, bf_lenL, bf_lenK, bf_lenT, bf_lenS, bf_max, bf_min, bf_list, bf_listT, bf_tuple, bf_tupleT, bf_int, tr_bl, slK, slL, e_fmt, fmtR_str, e_fst, fstR_ok, e_tix, e_maxd, maxdR_ok, e_sset, i_rng3', e_isc, e_isx, e_cald, e_mk, mkR_ok, e_fld, fldR_ok, e_mth, mthR_ok, mthX_ok, seq_nx, seq_ret, seq_brk, seq_exc, seq_ite, wh_nx, wh_brk, wh_ret, wh_exc, wh_ite, fin_nx, fin_ret, fin_exc, fin_ite, List.getElem?_cons_succ, List.getElem?_cons_zero, List.set_cons_zero, List.set_cons_succ, List.map_cons, List.map_nil, List.cons_append, List.nil_append, List.replicate_succ, List.replicate_zero, List.length_cons, List.length_nil, if_true, ite_true, if_false, ite_false, Bool.false_eq_true, decide_eq_true_eq, decide_not, Bool.not_eq_true', Bool.not_true, Bool.not_false, Bool.or_true, Bool.true_or, Bool.or_false, Bool.false_or, not_true_eq_false, not_false_eq_true, bne_iff_ne, ne_eq, reduceCtorEq, eq_self, decide_true, decide_false, dInt, dBl, Nat.reduceAdd, Nat.reduceSub, Nat.reduceLeDiff, Nat.zero_add, Int.reduceToNat, f_piece_from, hx, g5, i1, h1, g4, cat, r1]
  · rw [if_neg h1]
    have h1 := eq_false h1
    by_cases h2 : c ∈ FIG
    · rw [if_pos h2]
      have h2 := eq_true h2
      simp only [ss_nil, ss_cons, s_setF, setF_ok, s_setT, setT_ok, s_unp, unp_two, unp_three, s_exp, expR_ok, expR_exc, s_app, appA_own, s_ext, extA_own, s_put, putA_str, putA_int, s_try1, tryO_nx, tryO_ret, s_tryK, tryKO_nx, tryKO_ret, s_pop2, pop2A_str, s_pop1, popN_none, popN_some, s_upd, updA_dct, s_ret, retR_ok, s_retv, rvR_own, s_retN, s_ite, iteR_ok, s_whl, whT_ok, s_fr, frR_ok, s_brk, s_pas, s_rai, s_frz, e_var, var_val, e_lit, e_bin, bin2_ok, e_neg, negR_int, e_not, notR_bl, e_and, andR_bl, e_or, orR_bl, e_cmp, cmp2_ok, e_chn, chnR_bl, e_tup, e_lst, tup0, tup1, tup2, tup3, tup4, lst0, lst1, lst2, lst3, lst4, lst5, e_idx, idx2_ok, e_slc, slc3_ok, e_call, calR_ok, e_bf, bfR_ok, e_isi, isiR_int, isiR_bl, isiR_str, isiR_tup, isiR_lst, isiR_non, e_lent, lentR_ok, lentOk_int, lentOk_dct, lentOk_bl, lentOk_str, lentOk_non, e_comp, compR_ok, lstT_ok, blR_bl, t_and', andB_ok, t_or', orB_ok, t_not', notB_ok, t_cmp', t_chn', t_lent', t_v', truR_ok, t_yes', es_nil, es_cons, consR_ok, p_no, p_at, inR_int, i_seq', itsR_lst, itsR_tup, itsR_kl, i_rng1', i_rng2', thaw_nil, thaw_cons, thaw1_at, thawA_own, thawA_val, thawA_no, wipe_nil, wipe_cons, e_dnew, e_dnewN, s_clr, clrA_own, e_get1, e_get2, get1R_str, get2R_str, get2R_int, e_join, joinR_lst, e_lok, lokR_dct, lokR_lst, i_enum', i_zip', i_items', i_rev', enumR_lst, enumR_kl, enumR_dct, zipR_lst, zipR_tup, itemsR_dct, revR_lst, itsR_dct, s_frzL, thawL_at, thawB_own, thawB_val, thawB_no, bf_listD, bf_lenD, bf_dict, bf_sum, bf_all, bf_any, c_isN, c_notN, c_isB, c_notB, c_eqB, c_neB, c_leS, c_ltS, c_gtS, c_geS, c_inDs, c_notInDs, b_add, b_sub, b_mul, b_fdiv, b_mod, b_pow, b_cat, b_catS, c_eqI, c_neI, c_eqS, c_neS, c_lt, c_le, c_gt, c_ge, bf_abs, bf_lenL, bf_lenK, bf_lenT, bf_lenS, bf_max, bf_min, bf_list, bf_listT, bf_tuple, bf_tupleT, bf_int, tr_bl, slK, slL, e_fmt, fmtR_str, e_fst, fstR_ok, e_tix, e_maxd, maxdR_ok, e_sset, i_rng3', e_isc, e_isx, e_cald, e_mk, mkR_ok, e_fld, fldR_ok, e_mth, mthR_ok, mthX_ok, seq_nx, seq_ret, seq_brk, seq_exc, seq_ite, wh_nx, wh_brk, wh_ret, wh_exc, wh_ite, fin_nx, fin_ret, fin_exc, fin_ite, List.getElem?_cons_succ, List.getElem?_cons_zero, List.set_cons_zero, List.set_cons_succ, List.map_cons, List.map_nil, List.cons_append, List.nil_append, List.replicate_succ, List.replicate_zero, List.length_cons, List.length_nil, if_true, ite_true, if_false, ite_false, Bool.false_eq_true, decide_eq_true_eq, decide_not, Bool.not_eq_true', Bool.not_true, Bool.not_false, Bool.or_true, Bool.true_or, Bool.or_false, Bool.false_or, not_true_eq_false, not_false_eq_true, bne_iff_ne, ne_eq, reduceCtorEq, eq_self, decide_true, decide_false, dInt, dBl, Nat.reduceAdd, Nat.reduceSub, Nat.reduceLeDiff, Nat.zero_add, Int.reduceToNat, f_piece_from, hx, g5, i1, h1, g4, i2, h2, r2]
    · rw [if_neg h2]
      have h2 := eq_false h2
      by_cases h3 : c ∈ SIG
      · rw [if_pos h3]
        have h3 := eq_true h3
        simp only [ss_nil, ss_cons, s_setF, setF_ok, s_setT, setT_ok, s_unp, unp_two, unp_three, s_exp, expR_ok, expR_exc, s_app, appA_own, s_ext, extA_own, s_put, putA_str, putA_int, s_try1, tryO_nx, tryO_ret, s_tryK, tryKO_nx, tryKO_ret, s_pop2, pop2A_str, s_pop1, popN_none, popN_some, s_upd, updA_dct, s_ret, retR_ok, s_retv, rvR_own, s_retN, s_ite, iteR_ok, s_whl, whT_ok, s_fr, frR_ok, s_brk, s_pas, s_rai, s_frz, e_var, var_val, e_lit, e_bin, bin2_ok, e_neg, negR_int, e_not, notR_bl, e_and, andR_bl, e_or, orR_bl, e_cmp, cmp2_ok, e_chn, chnR_bl, e_tup, e_lst, tup0, tup1, tup2, tup3, tup4, lst0, lst1, lst2, lst3, lst4, lst5, e_idx, idx2_ok, e_slc, slc3_ok, e_call, calR_ok, e_bf, bfR_ok, e_isi, isiR_int, isiR_bl, isiR_str, isiR_tup, isiR_lst, isiR_non, e_lent, lentR_ok, lentOk_int, lentOk_dct, lentOk_bl, lentOk_str, lentOk_non, e_comp, compR_ok, lstT_ok, blR_bl, t_and', andB_ok, t_or', orB_ok, t_not', notB_ok, t_cmp', t_chn', t_lent', t_v', truR_ok, t_yes', es_nil, es_cons, consR_ok, p_no, p_at, inR_int, i_seq', itsR_lst, itsR_tup, itsR_kl, i_rng1', i_rng2', thaw_nil, thaw_cons, thaw1_at, thawA_own, thawA_val, thawA_no, wipe_nil, wipe_cons, e_dnew, e_dnewN, s_clr, clrA_own, e_get1, e_get2, get1R_str, get2R_str, get2R_int, e_join, joinR_lst, e_lok, lokR_dct, lokR_lst, i_enum', i_zip', i_items', i_rev', enumR_lst, enumR_kl, enumR_dct, zipR_lst, zipR_tup, itemsR_dct, revR_lst, itsR_dct, s_frzL, thawL_at, thawB_own, thawB_val, thawB_no, bf_listD, bf_lenD, bf_dict, bf_sum, bf_all, bf_any, c_isN, c_notN, c_isB, c_notB, c_eqB, c_neB, c_leS, c_ltS, c_gtS, c_geS, c_inDs, c_notInDs, b_add, b_sub, b_mul, b_fdiv, b_mod, b_pow, b_cat, b_catS, c_eqI, c_neI, c_eqS, c_neS, c_lt, c_le, c_gt, c_ge, bf_abs, bf_lenL, bf_lenK, bf_lenT, bf_lenS, bf_max, bf_min, bf_list, bf_listT, bf_tuple, bf_tupleT, bf_int, tr_bl, slK, slL, e_fmt, fmtR_str, e_fst, fstR_ok, e_tix, e_maxd, maxdR_ok, e_sset, i_rng3', e_isc, e_isx, e_cald, e_mk, mkR_ok, e_fld, fldR_ok, e_mth, mthR_ok, mthX_ok, seq_nx, seq_ret, seq_brk, seq_exc, seq_ite, wh_nx, wh_brk, wh_ret, wh_exc, wh_ite, fin_nx, fin_ret, fin_exc, fin_ite, List.getElem?_cons_succ, List.getElem?_cons_zero, List.set_cons_zero, List.set_cons_succ, List.map_cons, List.map_nil, List.cons_append, List.nil_append, List.replicate_succ, List.replicate_zero, List.length_cons, List.length_nil, if_true, ite_true, if_false, ite_false, Bool.false_eq_true, decide_eq_true_eq, decide_not, Bool.not_eq_true', Bool.not_true, Bool.not_false, Bool.or_true, Bool.true_or, Bool.or_false, Bool.false_or, not_true_eq_false, not_false_eq_true, bne_iff_ne, ne_eq, reduceCtorEq, eq_self, decide_true, decide_false, dInt, dBl, Nat.reduceAdd, Nat.reduceSub, Nat.reduceLeDiff, Nat.zero_add, Int.reduceToNat, f_piece_from, hx, g5, i1, h1, g4, i2, h2, i3, h3]
      · rw [if_neg h3]
        have h3 := eq_false h3
        by_cases h4 : c ∈ ANG
        · have hsl := cutS_nat l (k + 1) (k + 2)
          rw [show k + 2 - (k + 1) = 1 by omega, ← List.drop_drop, h] at hsl
          have hsl : L2.cutS (tx l) (some ((k : Int) + 1)) (some ((k : Int) + 2)) = tx (r.take 1) := hsl
          have ieq := c_eqT (r.take 1) [61]
          rw [eq_def] at ieq
          have eh : (r.take 1 = [61]) = (r.head? = some 61) := by
            cases r with
            | nil => simp
            | cons a r => simp
          simp only [eh] at ieq
          by_cases h5 : r.head? = some 61
          · rw [if_pos ⟨h4, h5⟩]
            have h4 := eq_true h4
            have h5 := eq_true h5
            have cat2 : binD .add (.str (tx [c])) (.str "=") = .ok (.str (tx [c, 61]), false) := by rw [← eq_def]; exact catT (by show 2 ≤ 1000; decide)
            simp only [ss_nil, ss_cons, s_setF, setF_ok, s_setT, setT_ok, s_unp, unp_two, unp_three, s_exp, expR_ok, expR_exc, s_app, appA_own, s_ext, extA_own, s_put, putA_str, putA_int, s_try1, tryO_nx, tryO_ret, s_tryK, tryKO_nx, tryKO_ret, s_pop2, pop2A_str, s_pop1, popN_none, popN_some, s_upd, updA_dct, s_ret, retR_ok, s_retv, rvR_own, s_retN, s_ite, iteR_ok, s_whl, whT_ok, s_fr, frR_ok, s_brk, s_pas, s_rai, s_frz, e_var, var_val, e_lit, e_bin, bin2_ok, e_neg, negR_int, e_not, notR_bl, e_and, andR_bl, e_or, orR_bl, e_cmp, cmp2_ok, e_chn, chnR_bl, e_tup, e_lst, tup0, tup1, tup2, tup3, tup4, lst0, lst1, lst2, lst3, lst4, lst5, e_idx, idx2_ok, e_slc, slc3_ok, e_call, calR_ok, e_bf, bfR_ok, e_isi, isiR_int, isiR_bl, isiR_str, isiR_tup, isiR_lst, isiR_non, e_lent, lentR_ok, lentOk_int, lentOk_dct, lentOk_bl, lentOk_str, lentOk_non, e_comp, compR_ok, lstT_ok, blR_bl, t_and', andB_ok, t_or', orB_ok, t_not', notB_ok, t_cmp', t_chn', t_lent', t_v', truR_ok, t_yes', es_nil, es_cons, consR_ok, p_no, p_at, inR_int, i_seq', itsR_lst, itsR_tup, itsR_kl, i_rng1', i_rng2', thaw_nil, thaw_cons, thaw1_at, thawA_own, thawA_val, thawA_no, wipe_nil, wipe_cons, e_dnew, e_dnewN, s_clr, clrA_own, e_get1, e_get2, get1R_str, get2R_str, get2R_int, e_join, joinR_lst, e_lok, lokR_dct, lokR_lst, i_enum', i_zip', i_items', i_rev', enumR_lst, enumR_kl, enumR_dct, zipR_lst, zipR_tup, itemsR_dct, revR_lst, itsR_dct, s_frzL, thawL_at, thawB_own, thawB_val, thawB_no, bf_listD, bf_lenD, bf_dict, bf_sum, bf_all, bf_any, c_isN, c_notN, c_isB, c_notB, c_eqB, c_neB, c_leS, c_ltS, c_gtS, c_geS, c_inDs, c_notInDs, b_add, b_sub, b_mul, b_fdiv, b_mod, b_pow, b_cat, b_catS, c_eqI, c_neI, c_eqS, c_neS, c_lt, c_le, c_gt, c_ge, bf_abs, bf_lenL, bf_lenK, bf_lenT, bf_lenS, bf_max, bf_min, bf_list, bf_listT, bf_tuple, bf_tupleT, bf_int, tr_bl, slK, slL, e_fmt, fmtR_str, e_fst, fstR_ok, e_tix, e_maxd, maxdR_ok, e_sset, i_rng3', e_isc, e_isx, e_cald, e_mk, mkR_ok, e_fld, fldR_ok, e_mth, mthR_ok, mthX_ok, seq_nx, seq_ret, seq_brk, seq_exc, seq_ite, wh_nx, wh_brk, wh_ret, wh_exc, wh_ite, fin_nx, fin_ret, fin_exc, fin_ite, List.getElem?_cons_succ, List.getElem?_cons_zero, List.set_cons_zero, List.set_cons_succ, List.map_cons, List.map_nil, List.cons_append, List.nil_append, List.replicate_succ, List.replicate_zero, List.length_cons, List.length_nil, if_true, ite_true, if_false, ite_false, Bool.false_eq_true, decide_eq_true_eq, decide_not, Bool.not_eq_true', Bool.not_true, Bool.not_false, Bool.or_true, Bool.true_or, Bool.or_false, Bool.false_or, not_true_eq_false, not_false_eq_true, bne_iff_ne, ne_eq, reduceCtorEq, eq_self, decide_true, decide_false, dInt, dBl, Nat.reduceAdd, Nat.reduceSub, Nat.reduceLeDiff, Nat.zero_add, Int.reduceToNat, f_piece_from, hx, g5, i1, h1, g4, i2, h2, i3, h3, i4, h4, slS, hsl, ieq, h5, cat2]
          · rw [if_neg fun z => h5 z.2]
            have h4 := eq_true h4
            have h5 := eq_false h5
            simp only [ss_nil, ss_cons, s_setF, setF_ok, s_setT, setT_ok, s_unp, unp_two, unp_three, s_exp, expR_ok, expR_exc, s_app, appA_own, s_ext, extA_own, s_put, putA_str, putA_int, s_try1, tryO_nx, tryO_ret, s_tryK, tryKO_nx, tryKO_ret, s_pop2, pop2A_str, s_pop1, popN_none, popN_some, s_upd, updA_dct, s_ret, retR_ok, s_retv, rvR_own, s_retN, s_ite, iteR_ok, s_whl, whT_ok, s_fr, frR_ok, s_brk, s_pas, s_rai, s_frz, e_var, var_val, e_lit, e_bin, bin2_ok, e_neg, negR_int, e_not, notR_bl, e_and, andR_bl, e_or, orR_bl, e_cmp, cmp2_ok, e_chn, chnR_bl, e_tup, e_lst, tup0, tup1, tup2, tup3, tup4, lst0, lst1, lst2, lst3, lst4, lst5, e_idx, idx2_ok, e_slc, slc3_ok, e_call, calR_ok, e_bf, bfR_ok, e_isi, isiR_int, isiR_bl, isiR_str, isiR_tup, isiR_lst, isiR_non, e_lent, lentR_ok, lentOk_int, lentOk_dct, lentOk_bl, lentOk_str, lentOk_non, e_comp, compR_ok, lstT_ok, blR_bl, t_and', andB_ok, t_or', orB_ok, t_not', notB_ok, t_cmp', t_chn', t_lent', t_v', truR_ok, t_yes', es_nil, es_cons, consR_ok, p_no, p_at, inR_int, i_seq', itsR_lst, itsR_tup, itsR_kl, i_rng1', i_rng2', thaw_nil, thaw_cons, thaw1_at, thawA_own, thawA_val, thawA_no, wipe_nil, wipe_cons, e_dnew, e_dnewN, s_clr, clrA_own, e_get1, e_get2, get1R_str, get2R_str, get2R_int, e_join, joinR_lst, e_lok, lokR_dct, lokR_lst, i_enum', i_zip', i_items', i_rev', enumR_lst, enumR_kl, enumR_dct, zipR_lst, zipR_tup, itemsR_dct, revR_lst, itsR_dct, s_frzL, thawL_at, thawB_own, thawB_val, thawB_no, bf_listD, bf_lenD, bf_dict, bf_sum, bf_all, bf_any, c_isN, c_notN, c_isB, c_notB, c_eqB, c_neB, c_leS, c_ltS, c_gtS, c_geS, c_inDs, c_notInDs, b_add, b_sub, b_mul, b_fdiv, b_mod, b_pow, b_cat, b_catS, c_eqI, c_neI, c_eqS, c_neS, c_lt, c_le, c_gt, c_ge, bf_abs, bf_lenL, bf_lenK, bf_lenT, bf_lenS, bf_max, bf_min, bf_list, bf_listT, bf_tuple, bf_tupleT, bf_int, tr_bl, slK, slL, e_fmt, fmtR_str, e_fst, fstR_ok, e_tix, e_maxd, maxdR_ok, e_sset, i_rng3', e_isc, e_isx, e_cald, e_mk, mkR_ok, e_fld, fldR_ok, e_mth, mthR_ok, mthX_ok, seq_nx, seq_ret, seq_brk, seq_exc, seq_ite, wh_nx, wh_brk, wh_ret, wh_exc, wh_ite, fin_nx, fin_ret, fin_exc, fin_ite, List.getElem?_cons_succ, List.getElem?_cons_zero, List.set_cons_zero, List.set_cons_succ, List.map_cons, List.map_nil, List.cons_append, List.nil_append, List.replicate_succ, List.replicate_zero, List.length_cons, List.length_nil, if_true, ite_true, if_false, ite_false, Bool.false_eq_true, decide_eq_true_eq, decide_not, Bool.not_eq_true', Bool.not_true, Bool.not_false, Bool.or_true, Bool.true_or, Bool.or_false, Bool.false_or, not_true_eq_false, not_false_eq_true, bne_iff_ne, ne_eq, reduceCtorEq, eq_self, decide_true, decide_false, dInt, dBl, Nat.reduceAdd, Nat.reduceSub, Nat.reduceLeDiff, Nat.zero_add, Int.reduceToNat, f_piece_from, hx, g5, i1, h1, g4, i2, h2, i3, h3, i4, h4, slS, hsl, ieq, h5]
        · rw [if_neg fun z => h4 z.1]
          have h4 := eq_false h4
          simp only [ss_nil, ss_cons, s_setF, setF_ok, s_setT, setT_ok, s_unp, unp_two, unp_three, s_exp, expR_ok, expR_exc, s_app, appA_own, s_ext, extA_own, s_put, putA_str, putA_int, s_try1, tryO_nx, tryO_ret, s_tryK, tryKO_nx, tryKO_ret, s_pop2, pop2A_str, s_pop1, popN_none, popN_some, s_upd, updA_dct, s_ret, retR_ok, s_retv, rvR_own, s_retN, s_ite, iteR_ok, s_whl, whT_ok, s_fr, frR_ok, s_brk, s_pas, s_rai, s_frz, e_var, var_val, e_lit, e_bin, bin2_ok, e_neg, negR_int, e_not, notR_bl, e_and, andR_bl, e_or, orR_bl, e_cmp, cmp2_ok, e_chn, chnR_bl, e_tup, e_lst, tup0, tup1, tup2, tup3, tup4, lst0, lst1, lst2, lst3, lst4, lst5, e_idx, idx2_ok, e_slc, slc3_ok, e_call, calR_ok, e_bf, bfR_ok, e_isi, isiR_int, isiR_bl, isiR_str, isiR_tup, isiR_lst, isiR_non, e_lent, lentR_ok, lentOk_int, lentOk_dct, lentOk_bl, lentOk_str, lentOk_non, e_comp, compR_ok, lstT_ok, blR_bl, t_and', andB_ok, t_or', orB_ok, t_not', notB_ok, t_cmp', t_chn', t_lent', t_v', truR_ok, t_yes', es_nil, es_cons, consR_ok, p_no, p_at, inR_int, i_seq', itsR_lst, itsR_tup, itsR_kl, i_rng1', i_rng2', thaw_nil, thaw_cons, thaw1_at, thawA_own, thawA_val, thawA_no, wipe_nil, wipe_cons, e_dnew, e_dnewN, s_clr, clrA_own, e_get1, e_get2, get1R_str, get2R_str, get2R_int, e_join, joinR_lst, e_lok, lokR_dct, lokR_lst, i_enum', i_zip', i_items', i_rev', enumR_lst, enumR_kl, enumR_dct, zipR_lst, zipR_tup, itemsR_dct, revR_lst, itsR_dct, s_frzL, thawL_at, thawB_own, thawB_val, thawB_no, bf_listD, bf_lenD, bf_dict, bf_sum, bf_all, bf_any, c_isN, c_notN, c_isB, c_notB, c_eqB, c_neB, c_leS, c_ltS, c_gtS, c_geS, c_inDs, c_notInDs, b_add, b_sub, b_mul, b_fdiv, b_mod, b_pow, b_cat, b_catS, c_eqI, c_neI, c_eqS, c_neS, c_lt, c_le, c_gt, c_ge, bf_abs, bf_lenL, bf_lenK, bf_lenT, bf_lenS, bf_max, bf_min, bf_list, bf_listT, bf_tuple, bf_tupleT, bf_int, tr_bl, slK, slL, e_fmt, fmtR_str, e_fst, fstR_ok, e_tix, e_maxd, maxdR_ok, e_sset, i_rng3', e_isc, e_isx, e_cald, e_mk, mkR_ok, e_fld, fldR_ok, e_mth, mthR_ok, mthX_ok, seq_nx, seq_ret, seq_brk, seq_exc, seq_ite, wh_nx, wh_brk, wh_ret, wh_exc, wh_ite, fin_nx, fin_ret, fin_exc, fin_ite, List.getElem?_cons_succ, List.getElem?_cons_zero, List.set_cons_zero, List.set_cons_succ, List.map_cons, List.map_nil, List.cons_append, List.nil_append, List.replicate_succ, List.replicate_zero, List.length_cons, List.length_nil, if_true, ite_true, if_false, ite_false, Bool.false_eq_true, decide_eq_true_eq, decide_not, Bool.not_eq_true', Bool.not_true, Bool.not_false, Bool.or_true, Bool.true_or, Bool.or_false, Bool.false_or, not_true_eq_false, not_false_eq_true, bne_iff_ne, ne_eq, reduceCtorEq, eq_self, decide_true, decide_false, dInt, dBl, Nat.reduceAdd, Nat.reduceSub, Nat.reduceLeDiff, Nat.zero_add, Int.reduceToNat, f_piece_from, hx, g5, i1, h1, g4, i2, h2, i3, h3, i4, h4]
/-- the pieces, n at most -/
def toks : Nat → List Nat → Option (List (List Nat))
  | _, [] => some []
  | 0, _ :: _ => none
  | n + 1, c :: r => if c = 32 then toks n r else match pieceAt (c :: r) with
    | some p => (toks n ((c :: r).drop p.length)).map (p :: ·)
    | none => none
theorem piece_pos {c : Nat} {r p : List Nat} (h : pieceAt (c :: r) = some p) : 1 ≤ p.length := by
  rw [pieceAt_cons] at h
  split at h
  · rename_i h1
    cases h
    rw [List.takeWhile_cons_of_pos (p := fun x => decide (x ∈ LET ++ FIG)) (decide_eq_true (List.mem_append_left _ h1)), List.length_cons]; omega
  · split at h
    · rename_i h1
      cases h
      rw [List.takeWhile_cons_of_pos (p := fun x => decide (x ∈ FIG)) (decide_eq_true h1), List.length_cons]; omega
    · split at h
      · cases h; exact Nat.le_refl _
      · split at h
        · cases h; show 1 ≤ 2; decide
        · cases h
def stD (p : List Nat) : D := .str (tx p)
theorem pieces_loop {m : Nat} (hm : 2 ≤ m) (l : List Nat) (hl : l.length ≤ 2000) : ∀ (n : Nat) (r : List Nat) (k : Nat) (acc : List (List Nat)), l.drop k = r → r.length ≤ n → k ≤ l.length → acc.length ≤ k →
    match toks n r with
    | some ps => whlS ⟨run I fs m, I⟩ (.cmp .lt (.var 2) (.bf .len (.cons (.var 0) .nil))) (.cons (.ite (.cmp .eq (.idx (.var 0) (.var 2)) (.lit (.str " "))) (.cons (.set 2 false (.bin .add (.var 2) (.lit (.int 1)))) .nil) (.cons (.app 1 (.call "piece_from" (.cons (.var 0) (.cons (.var 2) .nil)))) (.cons (.set 2 false (.lent [1] (.bin .add (.var 2) (.bf .len (.cons (.idx (.var 1) (.neg (.lit (.int 1)))) .nil))))) .nil))) .nil) [.val (.str (tx l)), .own (.lst (acc.map stD)), .val (.int (k : Nat))] = .nx [.val (.str (tx l)), .own (.lst ((acc ++ ps).map stD)), .val (.int (l.length : Nat))]
    | none => ∃ ρ', whlS ⟨run I fs m, I⟩ (.cmp .lt (.var 2) (.bf .len (.cons (.var 0) .nil))) (.cons (.ite (.cmp .eq (.idx (.var 0) (.var 2)) (.lit (.str " "))) (.cons (.set 2 false (.bin .add (.var 2) (.lit (.int 1)))) .nil) (.cons (.app 1 (.call "piece_from" (.cons (.var 0) (.cons (.var 2) .nil)))) (.cons (.set 2 false (.lent [1] (.bin .add (.var 2) (.bf .len (.cons (.idx (.var 1) (.neg (.lit (.int 1)))) .nil))))) .nil))) .nil) [.val (.str (tx l)), .own (.lst (acc.map stD)), .val (.int (k : Nat))] = .exc "NoText" ρ'
  | n, [], k, acc, h, hn, hk, ha => by
    have hk2 : l.length ≤ k := List.drop_eq_nil_iff.mp h
    have ek : k = l.length := by omega
    subst ek
    have e : toks n [] = some [] := by cases n <;> rfl
    rw [e]
    have q : ¬ ((l.length : Nat) : Int) < (l.length : Nat) := by omega
    have hlen := len_tx l
    show whlS _ _ _ _ = _
    rw [List.append_nil, whl_turn]
    simp only [ss_nil, ss_cons, s_setF, setF_ok, s_setT, setT_ok, s_unp, unp_two, unp_three, s_exp, expR_ok, expR_exc, s_app, appA_own, s_ext, extA_own, s_put, putA_str, putA_int, s_try1, tryO_nx, tryO_ret, s_tryK, tryKO_nx, tryKO_ret, s_pop2, pop2A_str, s_pop1, popN_none, popN_some, s_upd, updA_dct, s_ret, retR_ok, s_retv, rvR_own, s_retN, s_ite, iteR_ok, s_whl, whT_ok, s_fr, frR_ok, s_brk, s_pas, s_rai, s_frz, e_var, var_val, e_lit, e_bin, bin2_ok, e_neg, negR_int, e_not, notR_bl, e_and, andR_bl, e_or, orR_bl, e_cmp, cmp2_ok, e_chn, chnR_bl, e_tup, e_lst, tup0, tup1, tup2, tup3, tup4, lst0, lst1, lst2, lst3, lst4, lst5, e_idx, idx2_ok, e_slc, slc3_ok, e_call, calR_ok, e_bf, bfR_ok, e_isi, isiR_int, isiR_bl, isiR_str, isiR_tup, isiR_lst, isiR_non, e_lent, lentR_ok, lentOk_int, lentOk_dct, lentOk_bl, lentOk_str, lentOk_non, e_comp, compR_ok, lstT_ok, blR_bl, t_and', andB_ok, t_or', orB_ok, t_not', notB_ok, t_cmp', t_chn', t_lent', t_v', truR_ok, t_yes', es_nil, es_cons, consR_ok, p_no, p_at, inR_int, i_seq', itsR_lst, itsR_tup, itsR_kl, i_rng1', i_rng2', thaw_nil, thaw_cons, thaw1_at, thawA_own, thawA_val, thawA_no, wipe_nil, wipe_cons, e_dnew, e_dnewN, s_clr, clrA_own, e_get1, e_get2, get1R_str, get2R_str, get2R_int, e_join, joinR_lst, e_lok, lokR_dct, lokR_lst, i_enum', i_zip', i_items', i_rev', enumR_lst, enumR_kl, enumR_dct, zipR_lst, zipR_tup, itemsR_dct, revR_lst, itsR_dct, s_frzL, thawL_at, thawB_own, thawB_val, thawB_no, bf_listD, bf_lenD, bf_dict, bf_sum, bf_all, bf_any, c_isN, c_notN, c_isB, c_notB, c_eqB, c_neB, c_leS, c_ltS, c_gtS, c_geS, c_inDs, c_notInDs, b_add, b_sub, b_mul, b_fdiv, b_mod, b_pow, b_cat, b_catS, c_eqI, c_neI, c_eqS, c_neS, c_lt, c_le, c_gt, c_ge, bf_abs, bf_lenL, bf_lenK, bf_lenT, bf_lenS, bf_max, bf_min, bf_list, bf_listT, bf_tuple, bf_tupleT, bf_int, tr_bl, slK, slL, e_fmt, fmtR_str, e_fst, fstR_ok, e_tix, e_maxd, maxdR_ok, e_sset, i_rng3', e_isc, e_isx, e_cald, e_mk, mkR_ok, e_fld, fldR_ok, e_mth, mthR_ok, mthX_ok, seq_nx, seq_ret, seq_brk, seq_exc, seq_ite, wh_nx, wh_brk, wh_ret, wh_exc, wh_ite, fin_nx, fin_ret, fin_exc, fin_ite, List.getElem?_cons_succ, List.getElem?_cons_zero, List.set_cons_zero, List.set_cons_succ, List.map_cons, List.map_nil, List.cons_append, List.nil_append, List.replicate_succ, List.replicate_zero, List.length_cons, List.length_nil, if_true, ite_true, if_false, ite_false, Bool.false_eq_true, decide_eq_true_eq, decide_not, Bool.not_eq_true', Bool.not_true, Bool.not_false, Bool.or_true, Bool.true_or, Bool.or_false, Bool.false_or, not_true_eq_false, not_false_eq_true, bne_iff_ne, ne_eq, reduceCtorEq, eq_self, decide_true, decide_false, dInt, dBl, Nat.reduceAdd, Nat.reduceSub, Nat.reduceLeDiff, Nat.zero_add, Int.reduceToNat, hlen, q]
  | 0, c :: r, k, acc, h, hn, hk, ha => by rw [List.length_cons] at hn; omega
  | n + 1, c :: r, k, acc, h, hn, hk, ha => by
    rw [List.length_cons] at hn
    have hk : k < l.length := by
      have := congrArg List.length h
      rw [List.length_drop, List.length_cons] at this; omega
    have q := eq_true (show ((k : Nat) : Int) < (l.length : Nat) by omega)
    have hlen := len_tx l
    have hx := ch_ix h
    have hi := c_eqT [c] [32]
    rw [sp_def] at hi
    have e1 : ([c] = [32]) = (c = 32) := propext ⟨fun h => (List.cons.inj h).1, fun h => by rw [h]⟩
    simp only [e1] at hi
    rw [toks]
    by_cases hc : c = 32
    · rw [if_pos hc]
      have ih := pieces_loop hm l hl n r (k + 1) acc (by rw [← List.drop_drop, h]; rfl) (by omega) (by omega) (by omega)
      have hc := eq_true hc
      have step : whlS ⟨run I fs m, I⟩ (.cmp .lt (.var 2) (.bf .len (.cons (.var 0) .nil))) (.cons (.ite (.cmp .eq (.idx (.var 0) (.var 2)) (.lit (.str " "))) (.cons (.set 2 false (.bin .add (.var 2) (.lit (.int 1)))) .nil) (.cons (.app 1 (.call "piece_from" (.cons (.var 0) (.cons (.var 2) .nil)))) (.cons (.set 2 false (.lent [1] (.bin .add (.var 2) (.bf .len (.cons (.idx (.var 1) (.neg (.lit (.int 1)))) .nil))))) .nil))) .nil) [.val (.str (tx l)), .own (.lst (acc.map stD)), .val (.int (k : Nat))] = whlS ⟨run I fs m, I⟩ (.cmp .lt (.var 2) (.bf .len (.cons (.var 0) .nil))) (.cons (.ite (.cmp .eq (.idx (.var 0) (.var 2)) (.lit (.str " "))) (.cons (.set 2 false (.bin .add (.var 2) (.lit (.int 1)))) .nil) (.cons (.app 1 (.call "piece_from" (.cons (.var 0) (.cons (.var 2) .nil)))) (.cons (.set 2 false (.lent [1] (.bin .add (.var 2) (.bf .len (.cons (.idx (.var 1) (.neg (.lit (.int 1)))) .nil))))) .nil))) .nil) [.val (.str (tx l)), .own (.lst (acc.map stD)), .val (.int ((k + 1 : Nat) : Int))] := by
        rw [whl_turn]
        simp only [ss_nil, ss_cons, s_setF, setF_ok, s_setT, setT_ok, s_unp, unp_two, unp_three, s_exp, expR_ok, expR_exc, s_app, appA_own, s_ext, extA_own, s_put, putA_str, putA_int, s_try1, tryO_nx, tryO_ret, s_tryK, tryKO_nx, tryKO_ret, s_pop2, pop2A_str, s_pop1, popN_none, popN_some, s_upd, updA_dct, s_ret, retR_ok, s_retv, rvR_own, s_retN, s_ite, iteR_ok, s_whl, whT_ok, s_fr, frR_ok, s_brk, s_pas, s_rai, s_frz, e_var, var_val, e_lit, e_bin, bin2_ok, e_neg, negR_int, e_not, notR_bl, e_and, andR_bl, e_or, orR_bl, e_cmp, cmp2_ok, e_chn, chnR_bl, e_tup, e_lst, tup0, tup1, tup2, tup3, tup4, lst0, lst1, lst2, lst3, lst4, lst5, e_idx, idx2_ok, e_slc, slc3_ok, e_call, calR_ok, e_bf, bfR_ok, e_isi, isiR_int, isiR_bl, isiR_str, isiR_tup, isiR_lst, isiR_non, e_lent, lentR_ok, lentOk_int, lentOk_dct, lentOk_bl, lentOk_str, lentOk_non, e_comp, compR_ok, lstT_ok, blR_bl, t_and', andB_ok, t_or', orB_ok, t_not', notB_ok, t_cmp', t_chn', t_lent', t_v', truR_ok, t_yes', es_nil, es_cons, consR_ok, p_no, p_at, inR_int, i_seq', itsR_lst, itsR_tup, itsR_kl, i_rng1', i_rng2', thaw_nil, thaw_cons, thaw1_at, thawA_own, thawA_val, thawA_no, wipe_nil, wipe_cons, e_dnew, e_dnewN, s_clr, clrA_own, e_get1, e_get2, get1R_str, get2R_str, get2R_int, e_join, joinR_lst, e_lok, lokR_dct, lokR_lst, i_enum', i_zip', i_items', i_rev', enumR_lst, enumR_kl, enumR_dct, zipR_lst, zipR_tup, itemsR_dct, revR_lst, itsR_dct, s_frzL, thawL_at, thawB_own, thawB_val, thawB_no, bf_listD, bf_lenD, bf_dict, bf_sum, bf_all, bf_any, c_isN, c_notN, c_isB, c_notB, c_eqB, c_neB, c_leS, c_ltS, c_gtS, c_geS, c_inDs, c_notInDs, b_add, b_sub, b_mul, b_fdiv, b_mod, b_pow, b_cat, b_catS, c_eqI, c_neI, c_eqS, c_neS, c_lt, c_le, c_gt, c_ge, bf_abs, bf_lenL, bf_lenK, bf_lenT, bf_lenS, bf_max, bf_min, bf_list, bf_listT, bf_tuple, bf_tupleT, bf_int, tr_bl, slK, slL, e_fmt, fmtR_str, e_fst, fstR_ok, e_tix, e_maxd, maxdR_ok, e_sset, i_rng3', e_isc, e_isx, e_cald, e_mk, mkR_ok, e_fld, fldR_ok, e_mth, mthR_ok, mthX_ok, seq_nx, seq_ret, seq_brk, seq_exc, seq_ite, wh_nx, wh_brk, wh_ret, wh_exc, wh_ite, fin_nx, fin_ret, fin_exc, fin_ite, List.getElem?_cons_succ, List.getElem?_cons_zero, List.set_cons_zero, List.set_cons_succ, List.map_cons, List.map_nil, List.cons_append, List.nil_append, List.replicate_succ, List.replicate_zero, List.length_cons, List.length_nil, if_true, ite_true, if_false, ite_false, Bool.false_eq_true, decide_eq_true_eq, decide_not, Bool.not_eq_true', Bool.not_true, Bool.not_false, Bool.or_true, Bool.true_or, Bool.or_false, Bool.false_or, not_true_eq_false, not_false_eq_true, bne_iff_ne, ne_eq, reduceCtorEq, eq_self, decide_true, decide_false, dInt, dBl, Nat.reduceAdd, Nat.reduceSub, Nat.reduceLeDiff, Nat.zero_add, Int.reduceToNat, hlen, q, hx, hi, hc]
        rfl
      rw [step]
      exact ih
    · rw [if_neg hc]
      have hc := eq_false hc
      have hp := piece_from_ok (n := m) hm h
      cases ep : pieceAt (c :: r) with
      | none =>
        rw [ep] at hp
        dsimp only at hp ⊢
        refine ⟨[.val (.str (tx l)), .own (.lst (acc.map stD)), .val (.int (k : Nat))], ?_⟩
        rw [whl_turn]
        simp only [ss_nil, ss_cons, s_setF, setF_ok, s_setT, setT_ok, s_unp, unp_two, unp_three, s_exp, expR_ok, expR_exc, s_app, appA_own, s_ext, extA_own, s_put, putA_str, putA_int, s_try1, tryO_nx, tryO_ret, s_tryK, tryKO_nx, tryKO_ret, s_pop2, pop2A_str, s_pop1, popN_none, popN_some, s_upd, updA_dct, s_ret, retR_ok, s_retv, rvR_own, s_retN, s_ite, iteR_ok, s_whl, whT_ok, s_fr, frR_ok, s_brk, s_pas, s_rai, s_frz, e_var, var_val, e_lit, e_bin, bin2_ok, e_neg, negR_int, e_not, notR_bl, e_and, andR_bl, e_or, orR_bl, e_cmp, cmp2_ok, e_chn, chnR_bl, e_tup, e_lst, tup0, tup1, tup2, tup3, tup4, lst0, lst1, lst2, lst3, lst4, lst5, e_idx, idx2_ok, e_slc, slc3_ok, e_call, calR_ok, e_bf, bfR_ok, e_isi, isiR_int, isiR_bl, isiR_str, isiR_tup, isiR_lst, isiR_non, e_lent, lentR_ok, lentOk_int, lentOk_dct, lentOk_bl, lentOk_str, lentOk_non, e_comp, compR_ok, lstT_ok, blR_bl, t_and', andB_ok, t_or', orB_ok, t_not', notB_ok, t_cmp', t_chn', t_lent', t_v', truR_ok, t_yes', es_nil, es_cons, consR_ok, p_no, p_at, inR_int, i_seq', itsR_lst, itsR_tup, itsR_kl, i_rng1', i_rng2', thaw_nil, thaw_cons, thaw1_at, thawA_own, thawA_val, thawA_no, wipe_nil, wipe_cons, e_dnew, e_dnewN, s_clr, clrA_own, e_get1, e_get2, get1R_str, get2R_str, get2R_int, e_join, joinR_lst, e_lok, lokR_dct, lokR_lst, i_enum', i_zip', i_items', i_rev', enumR_lst, enumR_kl, enumR_dct, zipR_lst, zipR_tup, itemsR_dct, revR_lst, itsR_dct, s_frzL, thawL_at, thawB_own, thawB_val, thawB_no, bf_listD, bf_lenD, bf_dict, bf_sum, bf_all, bf_any, c_isN, c_notN, c_isB, c_notB, c_eqB, c_neB, c_leS, c_ltS, c_gtS, c_geS, c_inDs, c_notInDs, b_add, b_sub, b_mul, b_fdiv, b_mod, b_pow, b_cat, b_catS, c_eqI, c_neI, c_eqS, c_neS, c_lt, c_le, c_gt, c_ge, bf_abs, bf_lenL, bf_lenK, bf_lenT, bf_lenS, bf_max, bf_min, bf_list, bf_listT, bf_tuple, bf_tupleT, bf_int, tr_bl, slK, slL, e_fmt, fmtR_str, e_fst, fstR_ok, e_tix, e_maxd, maxdR_ok, e_sset, i_rng3', e_isc, e_isx, e_cald, e_mk, mkR_ok, e_fld, fldR_ok, e_mth, mthR_ok, mthX_ok, seq_nx, seq_ret, seq_brk, seq_exc, seq_ite, wh_nx, wh_brk, wh_ret, wh_exc, wh_ite, fin_nx, fin_ret, fin_exc, fin_ite, List.getElem?_cons_succ, List.getElem?_cons_zero, List.set_cons_zero, List.set_cons_succ, List.map_cons, List.map_nil, List.cons_append, List.nil_append, List.replicate_succ, List.replicate_zero, List.length_cons, List.length_nil, if_true, ite_true, if_false, ite_false, Bool.false_eq_true, decide_eq_true_eq, decide_not, Bool.not_eq_true', Bool.not_true, Bool.not_false, Bool.or_true, Bool.true_or, Bool.or_false, Bool.false_or, not_true_eq_false, not_false_eq_true, bne_iff_ne, ne_eq, reduceCtorEq, eq_self, decide_true, decide_false, dInt, dBl, Nat.reduceAdd, Nat.reduceSub, Nat.reduceLeDiff, Nat.zero_add, Int.reduceToNat, hlen, q, hx, hi, hc, hp, appA_exc]
      | some p =>
        rw [ep] at hp
        dsimp only at hp ⊢
        have pp := piece_pos ep
        have pl : p.length ≤ (c :: r).length := by
          rw [pieceAt_cons] at ep
          have tl : ∀ (f : Nat → Bool) (x : List Nat), (x.takeWhile f).length ≤ x.length := fun f x => (List.takeWhile_sublist f).length_le
          split at ep
          · cases ep; exact tl _ _
          · split at ep
            · cases ep; exact tl _ _
            · split at ep
              · cases ep; show 1 ≤ r.length + 1; omega
              · split at ep
                · rename_i h5
                  cases ep
                  cases r with
                  | nil => cases h5.2
                  | cons a r => show 2 ≤ r.length + 1 + 1; omega
                · cases ep
        rw [List.length_cons] at pl
        have hr : r.length + 1 = l.length - k := by
          have := congrArg List.length h
          rw [List.length_drop, List.length_cons] at this; omega
        have ih := pieces_loop hm l hl n ((c :: r).drop p.length) (k + p.length) (acc ++ [p]) (by rw [← List.drop_drop, h]) (by rw [List.length_drop, List.length_cons]; omega) (by omega) (by rw [List.length_append]; show acc.length + 1 ≤ _; omega)
        have ll : (acc.map stD).length + [stD p].length ≤ 16777216 := by rw [List.length_map]; show acc.length + 1 ≤ _; omega
        have hla : ixD (.lst (acc.map stD ++ [.str (tx p)])) (.int (-1)) = .ok (.str (tx p), false) := last_ix _ _
        have ll2 : (acc.map stD).length < 16777216 := by rw [List.length_map]; omega
        have hlp := len_tx p
        have step : whlS ⟨run I fs m, I⟩ (.cmp .lt (.var 2) (.bf .len (.cons (.var 0) .nil))) (.cons (.ite (.cmp .eq (.idx (.var 0) (.var 2)) (.lit (.str " "))) (.cons (.set 2 false (.bin .add (.var 2) (.lit (.int 1)))) .nil) (.cons (.app 1 (.call "piece_from" (.cons (.var 0) (.cons (.var 2) .nil)))) (.cons (.set 2 false (.lent [1] (.bin .add (.var 2) (.bf .len (.cons (.idx (.var 1) (.neg (.lit (.int 1)))) .nil))))) .nil))) .nil) [.val (.str (tx l)), .own (.lst (acc.map stD)), .val (.int (k : Nat))] = whlS ⟨run I fs m, I⟩ (.cmp .lt (.var 2) (.bf .len (.cons (.var 0) .nil))) (.cons (.ite (.cmp .eq (.idx (.var 0) (.var 2)) (.lit (.str " "))) (.cons (.set 2 false (.bin .add (.var 2) (.lit (.int 1)))) .nil) (.cons (.app 1 (.call "piece_from" (.cons (.var 0) (.cons (.var 2) .nil)))) (.cons (.set 2 false (.lent [1] (.bin .add (.var 2) (.bf .len (.cons (.idx (.var 1) (.neg (.lit (.int 1)))) .nil))))) .nil))) .nil) [.val (.str (tx l)), .own (.lst ((acc ++ [p]).map stD)), .val (.int ((k + p.length : Nat) : Int))] := by
          rw [whl_turn, List.map_append]
          simp only [ss_nil, ss_cons, s_setF, setF_ok, s_setT, setT_ok, s_unp, unp_two, unp_three, s_exp, expR_ok, expR_exc, s_app, appA_own, s_ext, extA_own, s_put, putA_str, putA_int, s_try1, tryO_nx, tryO_ret, s_tryK, tryKO_nx, tryKO_ret, s_pop2, pop2A_str, s_pop1, popN_none, popN_some, s_upd, updA_dct, s_ret, retR_ok, s_retv, rvR_own, s_retN, s_ite, iteR_ok, s_whl, whT_ok, s_fr, frR_ok, s_brk, s_pas, s_rai, s_frz, e_var, var_val, e_lit, e_bin, bin2_ok, e_neg, negR_int, e_not, notR_bl, e_and, andR_bl, e_or, orR_bl, e_cmp, cmp2_ok, e_chn, chnR_bl, e_tup, e_lst, tup0, tup1, tup2, tup3, tup4, lst0, lst1, lst2, lst3, lst4, lst5, e_idx, idx2_ok, e_slc, slc3_ok, e_call, calR_ok, e_bf, bfR_ok, e_isi, isiR_int, isiR_bl, isiR_str, isiR_tup, isiR_lst, isiR_non, e_lent, lentR_ok, lentOk_int, lentOk_dct, lentOk_bl, lentOk_str, lentOk_non, e_comp, compR_ok, lstT_ok, blR_bl, t_and', andB_ok, t_or', orB_ok, t_not', notB_ok, t_cmp', t_chn', t_lent', t_v', truR_ok, t_yes', es_nil, es_cons, consR_ok, p_no, p_at, inR_int, i_seq', itsR_lst, itsR_tup, itsR_kl, i_rng1', i_rng2', thaw_nil, thaw_cons, thaw1_at, thawA_own, thawA_val, thawA_no, wipe_nil, wipe_cons, e_dnew, e_dnewN, s_clr, clrA_own, e_get1, e_get2, get1R_str, get2R_str, get2R_int, e_join, joinR_lst, e_lok, lokR_dct, lokR_lst, i_enum', i_zip', i_items', i_rev', enumR_lst, enumR_kl, enumR_dct, zipR_lst, zipR_tup, itemsR_dct, revR_lst, itsR_dct, s_frzL, thawL_at, thawB_own, thawB_val, thawB_no, bf_listD, bf_lenD, bf_dict, bf_sum, bf_all, bf_any, c_isN, c_notN, c_isB, c_notB, c_eqB, c_neB, c_leS, c_ltS, c_gtS, c_geS, c_inDs, c_notInDs, b_add, b_sub, b_mul, b_fdiv, b_mod, b_pow, b_cat, b_catS, c_eqI, c_neI, c_eqS, c_neS, c_lt, c_le, c_gt, c_ge, bf_abs, bf_lenL, bf_lenK, bf_lenT, bf_lenS, bf_max, bf_min, bf_list, bf_listT, bf_tuple, bf_tupleT, bf_int, tr_bl, slK, slL, e_fmt, fmtR_str, e_fst, fstR_ok, e_tix, e_maxd, maxdR_ok, e_sset, i_rng3', e_isc, e_isx, e_cald, e_mk, mkR_ok, e_fld, fldR_ok, e_mth, mthR_ok, mthX_ok, seq_nx, seq_ret, seq_brk, seq_exc, seq_ite, wh_nx, wh_brk, wh_ret, wh_exc, wh_ite, fin_nx, fin_ret, fin_exc, fin_ite, List.getElem?_cons_succ, List.getElem?_cons_zero, List.set_cons_zero, List.set_cons_succ, List.map_cons, List.map_nil, List.cons_append, List.nil_append, List.replicate_succ, List.replicate_zero, List.length_cons, List.length_nil, if_true, ite_true, if_false, ite_false, Bool.false_eq_true, decide_eq_true_eq, decide_not, Bool.not_eq_true', Bool.not_true, Bool.not_false, Bool.or_true, Bool.true_or, Bool.or_false, Bool.false_or, not_true_eq_false, not_false_eq_true, bne_iff_ne, ne_eq, reduceCtorEq, eq_self, decide_true, decide_false, dInt, dBl, Nat.reduceAdd, Nat.reduceSub, Nat.reduceLeDiff, Nat.zero_add, Int.reduceToNat, hlen, q, hx, hi, hc, hp, LIMv, ll2, hla, hlp]
          rfl
        rw [step]
        cases et : toks n ((c :: r).drop p.length) with
        | none => rw [et] at ih; exact ih
        | some ps =>
          rw [et] at ih
          dsimp only [Option.map] at ih ⊢
          rw [ih, List.append_assoc]; rfl

theorem pieces_ok {n : Nat} (hn : 3 ≤ n) {l : List Nat} (h1 : l.length ≤ 2000) (h2 : meas l 0 0 ≠ none) : run I fs n "pieces" [.str (tx l)] = match toks l.length l with | some ps => .ok (.lst (ps.map stD), true) | none => .exc "NoText" := by
  obtain ⟨m, rfl⟩ := dpos (n := n) (by omega)
  rw [e_pieces _ _ rfl]
  have hm := measure_yes (n := m) (by omega) h1 h2
  have hp := pieces_loop (m := m) (by omega) l h1 l.length l 0 [] rfl (Nat.le_refl _) (Nat.zero_le _) (Nat.le_refl _)
  rw [List.map_nil, show ((0 : Nat) : Int) = 0 from rfl] at hp
  cases e : toks l.length l with
  | some ps =>
    rw [e] at hp
    dsimp only at hp ⊢
    rw [List.nil_append] at hp
    simp only [ss_nil, ss_cons, s_setF, setF_ok, s_setT, setT_ok, s_unp, unp_two, unp_three, s_exp, expR_ok, expR_exc, s_app, appA_own, s_ext, extA_own, s_put, putA_str, putA_int, s_try1, tryO_nx, tryO_ret, s_tryK, tryKO_nx, tryKO_ret, s_pop2, pop2A_str, s_pop1, popN_none, popN_some, s_upd, updA_dct, s_ret, retR_ok, s_retv, rvR_own, s_retN, s_ite, iteR_ok, s_whl, whT_ok, s_fr, frR_ok, s_brk, s_pas, s_rai, s_frz, e_var, var_val, e_lit, e_bin, bin2_ok, e_neg, negR_int, e_not, notR_bl, e_and, andR_bl, e_or, orR_bl, e_cmp, cmp2_ok, e_chn, chnR_bl, e_tup, e_lst, tup0, tup1, tup2, tup3, tup4, lst0, lst1, lst2, lst3, lst4, lst5, e_idx, idx2_ok, e_slc, slc3_ok, e_call, calR_ok, e_bf, bfR_ok, e_isi, isiR_int, isiR_bl, isiR_str, isiR_tup, isiR_lst, isiR_non, e_lent, lentR_ok, lentOk_int, lentOk_dct, lentOk_bl, lentOk_str, lentOk_non, e_comp, compR_ok, lstT_ok, blR_bl, t_and', andB_ok, t_or', orB_ok, t_not', notB_ok, t_cmp', t_chn', t_lent', t_v', truR_ok, t_yes', es_nil, es_cons, consR_ok, p_no, p_at, inR_int, i_seq', itsR_lst, itsR_tup, itsR_kl, i_rng1', i_rng2', thaw_nil, thaw_cons, thaw1_at, thawA_own, thawA_val, thawA_no, wipe_nil, wipe_cons, e_dnew, e_dnewN, s_clr, clrA_own, e_get1, e_get2, get1R_str, get2R_str, get2R_int, e_join, joinR_lst, e_lok, lokR_dct, lokR_lst, i_enum', i_zip', i_items', i_rev', enumR_lst, enumR_kl, enumR_dct, zipR_lst, zipR_tup, itemsR_dct, revR_lst, itsR_dct, s_frzL, thawL_at, thawB_own, thawB_val, thawB_no, bf_listD, bf_lenD, bf_dict, bf_sum, bf_all, bf_any, c_isN, c_notN, c_isB, c_notB, c_eqB, c_neB, c_leS, c_ltS, c_gtS, c_geS, c_inDs, c_notInDs, b_add, b_sub, b_mul, b_fdiv, b_mod, b_pow, b_cat, b_catS, c_eqI, c_neI, c_eqS, c_neS, c_lt, c_le, c_gt, c_ge, bf_abs, bf_lenL, bf_lenK, bf_lenT, bf_lenS, bf_max, bf_min, bf_list, bf_listT, bf_tuple, bf_tupleT, bf_int, tr_bl, slK, slL, e_fmt, fmtR_str, e_fst, fstR_ok, e_tix, e_maxd, maxdR_ok, e_sset, i_rng3', e_isc, e_isx, e_cald, e_mk, mkR_ok, e_fld, fldR_ok, e_mth, mthR_ok, mthX_ok, seq_nx, seq_ret, seq_brk, seq_exc, seq_ite, wh_nx, wh_brk, wh_ret, wh_exc, wh_ite, fin_nx, fin_ret, fin_exc, fin_ite, List.getElem?_cons_succ, List.getElem?_cons_zero, List.set_cons_zero, List.set_cons_succ, List.map_cons, List.map_nil, List.cons_append, List.nil_append, List.replicate_succ, List.replicate_zero, List.length_cons, List.length_nil, if_true, ite_true, if_false, ite_false, Bool.false_eq_true, decide_eq_true_eq, decide_not, Bool.not_eq_true', Bool.not_true, Bool.not_false, Bool.or_true, Bool.true_or, Bool.or_false, Bool.false_or, not_true_eq_false, not_false_eq_true, bne_iff_ne, ne_eq, reduceCtorEq, eq_self, decide_true, decide_false, dInt, dBl, Nat.reduceAdd, Nat.reduceSub, Nat.reduceLeDiff, Nat.zero_add, Int.reduceToNat, f_pieces, hm, hp]
  | none =>
    rw [e] at hp
    dsimp only at hp ⊢
    obtain ⟨ρ', hp⟩ := hp
    simp only [ss_nil, ss_cons, s_setF, setF_ok, s_setT, setT_ok, s_unp, unp_two, unp_three, s_exp, expR_ok, expR_exc, s_app, appA_own, s_ext, extA_own, s_put, putA_str, putA_int, s_try1, tryO_nx, tryO_ret, s_tryK, tryKO_nx, tryKO_ret, s_pop2, pop2A_str, s_pop1, popN_none, popN_some, s_upd, updA_dct, s_ret, retR_ok, s_retv, rvR_own, s_retN, s_ite, iteR_ok, s_whl, whT_ok, s_fr, frR_ok, s_brk, s_pas, s_rai, s_frz, e_var, var_val, e_lit, e_bin, bin2_ok, e_neg, negR_int, e_not, notR_bl, e_and, andR_bl, e_or, orR_bl, e_cmp, cmp2_ok, e_chn, chnR_bl, e_tup, e_lst, tup0, tup1, tup2, tup3, tup4, lst0, lst1, lst2, lst3, lst4, lst5, e_idx, idx2_ok, e_slc, slc3_ok, e_call, calR_ok, e_bf, bfR_ok, e_isi, isiR_int, isiR_bl, isiR_str, isiR_tup, isiR_lst, isiR_non, e_lent, lentR_ok, lentOk_int, lentOk_dct, lentOk_bl, lentOk_str, lentOk_non, e_comp, compR_ok, lstT_ok, blR_bl, t_and', andB_ok, t_or', orB_ok, t_not', notB_ok, t_cmp', t_chn', t_lent', t_v', truR_ok, t_yes', es_nil, es_cons, consR_ok, p_no, p_at, inR_int, i_seq', itsR_lst, itsR_tup, itsR_kl, i_rng1', i_rng2', thaw_nil, thaw_cons, thaw1_at, thawA_own, thawA_val, thawA_no, wipe_nil, wipe_cons, e_dnew, e_dnewN, s_clr, clrA_own, e_get1, e_get2, get1R_str, get2R_str, get2R_int, e_join, joinR_lst, e_lok, lokR_dct, lokR_lst, i_enum', i_zip', i_items', i_rev', enumR_lst, enumR_kl, enumR_dct, zipR_lst, zipR_tup, itemsR_dct, revR_lst, itsR_dct, s_frzL, thawL_at, thawB_own, thawB_val, thawB_no, bf_listD, bf_lenD, bf_dict, bf_sum, bf_all, bf_any, c_isN, c_notN, c_isB, c_notB, c_eqB, c_neB, c_leS, c_ltS, c_gtS, c_geS, c_inDs, c_notInDs, b_add, b_sub, b_mul, b_fdiv, b_mod, b_pow, b_cat, b_catS, c_eqI, c_neI, c_eqS, c_neS, c_lt, c_le, c_gt, c_ge, bf_abs, bf_lenL, bf_lenK, bf_lenT, bf_lenS, bf_max, bf_min, bf_list, bf_listT, bf_tuple, bf_tupleT, bf_int, tr_bl, slK, slL, e_fmt, fmtR_str, e_fst, fstR_ok, e_tix, e_maxd, maxdR_ok, e_sset, i_rng3', e_isc, e_isx, e_cald, e_mk, mkR_ok, e_fld, fldR_ok, e_mth, mthR_ok, mthX_ok, seq_nx, seq_ret, seq_brk, seq_exc, seq_ite, wh_nx, wh_brk, wh_ret, wh_exc, wh_ite, fin_nx, fin_ret, fin_exc, fin_ite, List.getElem?_cons_succ, List.getElem?_cons_zero, List.set_cons_zero, List.set_cons_succ, List.map_cons, List.map_nil, List.cons_append, List.nil_append, List.replicate_succ, List.replicate_zero, List.length_cons, List.length_nil, if_true, ite_true, if_false, ite_false, Bool.false_eq_true, decide_eq_true_eq, decide_not, Bool.not_eq_true', Bool.not_true, Bool.not_false, Bool.or_true, Bool.true_or, Bool.or_false, Bool.false_or, not_true_eq_false, not_false_eq_true, bne_iff_ne, ne_eq, reduceCtorEq, eq_self, decide_true, decide_false, dInt, dBl, Nat.reduceAdd, Nat.reduceSub, Nat.reduceLeDiff, Nat.zero_add, Int.reduceToNat, f_pieces, hm, hp]
theorem pieces_long {n : Nat} (hn : 3 ≤ n) {l : List Nat} (h : 2000 < l.length ∨ meas l 0 0 = none) : run I fs n "pieces" [.str (tx l)] = .exc "TooLong" := by
  obtain ⟨m, rfl⟩ := dpos (n := n) (by omega)
  rw [e_pieces _ _ rfl]
  have hm := measure_no (n := m) (by omega) h
  simp only [ss_nil, ss_cons, s_setF, setF_ok, s_setT, setT_ok, s_unp, unp_two, unp_three, s_exp, expR_ok, expR_exc, s_app, appA_own, s_ext, extA_own, s_put, putA_str, putA_int, s_try1, tryO_nx, tryO_ret, s_tryK, tryKO_nx, tryKO_ret, s_pop2, pop2A_str, s_pop1, popN_none, popN_some, s_upd, updA_dct, s_ret, retR_ok, s_retv, rvR_own, s_retN, s_ite, iteR_ok, s_whl, whT_ok, s_fr, frR_ok, s_brk, s_pas, s_rai, s_frz, e_var, var_val, e_lit, e_bin, bin2_ok, e_neg, negR_int, e_not, notR_bl, e_and, andR_bl, e_or, orR_bl, e_cmp, cmp2_ok, e_chn, chnR_bl, e_tup, e_lst, tup0, tup1, tup2, tup3, tup4, lst0, lst1, lst2, lst3, lst4, lst5, e_idx, idx2_ok, e_slc, slc3_ok, e_call, calR_ok, e_bf, bfR_ok, e_isi, isiR_int, isiR_bl, isiR_str, isiR_tup, isiR_lst, isiR_non, e_lent, lentR_ok, lentOk_int, lentOk_dct, lentOk_bl, lentOk_str, lentOk_non, e_comp, compR_ok, lstT_ok, blR_bl, t_and', andB_ok, t_or', orB_ok, t_not', notB_ok, t_cmp', t_chn', t_lent', t_v', truR_ok, t_yes', es_nil, es_cons, consR_ok, p_no, p_at, inR_int, i_seq', itsR_lst, itsR_tup, itsR_kl, i_rng1', i_rng2', thaw_nil, thaw_cons, thaw1_at, thawA_own, thawA_val, thawA_no, wipe_nil, wipe_cons, e_dnew, e_dnewN, s_clr, clrA_own, e_get1, e_get2, get1R_str, get2R_str, get2R_int, e_join, joinR_lst, e_lok, lokR_dct, lokR_lst, i_enum', i_zip', i_items', i_rev', enumR_lst, enumR_kl, enumR_dct, zipR_lst, zipR_tup, itemsR_dct, revR_lst, itsR_dct, s_frzL, thawL_at, thawB_own, thawB_val, thawB_no, bf_listD, bf_lenD, bf_dict, bf_sum, bf_all, bf_any, c_isN, c_notN, c_isB, c_notB, c_eqB, c_neB, c_leS, c_ltS, c_gtS, c_geS, c_inDs, c_notInDs, b_add, b_sub, b_mul, b_fdiv, b_mod, b_pow, b_cat, b_catS, c_eqI, c_neI, c_eqS, c_neS, c_lt, c_le, c_gt, c_ge, bf_abs, bf_lenL, bf_lenK, bf_lenT, bf_lenS, bf_max, bf_min, bf_list, bf_listT, bf_tuple, bf_tupleT, bf_int, tr_bl, slK, slL, e_fmt, fmtR_str, e_fst, fstR_ok, e_tix, e_maxd, maxdR_ok, e_sset, i_rng3', e_isc, e_isx, e_cald, e_mk, mkR_ok, e_fld, fldR_ok, e_mth, mthR_ok, mthX_ok, seq_nx, seq_ret, seq_brk, seq_exc, seq_ite, wh_nx, wh_brk, wh_ret, wh_exc, wh_ite, fin_nx, fin_ret, fin_exc, fin_ite, List.getElem?_cons_succ, List.getElem?_cons_zero, List.set_cons_zero, List.set_cons_succ, List.map_cons, List.map_nil, List.cons_append, List.nil_append, List.replicate_succ, List.replicate_zero, List.length_cons, List.length_nil, if_true, ite_true, if_false, ite_false, Bool.false_eq_true, decide_eq_true_eq, decide_not, Bool.not_eq_true', Bool.not_true, Bool.not_false, Bool.or_true, Bool.true_or, Bool.or_false, Bool.false_or, not_true_eq_false, not_false_eq_true, bne_iff_ne, ne_eq, reduceCtorEq, eq_self, decide_true, decide_false, dInt, dBl, Nat.reduceAdd, Nat.reduceSub, Nat.reduceLeDiff, Nat.zero_add, Int.reduceToNat, f_pieces, hm]
/-! rows laid as texts -/
theorem let_fig : ∀ c ∈ LET, c ∉ FIG := by decide +kernel
theorem let_no : ∀ c ∈ LET, c ≠ 40 ∧ c ≠ 41 ∧ c ≠ 32 := by decide +kernel
theorem fig_no : ∀ c ∈ FIG, c ≠ 40 ∧ c ≠ 41 ∧ c ≠ 32 := by decide +kernel
theorem sig_no : ∀ c ∈ SIG, c ∉ LET ∧ c ∉ FIG ∧ c ≠ 32 := by decide +kernel
theorem sp_no : (32 : Nat) ∉ LET ∧ (32 : Nat) ∉ FIG ∧ (32 : Nat) ≠ 40 ∧ (32 : Nat) ≠ 41 ∧ (0 : Nat) ∉ LET ∧ (0 : Nat) ∉ FIG := by decide +kernel
theorem ang_no : (60 : Nat) ∉ LET ∧ (60 : Nat) ∉ FIG ∧ (60 : Nat) ∉ SIG ∧ (62 : Nat) ∉ LET ∧ (62 : Nat) ∉ FIG ∧ (62 : Nat) ∉ SIG ∧ (60 : Nat) ∈ ANG ∧ (62 : Nat) ∈ ANG ∧ (61 : Nat) ∉ FIG := by decide +kernel
theorem ang_is : ∀ c ∈ ANG, c = 60 ∨ c = 62 := by decide +kernel
theorem sig_par : ∀ c ∈ SIG, c = 40 ∨ c = 41 ∨ (c ≠ 40 ∧ c ≠ 41) := fun c _ => by omega
def isW (p : List Nat) : Prop := ∃ c r, p = c :: r ∧ c ∈ LET ∧ ∀ x ∈ r, x ∈ LET ++ FIG
def isN (p : List Nat) : Prop := p ≠ [] ∧ ∀ x ∈ p, x ∈ FIG
def isS (p : List Nat) : Prop := (∃ c, c ∈ SIG ∧ p = [c]) ∨ p = [60, 61] ∨ p = [62, 61]
def isA (p : List Nat) : Prop := ∃ c, p = [c] ∧ c ∉ LET ∧ c ∉ FIG ∧ c ∉ SIG ∧ c ≠ 32
def Good (p : List Nat) : Prop := (isW p ∧ p.length ≤ 12) ∨ isN p ∨ isS p
def PcOk (p : List Nat) : Prop := Good p ∨ isA p
def hd (p : List Nat) : Nat := p.headD 0
def parted (last p : List Nat) : Bool := if last = [] then false else if hd last ∈ LET then decide (hd p ∈ LET) || decide (hd p ∈ FIG) else if hd last ∈ FIG then decide (hd p ∈ FIG) else decide (last = [60]) || decide (last = [62])
abbrev rep (n : Nat) : List Nat := List.replicate n 32
def flat : List (Nat × List Nat) → List Nat
  | [] => []
  | q :: gs => rep q.1 ++ (q.2 ++ flat gs)
def chain : List Nat → List (Nat × List Nat) → Prop
  | _, [] => True
  | last, q :: gs => (parted last q.2 = true → 1 ≤ q.1) ∧ chain q.2 gs
theorem pc_ne {p : List Nat} (h : PcOk p) : p ≠ [] := by
  rcases h with (⟨⟨c, r, rfl, _⟩, _⟩ | h | ⟨c, _, rfl⟩ | rfl | rfl) | ⟨c, rfl, _⟩
  · exact List.cons_ne_nil _ _
  · exact h.1
  all_goals exact List.cons_ne_nil _ _
theorem isW_hd {p : List Nat} (h : isW p) : hd p ∈ LET := by obtain ⟨c, r, rfl, h1, _⟩ := h; exact h1
theorem isN_hd {p : List Nat} (h : isN p) : hd p ∈ FIG := by
  obtain ⟨h1, h2⟩ := h
  cases p with
  | nil => exact absurd rfl h1
  | cons c r => exact h2 c List.mem_cons_self
theorem isW_all {p : List Nat} (h : isW p) : ∀ x ∈ p, x ∈ LET ++ FIG := by
  obtain ⟨c, r, rfl, h1, h2⟩ := h
  intro x hx
  rcases List.mem_cons.mp hx with z | z
  · rw [z]; exact List.mem_append_left _ h1
  · exact h2 x z
theorem tw_all {f : Nat → Bool} : ∀ {p X : List Nat}, (∀ x ∈ p, f x = true) → (∀ c, X.head? = some c → f c = false) → (p ++ X).takeWhile f = p
  | [], [], _, _ => rfl
  | [], c :: X, _, h => by rw [List.nil_append, List.takeWhile_cons_of_neg (by rw [h c rfl]; exact Bool.false_ne_true)]
  | c :: p, X, h, k => by rw [List.cons_append, List.takeWhile_cons_of_pos (h c List.mem_cons_self), tw_all (fun x hx => h x (List.mem_cons_of_mem _ hx)) k]
def stops (p X : List Nat) : Prop := (isW p → ∀ c, X.head? = some c → c ∉ LET ∧ c ∉ FIG) ∧ (isN p → ∀ c, X.head? = some c → c ∉ FIG)
theorem pieceAt_good {p X : List Nat} (h : Good p) (k : stops p X) : pieceAt (p ++ X) = some p := by
  rcases h with ⟨h, _⟩ | h | ⟨c, hc, rfl⟩ | rfl | rfl
  · have ha := isW_all h
    have hk := k.1 h
    obtain ⟨c, r, rfl, h1, _⟩ := h
    rw [List.cons_append, pieceAt_cons, if_pos h1]
    have := tw_all (f := fun x => decide (x ∈ LET ++ FIG)) (p := c :: r) (X := X) (fun x hx => decide_eq_true (ha x hx)) (fun d hd => decide_eq_false fun z => (List.mem_append.mp z).elim (hk d hd).1 (hk d hd).2)
    rw [List.cons_append] at this
    rw [this]
  · have hk := k.2 h
    have hh := isN_hd h
    obtain ⟨h1, h2⟩ := h
    cases p with
    | nil => exact absurd rfl h1
    | cons c r =>
      have hc : c ∈ FIG := h2 c List.mem_cons_self
      have hn : c ∉ LET := fun z => let_fig c z hc
      rw [List.cons_append, pieceAt_cons, if_neg hn, if_pos hc]
      have := tw_all (f := fun x => decide (x ∈ FIG)) (p := c :: r) (X := X) (fun x hx => decide_eq_true (h2 x hx)) (fun d hd => decide_eq_false (hk d hd))
      rw [List.cons_append] at this
      rw [this]
  · obtain ⟨n1, n2, _⟩ := sig_no c hc
    rw [List.cons_append, pieceAt_cons, if_neg n1, if_neg n2, if_pos hc]
  · obtain ⟨n1, n2, n3, _, _, _, n7, _⟩ := ang_no
    show pieceAt (60 :: 61 :: X) = _
    rw [pieceAt_cons, if_neg n1, if_neg n2, if_neg n3, if_pos ⟨n7, rfl⟩]
  · obtain ⟨_, _, _, n1, n2, n3, _, n7, _⟩ := ang_no
    show pieceAt (62 :: 61 :: X) = _
    rw [pieceAt_cons, if_neg n1, if_neg n2, if_neg n3, if_pos ⟨n7, rfl⟩]
theorem rep_head {e c : Nat} (h : (rep e).head? = some c) : c = 32 := by
  cases e with
  | zero => cases h
  | succ e => cases h; rfl
theorem hd_head {p X : List Nat} {c : Nat} (h : p ≠ []) (k : (p ++ X).head? = some c) : c = hd p := by
  cases p with
  | nil => exact absurd rfl h
  | cons a r => cases k; rfl
/-- what stands behind a piece -/
theorem next_head {p : List Nat} {gs : List (Nat × List Nat)} {e c : Nat} (hp : ∀ q ∈ gs, PcOk q.2) (hc : chain p gs) (h : (flat gs ++ rep e).head? = some c) : c = 32 ∨ ∃ q, q ∈ gs ∧ c = hd q.2 ∧ parted p q.2 = false := by
  cases gs with
  | nil => exact .inl (rep_head h)
  | cons q gs =>
    obtain ⟨g, w⟩ := q
    rw [flat] at h
    cases g with
    | zero =>
      refine .inr ⟨_, List.mem_cons_self, ?_, ?_⟩
      · rw [show rep 0 ++ (w ++ flat gs) = w ++ flat gs from rfl, List.append_assoc] at h
        exact hd_head (pc_ne (hp _ List.mem_cons_self)) h
      · cases e : parted p w with
        | false => rfl
        | true => exact absurd (hc.1 e) (Nat.not_succ_le_zero _)
    | succ g => cases h; exact .inl rfl
theorem stops_lay {p : List Nat} {gs : List (Nat × List Nat)} {e : Nat} (hp : ∀ q ∈ gs, PcOk q.2) (hc : chain p gs) : stops p (flat gs ++ rep e) := by
  refine ⟨fun w c h => ?_, fun w c h => ?_⟩
  · rcases next_head hp hc h with rfl | ⟨q, _, rfl, hq⟩
    · exact ⟨sp_no.1, sp_no.2.1⟩
    · have h1 := isW_hd w
      obtain ⟨a, r, rfl, _⟩ := w
      unfold parted at hq
      rw [if_neg (List.cons_ne_nil _ _), if_pos h1, Bool.or_eq_false_iff] at hq
      exact ⟨of_decide_eq_false hq.1, of_decide_eq_false hq.2⟩
  · rcases next_head hp hc h with rfl | ⟨q, _, rfl, hq⟩
    · exact sp_no.2.1
    · have h1 := isN_hd w
      unfold parted at hq
      rw [if_neg w.1, if_neg (fun z => let_fig _ z h1), if_pos h1] at hq
      exact of_decide_eq_false hq
/-! its pieces -/
theorem toks_sp : ∀ (g : Nat) (X : List Nat) (n : Nat), g + X.length ≤ n → ∃ m, X.length ≤ m ∧ toks n (rep g ++ X) = toks m X
  | 0, X, n, h => ⟨n, by omega, rfl⟩
  | g + 1, X, 0, h => by omega
  | g + 1, X, n + 1, h => by
    obtain ⟨m, h1, h2⟩ := toks_sp g X n (by omega)
    refine ⟨m, h1, ?_⟩
    rw [show rep (g + 1) ++ X = 32 :: (rep g ++ X) from rfl, toks, if_pos rfl, h2]
theorem toks_pc {p X : List Nat} {n : Nat} (h : pieceAt (p ++ X) = some p) (hp : p ≠ []) (h32 : hd p ≠ 32) (hn : (p ++ X).length ≤ n) : ∃ m, X.length ≤ m ∧ toks n (p ++ X) = (toks m X).map (p :: ·) := by
  cases p with
  | nil => exact absurd rfl hp
  | cons c r =>
    cases n with
    | zero => rw [List.cons_append, List.length_cons] at hn; omega
    | succ n =>
      rw [List.length_append, List.length_cons] at hn
      refine ⟨n, by omega, ?_⟩
      rw [List.cons_append] at h ⊢
      rw [toks, if_neg (show ¬ c = 32 from h32), h]
      dsimp only
      congr 2
      rw [← List.cons_append, List.drop_left]
theorem good_hd {p : List Nat} (h : Good p) : hd p ≠ 32 := by
  rcases h with ⟨h, _⟩ | h | ⟨c, hc, rfl⟩ | rfl | rfl
  · exact (let_no _ (isW_hd h)).2.2
  · exact (fig_no _ (isN_hd h)).2.2
  · exact (sig_no c hc).2.2
  · decide
  · decide
theorem toks_lay : ∀ (gs : List (Nat × List Nat)) (last : List Nat) (e n : Nat), (∀ q ∈ gs, Good q.2) → chain last gs → (flat gs ++ rep e).length ≤ n → toks n (flat gs ++ rep e) = some (gs.map (·.2))
  | [], last, e, n, _, _, hn => by
    obtain ⟨m, _, h2⟩ := toks_sp e [] n (by rw [flat, List.nil_append, List.length_replicate] at hn; simpa using hn)
    rw [List.append_nil] at h2
    rw [flat, List.nil_append, h2]
    cases m <;> rfl
  | (g, p) :: gs, last, e, n, hp, hc, hn => by
    have hp' : ∀ q ∈ gs, Good q.2 := fun q hq => hp q (List.mem_cons_of_mem _ hq)
    have gp := hp (g, p) List.mem_cons_self
    rw [flat, List.append_assoc, List.append_assoc] at hn ⊢
    obtain ⟨m, m1, m2⟩ := toks_sp g (p ++ (flat gs ++ rep e)) n (by rw [List.length_append, List.length_replicate] at hn; exact hn)
    obtain ⟨k, k1, k2⟩ := toks_pc (pieceAt_good gp (stops_lay (fun q hq => .inl (hp' q hq)) hc.2)) (pc_ne (.inl gp)) (good_hd gp) m1
    rw [m2, k2, toks_lay gs p e k hp' hc.2 k1]
    rfl
theorem toks_alien : ∀ (gs : List (Nat × List Nat)) (last : List Nat) (g : Nat) (a : List Nat) (gs2 : List (Nat × List Nat)) (e n : Nat), (∀ q ∈ gs, Good q.2) → isA a → (∀ q ∈ gs2, PcOk q.2) → chain last (gs ++ (g, a) :: gs2) → (flat (gs ++ (g, a) :: gs2) ++ rep e).length ≤ n → toks n (flat (gs ++ (g, a) :: gs2) ++ rep e) = none
  | [], last, g, a, gs2, e, n, _, ha, h2, hc, hn => by
    rw [List.nil_append, flat, List.append_assoc, List.append_assoc] at hn ⊢
    obtain ⟨m, m1, m2⟩ := toks_sp g (a ++ (flat gs2 ++ rep e)) n (by rw [List.length_append, List.length_replicate] at hn; exact hn)
    rw [m2]
    obtain ⟨c, rfl, n1, n2, n3, n4⟩ := ha
    have hcc : chain [c] gs2 := hc.2
    cases m with
    | zero => rw [List.length_append] at m1; have : ([c] : List Nat).length = 1 := rfl; omega
    | succ m =>
      have hpa : pieceAt (c :: (flat gs2 ++ rep e)) = none := by
        rw [pieceAt_cons, if_neg n1, if_neg n2, if_neg n3, if_neg]
        rintro ⟨h1, h3⟩
        rcases next_head h2 hcc h3 with z | ⟨q, _, z, hq⟩
        · cases z
        · unfold parted at hq
          rw [if_neg (List.cons_ne_nil _ _), if_neg (by exact n1), if_neg (by exact n2), Bool.or_eq_false_iff] at hq
          rcases ang_is c h1 with rfl | rfl
          · exact absurd rfl (of_decide_eq_false hq.1)
          · exact absurd rfl (of_decide_eq_false hq.2)
      show toks (m + 1) (c :: (flat gs2 ++ rep e)) = none
      rw [toks, if_neg n4, hpa]
  | (g0, p) :: gs, last, g, a, gs2, e, n, hp, ha, h2, hc, hn => by
    have hp' : ∀ q ∈ gs, Good q.2 := fun q hq => hp q (List.mem_cons_of_mem _ hq)
    have gp := hp (g0, p) List.mem_cons_self
    rw [List.cons_append] at hc hn ⊢
    rw [flat, List.append_assoc, List.append_assoc] at hn ⊢
    obtain ⟨m, m1, m2⟩ := toks_sp g0 (p ++ (flat (gs ++ (g, a) :: gs2) ++ rep e)) n (by rw [List.length_append, List.length_replicate] at hn; exact hn)
    have hall : ∀ q ∈ gs ++ (g, a) :: gs2, PcOk q.2 := fun q hq => by
      rcases List.mem_append.mp hq with z | z
      · exact .inl (hp' q z)
      · rcases List.mem_cons.mp z with z | z
        · rw [z]; exact .inr ha
        · exact h2 q z
    obtain ⟨k, k1, k2⟩ := toks_pc (pieceAt_good gp (stops_lay hall hc.2)) (pc_ne (.inl gp)) (good_hd gp) m1
    rw [m2, k2, toks_alien gs p g a gs2 e k hp' ha h2 hc.2 k1]
    rfl
/-! its measure -/
def dnext (p : List Nat) (d : Int) : Int := if p = [41] then (if p = [40] then d + 1 else d) - 1 else if p = [40] then d + 1 else d
def tlong : List (List Nat) → Int → Bool
  | [], _ => false
  | p :: ps, d => if 16 < dnext p d ∨ 60 < p.length then true else tlong ps (dnext p d)
theorem meas_step {c : Nat} {X : List Nat} {f d : Int} (h1 : c ∉ FIG) (h2 : c ≠ 40) (h3 : c ≠ 41) (hd : d ≤ 16) : meas (c :: X) f d = meas X 0 d := by
  rw [meas, if_neg h1, if_neg h2, if_neg h3, if_neg (by omega)]
theorem meas_figs {X : List Nat} {d : Int} (hd : d ≤ 16) : ∀ (p : List Nat) (f : Int), (∀ x ∈ p, x ∈ FIG) → f ≤ 60 → meas (p ++ X) f d = if f + p.length ≤ 60 then meas X (f + p.length) d else none
  | [], f, _, hf => by
    show meas X f d = if f + (0 : Nat) ≤ 60 then meas X (f + (0 : Nat)) d else none
    rw [if_pos (by omega)]; congr 1; omega
  | c :: p, f, h, hf => by
    obtain ⟨n1, n2, _⟩ := fig_no c (h c List.mem_cons_self)
    rw [List.cons_append, meas, if_pos (h c List.mem_cons_self), if_neg n1, if_neg n2, List.length_cons]
    by_cases q : 60 < f + 1
    · rw [if_pos (.inl q), if_neg (by omega)]
    · rw [if_neg (by omega), meas_figs hd p (f + 1) (fun x hx => h x (List.mem_cons_of_mem _ hx)) (by omega), show f + 1 + (p.length : Int) = f + ((p.length + 1 : Nat) : Int) by omega]
theorem meas_aln {X : List Nat} {d : Int} (hd : d ≤ 16) : ∀ (p : List Nat) (f : Int), (∀ x ∈ p, x ∈ LET ++ FIG) → 0 ≤ f → f + p.length ≤ 60 → ∃ f' : Int, 0 ≤ f' ∧ f' ≤ f + p.length ∧ meas (p ++ X) f d = meas X f' d
  | [], f, _, h0, h1 => ⟨f, h0, by show f ≤ f + (0 : Nat); omega, rfl⟩
  | c :: p, f, h, h0, h1 => by
    rw [List.length_cons] at h1 ⊢
    have hp : ∀ x ∈ p, x ∈ LET ++ FIG := fun x hx => h x (List.mem_cons_of_mem _ hx)
    rcases List.mem_append.mp (h c List.mem_cons_self) with z | z
    · obtain ⟨n1, n2, _⟩ := let_no c z
      obtain ⟨f', a1, a2, a3⟩ := meas_aln (X := X) hd p 0 hp (Int.le_refl _) (by omega)
      exact ⟨f', a1, by omega, by rw [List.cons_append, meas_step (let_fig c z) n1 n2 hd, a3]⟩
    · obtain ⟨n1, n2, _⟩ := fig_no c z
      obtain ⟨f', a1, a2, a3⟩ := meas_aln (X := X) hd p (f + 1) hp (by omega) (by omega)
      refine ⟨f', a1, by omega, ?_⟩
      rw [List.cons_append, meas, if_pos z, if_neg n1, if_neg n2, if_neg (by omega), a3]
theorem meas_sp {X : List Nat} {d : Int} (hd : d ≤ 16) : ∀ (g : Nat) (f : Int), meas (rep g ++ X) f d = meas X (if g = 0 then f else 0) d
  | 0, f => rfl
  | g + 1, f => by
    rw [show rep (g + 1) ++ X = 32 :: (rep g ++ X) from rfl, meas_step sp_no.2.1 sp_no.2.2.1 sp_no.2.2.2.1 hd, meas_sp hd g 0, if_neg (Nat.succ_ne_zero g)]
    split <;> rfl
theorem dnext_len {p : List Nat} {d : Int} (h : p.length ≠ 1) : dnext p d = d := by
  unfold dnext
  rw [if_neg (fun e => h (by rw [e]; rfl)), if_neg (fun e => h (by rw [e]; rfl))]
theorem dnext_one (c : Nat) (d : Int) : dnext [c] d = if c = 41 then (if c = 40 then d + 1 else d) - 1 else if c = 40 then d + 1 else d := by
  have e1 : ([c] = [40]) = (c = 40) := propext ⟨fun h => (List.cons.inj h).1, fun h => by rw [h]⟩
  have e2 : ([c] = [41]) = (c = 41) := propext ⟨fun h => (List.cons.inj h).1, fun h => by rw [h]⟩
  unfold dnext
  simp only [e1, e2]
theorem meas_one {c : Nat} {X : List Nat} {f d : Int} (h : c ∉ FIG) : meas ([c] ++ X) f d = if 16 < dnext [c] d then none else meas X 0 (dnext [c] d) := by
  show meas (c :: X) f d = _
  rw [dnext_one, meas, if_neg h]
  by_cases q : 16 < (if c = 41 then (if c = 40 then d + 1 else d) - 1 else if c = 40 then d + 1 else d)
  · rw [if_pos (.inr q), if_pos q]
  · rw [if_neg (fun z => z.elim (fun z => absurd z (by decide)) q), if_neg q]
theorem aln_no {c : Nat} (h : c ∈ LET ++ FIG) (d : Int) : dnext [c] d = d := by
  rw [dnext_one]
  rcases List.mem_append.mp h with z | z
  · obtain ⟨n1, n2, _⟩ := let_no c z
    rw [if_neg n2, if_neg n1]
  · obtain ⟨n1, n2, _⟩ := fig_no c z
    rw [if_neg n2, if_neg n1]
theorem dnext_aln {p : List Nat} (h : ∀ x ∈ p, x ∈ LET ++ FIG) (d : Int) : dnext p d = d := by
  cases p with
  | nil => exact dnext_len (by decide)
  | cons c r =>
    cases r with
    | nil => exact aln_no (h c List.mem_cons_self) d
    | cons _ _ => exact dnext_len (by rw [List.length_cons, List.length_cons]; omega)
theorem meas_lay : ∀ (gs : List (Nat × List Nat)) (last : List Nat) (f d : Int) (e : Nat), (∀ q ∈ gs, PcOk q.2) → chain last gs → d ≤ 16 → 0 ≤ f → f ≤ 60 → ((hd last ∈ LET ∨ hd last ∈ FIG) ∨ f = 0) → (meas (flat gs ++ rep e) f d = none ↔ tlong (gs.map (·.2)) d = true)
  | [], last, f, d, e, _, _, hd, h0, h1, _ => by
    have := meas_sp (X := []) hd e f
    rw [List.append_nil] at this
    rw [flat, List.nil_append, this]
    constructor
    · intro h; cases h
    · intro h; cases h
  | (g, p) :: gs, last, f, d, e, hp, hc, hdd, h0, h1, hf => by
    have hp' : ∀ q ∈ gs, PcOk q.2 := fun q hq => hp q (List.mem_cons_of_mem _ hq)
    have gp := hp (g, p) List.mem_cons_self
    rw [flat, List.append_assoc, List.append_assoc, meas_sp hdd, List.map_cons, tlong]
    show _ ↔ (if 16 < dnext p d ∨ 60 < p.length then true else tlong (gs.map (·.2)) (dnext p d)) = true
    obtain ⟨f1, hf1⟩ : ∃ f1 : Int, (if g = 0 then f else 0) = f1 := ⟨_, rfl⟩
    have f10 : 0 ≤ f1 ∧ f1 ≤ 60 := by rw [← hf1]; split <;> omega
    rw [hf1]
    rcases gp with (⟨h, hl⟩ | h | h) | h
    · have hl : p.length ≤ 12 := hl
      have ha := isW_all h
      have hh := isW_hd h
      rw [dnext_aln ha, if_neg (by omega)]
      obtain ⟨c, r, rfl, c1, c2⟩ := h
      obtain ⟨n1, n2, _⟩ := let_no c c1
      rw [List.length_cons] at hl
      obtain ⟨f', a1, a2, a3⟩ := meas_aln (X := flat gs ++ rep e) hdd r 0 c2 (Int.le_refl _) (by omega)
      rw [List.cons_append, meas_step (let_fig c c1) n1 n2 hdd, a3]
      exact meas_lay gs (c :: r) f' d e hp' hc.2 hdd a1 (by omega) (.inl (.inl c1))
    · have hh := isN_hd h
      have f1z : f1 = 0 := by
        by_cases g0 : g = 0
        · rw [if_pos g0] at hf1
          rcases hf with hf | hf
          · exfalso
            have hpt : parted last p = true := by
              have hl : last ≠ [] := fun z => by
                rw [z] at hf
                rcases hf with hf | hf
                · exact sp_no.2.2.2.2.1 hf
                · exact sp_no.2.2.2.2.2 hf
              unfold parted
              rw [if_neg hl]
              rcases hf with hf | hf
              · rw [if_pos hf, decide_eq_true hh, Bool.or_true]
              · rw [if_neg (fun z => let_fig _ z hf), if_pos hf, decide_eq_true hh]
            have := hc.1 hpt
            rw [g0] at this
            exact Nat.not_succ_le_zero _ this
          · rw [← hf1, hf]
        · rw [if_neg g0] at hf1; exact hf1.symm
      subst f1z
      rw [dnext_aln (fun x hx => List.mem_append_right _ (h.2 x hx)), meas_figs hdd p 0 h.2 (by omega)]
      by_cases q : p.length ≤ 60
      · rw [if_pos (by omega), if_neg (by omega)]
        exact meas_lay gs p _ d e hp' hc.2 hdd (by omega) (by omega) (.inl (.inr hh))
      · rw [if_neg (by omega), if_pos (by omega)]
        exact ⟨fun _ => rfl, fun _ => rfl⟩
    · rcases h with ⟨c, hcs, rfl⟩ | rfl | rfl
      · rw [meas_one (sig_no c hcs).2.1]
        have hl : ¬ 60 < ([c] : List Nat).length := by show ¬ 60 < 1; decide
        by_cases q : 16 < dnext [c] d
        · rw [if_pos q, if_pos (.inl q)]
          exact ⟨fun _ => rfl, fun _ => rfl⟩
        · rw [if_neg q, if_neg (fun z => z.elim q hl)]
          exact meas_lay gs [c] 0 _ e hp' hc.2 (by omega) (Int.le_refl _) (by omega) (.inr rfl)
      · rw [dnext_len (by decide), if_neg (fun z => z.elim (fun z => by omega) (fun z => absurd z (by decide)))]
        show meas (60 :: 61 :: (flat gs ++ rep e)) f1 d = none ↔ _
        rw [meas_step ang_no.2.1 (by decide) (by decide) hdd, meas_step ang_no.2.2.2.2.2.2.2.2 (by decide) (by decide) hdd]
        exact meas_lay gs [60, 61] 0 d e hp' hc.2 hdd (Int.le_refl _) (by omega) (.inr rfl)
      · rw [dnext_len (by decide), if_neg (fun z => z.elim (fun z => by omega) (fun z => absurd z (by decide)))]
        show meas (62 :: 61 :: (flat gs ++ rep e)) f1 d = none ↔ _
        rw [meas_step ang_no.2.2.2.2.1 (by decide) (by decide) hdd, meas_step ang_no.2.2.2.2.2.2.2.2 (by decide) (by decide) hdd]
        exact meas_lay gs [62, 61] 0 d e hp' hc.2 hdd (Int.le_refl _) (by omega) (.inr rfl)
    · obtain ⟨c, rfl, n1, n2, n3, n4⟩ := h
      rw [meas_one n2]
      have hl : ¬ 60 < ([c] : List Nat).length := by show ¬ 60 < 1; decide
      by_cases q : 16 < dnext [c] d
      · rw [if_pos q, if_pos (.inl q)]
        exact ⟨fun _ => rfl, fun _ => rfl⟩
      · rw [if_neg q, if_neg (fun z => z.elim q hl)]
        exact meas_lay gs [c] 0 _ e hp' hc.2 (by omega) (Int.le_refl _) (by omega) (.inr rfl)
theorem mix_in {n : Nat} (hn : 1 ≤ n) (cell : Int) (k : Nat) (many : Int) (hk : k < 10) (hm : 0 < many) : ∃ i : Int, run I fs n "_law_mix" [.int cell, .int k, .int many] = dInt i ∧ 0 ≤ i ∧ i < many := by
  obtain ⟨m, rfl⟩ := dpos hn
  rw [e_law_mix _ _ rfl]
  have key : ∃ v : Int, ixD (.lst [.int 271828183, .int 314159269, .int 161803399, .int 141421357, .int 173205081, .int 223606797, .int 244948975, .int 264575131, .int 331662479, .int 360555127]) (.int k) = .ok (.int v, false) ∧ -18446744073709551616 < v ∧ v < 18446744073709551616 := by
    have : k = 0 ∨ k = 1 ∨ k = 2 ∨ k = 3 ∨ k = 4 ∨ k = 5 ∨ k = 6 ∨ k = 7 ∨ k = 8 ∨ k = 9 := by omega
    rcases this with rfl | rfl | rfl | rfl | rfl | rfl | rfl | rfl | rfl | rfl <;> exact ⟨_, rfl, by decide, by decide⟩
  obtain ⟨v, h1, h2, h3⟩ := key
  have m1 : DL.MulOk (cell + 1) v := mul_okR h2 h3
  have n7 : ¬ (1000000007 : Int) = 0 := by decide
  have hm' : ¬ many = 0 := by omega
  have b := mod_bd (i := ((cell + 1) * v).fmod 1000000007) (n := many) hm
  refine ⟨(((cell + 1) * v).fmod 1000000007).fmod many, ?_, b.1, b.2⟩
  simp only [ss_nil, ss_cons, s_setF, setF_ok, s_setT, setT_ok, s_unp, unp_two, unp_three, s_exp, expR_ok, expR_exc, s_app, appA_own, s_ext, extA_own, s_put, putA_str, putA_int, s_try1, tryO_nx, tryO_ret, s_tryK, tryKO_nx, tryKO_ret, s_pop2, pop2A_str, s_pop1, popN_none, popN_some, s_upd, updA_dct, s_ret, retR_ok, s_retv, rvR_own, s_retN, s_ite, iteR_ok, s_whl, whT_ok, s_fr, frR_ok, s_brk, s_pas, s_rai, s_frz, e_var, var_val, e_lit, e_bin, bin2_ok, e_neg, negR_int, e_not, notR_bl, e_and, andR_bl, e_or, orR_bl, e_cmp, cmp2_ok, e_chn, chnR_bl, e_tup, e_lst, tup0, tup1, tup2, tup3, tup4, lst0, lst1, lst2, lst3, lst4, lst5, e_idx, idx2_ok, e_slc, slc3_ok, e_call, calR_ok, e_bf, bfR_ok, e_isi, isiR_int, isiR_bl, isiR_str, isiR_tup, isiR_lst, isiR_non, e_lent, lentR_ok, lentOk_int, lentOk_dct, lentOk_bl, lentOk_str, lentOk_non, e_comp, compR_ok, lstT_ok, blR_bl, t_and', andB_ok, t_or', orB_ok, t_not', notB_ok, t_cmp', t_chn', t_lent', t_v', truR_ok, t_yes', es_nil, es_cons, consR_ok, p_no, p_at, inR_int, i_seq', itsR_lst, itsR_tup, itsR_kl, i_rng1', i_rng2', thaw_nil, thaw_cons, thaw1_at, thawA_own, thawA_val, thawA_no, wipe_nil, wipe_cons, e_dnew, e_dnewN, s_clr, clrA_own, e_get1, e_get2, get1R_str, get2R_str, get2R_int, e_join, joinR_lst, e_lok, lokR_dct, lokR_lst, i_enum', i_zip', i_items', i_rev', enumR_lst, enumR_kl, enumR_dct, zipR_lst, zipR_tup, itemsR_dct, revR_lst, itsR_dct, s_frzL, thawL_at, thawB_own, thawB_val, thawB_no, bf_listD, bf_lenD, bf_dict, bf_sum, bf_all, bf_any, c_isN, c_notN, c_isB, c_notB, c_eqB, c_neB, c_leS, c_ltS, c_gtS, c_geS, c_inDs, c_notInDs, b_add, b_sub, b_mul, b_fdiv, b_mod, b_pow, b_cat, b_catS, c_eqI, c_neI, c_eqS, c_neS, c_lt, c_le, c_gt, c_ge, bf_abs, bf_lenL, bf_lenK, bf_lenT, bf_lenS, bf_max, bf_min, bf_list, bf_listT, bf_tuple, bf_tupleT, bf_int, tr_bl, slK, slL, e_fmt, fmtR_str, e_fst, fstR_ok, e_tix, e_maxd, maxdR_ok, e_sset, i_rng3', e_isc, e_isx, e_cald, e_mk, mkR_ok, e_fld, fldR_ok, e_mth, mthR_ok, mthX_ok, seq_nx, seq_ret, seq_brk, seq_exc, seq_ite, wh_nx, wh_brk, wh_ret, wh_exc, wh_ite, fin_nx, fin_ret, fin_exc, fin_ite, List.getElem?_cons_succ, List.getElem?_cons_zero, List.set_cons_zero, List.set_cons_succ, List.map_cons, List.map_nil, List.cons_append, List.nil_append, List.replicate_succ, List.replicate_zero, List.length_cons, List.length_nil, if_true, ite_true, if_false, ite_false, Bool.false_eq_true, decide_eq_true_eq, decide_not, Bool.not_eq_true', Bool.not_true, Bool.not_false, Bool.or_true, Bool.true_or, Bool.or_false, Bool.false_or, not_true_eq_false, not_false_eq_true, bne_iff_ne, ne_eq, reduceCtorEq, eq_self, decide_true, decide_false, dInt, dBl, Nat.reduceAdd, Nat.reduceSub, Nat.reduceLeDiff, Nat.zero_add, Int.reduceToNat, f_law_mix, LIMv, h1, m1, n7, hm']
/-! the pieces' law -/
theorem cat_tx {a b : List Nat} (h : a.length + b.length ≤ 16777216) : binD .add (.str (tx a)) (.str (tx b)) = .ok (.str (tx (a ++ b)), false) := by
  rw [b_catS, if_pos (by rw [tx_len, tx_len]; exact h), tx_app]
theorem em_def : tx [] = "" := by decide +kernel
theorem tx_at {l : List Nat} {i : Int} (h0 : 0 ≤ i) (h1 : i < (l.length : Nat)) : ∃ c, c ∈ l ∧ ixD (.str (tx l)) (.int i) = .ok (.str (tx [c]), false) := by
  have hk : i.toNat < l.length := by omega
  refine ⟨l[i.toNat], List.getElem_mem hk, ?_⟩
  have := tx_ix hk
  rwa [Int.toNat_of_nonneg h0] at this
theorem hd_ix {p : List Nat} (h : p ≠ []) : ixD (.str (tx p)) (.int 0) = .ok (.str (tx [hd p]), false) := by
  cases p with
  | nil => exact absurd rfl h
  | cons c r => exact tx_ix (l := c :: r) (k := 0) (Nat.zero_lt_succ _)
theorem parted_ok {n : Nat} (hn : 1 ≤ n) (last p : List Nat) (hp : p ≠ []) : run I fs n "_law_parted" [.str (tx last), .str (tx p)] = dBl (parted last p) := by
  obtain ⟨m, rfl⟩ := dpos hn
  rw [e_law_parted _ _ rfl]
  have ie := c_eqT last []
  rw [em_def] at ie
  have x2 := hd_ix hp
  have p1 := c_inS (hd p) LET
  have p2 := c_inS (hd p) FIG
  rw [let_def] at p1
  rw [fig_def] at p2
  unfold parted
  by_cases h0 : last = []
  · rw [if_pos h0]
    have h0 := eq_true h0
    simp only [ss_nil, ss_cons, s_setF, setF_ok, s_setT, setT_ok, s_unp, unp_two, unp_three, s_exp, expR_ok, expR_exc, s_app, appA_own, s_ext, extA_own, s_put, putA_str, putA_int, s_try1, tryO_nx, tryO_ret, s_tryK, tryKO_nx, tryKO_ret, s_pop2, pop2A_str, s_pop1, popN_none, popN_some, s_upd, updA_dct, s_ret, retR_ok, s_retv, rvR_own, s_retN, s_ite, iteR_ok, s_whl, whT_ok, s_fr, frR_ok, s_brk, s_pas, s_rai, s_frz, e_var, var_val, e_lit, e_bin, bin2_ok, e_neg, negR_int, e_not, notR_bl, e_and, andR_bl, e_or, orR_bl, e_cmp, cmp2_ok, e_chn, chnR_bl, e_tup, e_lst, tup0, tup1, tup2, tup3, tup4, lst0, lst1, lst2, lst3, lst4, lst5, e_idx, idx2_ok, e_slc, slc3_ok, e_call, calR_ok, e_bf, bfR_ok, e_isi, isiR_int, isiR_bl, isiR_str, isiR_tup, isiR_lst, isiR_non, e_lent, lentR_ok, lentOk_int, lentOk_dct, lentOk_bl, lentOk_str, lentOk_non, e_comp, compR_ok, lstT_ok, blR_bl, t_and', andB_ok, t_or', orB_ok, t_not', notB_ok, t_cmp', t_chn', t_lent', t_v', truR_ok, t_yes', es_nil, es_cons, consR_ok, p_no, p_at, inR_int, i_seq', itsR_lst, itsR_tup, itsR_kl, i_rng1', i_rng2', thaw_nil, thaw_cons, thaw1_at, thawA_own, thawA_val, thawA_no, wipe_nil, wipe_cons, e_dnew, e_dnewN, s_clr, clrA_own, e_get1, e_get2, get1R_str, get2R_str, get2R_int, e_join, joinR_lst, e_lok, lokR_dct, lokR_lst, i_enum', i_zip', i_items', i_rev', enumR_lst, enumR_kl, enumR_dct, zipR_lst, zipR_tup, itemsR_dct, revR_lst, itsR_dct, s_frzL, thawL_at, thawB_own, thawB_val, thawB_no, bf_listD, bf_lenD, bf_dict, bf_sum, bf_all, bf_any, c_isN, c_notN, c_isB, c_notB, c_eqB, c_neB, c_leS, c_ltS, c_gtS, c_geS, c_inDs, c_notInDs, b_add, b_sub, b_mul, b_fdiv, b_mod, b_pow, b_cat, b_catS, c_eqI, c_neI, c_eqS, c_neS, c_lt, c_le, c_gt, c_ge, bf_abs, bf_lenL, bf_lenK, bf_lenT, bf_lenS, bf_max, bf_min, bf_list, bf_listT, bf_tuple, bf_tupleT, bf_int, tr_bl, slK, slL, e_fmt, fmtR_str, e_fst, fstR_ok, e_tix, e_maxd, maxdR_ok, e_sset, i_rng3', e_isc, e_isx, e_cald, e_mk, mkR_ok, e_fld, fldR_ok, e_mth, mthR_ok, mthX_ok, seq_nx, seq_ret, seq_brk, seq_exc, seq_ite, wh_nx, wh_brk, wh_ret, wh_exc, wh_ite, fin_nx, fin_ret, fin_exc, fin_ite, List.getElem?_cons_succ, List.getElem?_cons_zero, List.set_cons_zero, List.set_cons_succ, List.map_cons, List.map_nil, List.cons_append, List.nil_append, List.replicate_succ, List.replicate_zero, List.length_cons, List.length_nil, if_true, ite_true, if_false, ite_false, Bool.false_eq_true, decide_eq_true_eq, decide_not, Bool.not_eq_true', Bool.not_true, Bool.not_false, Bool.or_true, Bool.true_or, Bool.or_false, Bool.false_or, not_true_eq_false, not_false_eq_true, bne_iff_ne, ne_eq, reduceCtorEq, eq_self, decide_true, decide_false, dInt, dBl, Nat.reduceAdd, Nat.reduceSub, Nat.reduceLeDiff, Nat.zero_add, Int.reduceToNat, f_law_parted, ie, h0]
  · rw [if_neg h0]
    have x1 := hd_ix h0
    have h0 := eq_false h0
    have i1 := c_inS (hd last) LET
    have i2 := c_inS (hd last) FIG
    rw [let_def] at i1
    rw [fig_def] at i2
    by_cases h1 : hd last ∈ LET
    · rw [if_pos h1]
      have h1 := eq_true h1
      by_cases h2 : hd p ∈ LET
      · have h2 := eq_true h2
        simp only [ss_nil, ss_cons, s_setF, setF_ok, s_setT, setT_ok, s_unp, unp_two, unp_three, s_exp, expR_ok, expR_exc, s_app, appA_own, s_ext, extA_own, s_put, putA_str, putA_int, s_try1, tryO_nx, tryO_ret, s_tryK, tryKO_nx, tryKO_ret, s_pop2, pop2A_str, s_pop1, popN_none, popN_some, s_upd, updA_dct, s_ret, retR_ok, s_retv, rvR_own, s_retN, s_ite, iteR_ok, s_whl, whT_ok, s_fr, frR_ok, s_brk, s_pas, s_rai, s_frz, e_var, var_val, e_lit, e_bin, bin2_ok, e_neg, negR_int, e_not, notR_bl, e_and, andR_bl, e_or, orR_bl, e_cmp, cmp2_ok, e_chn, chnR_bl, e_tup, e_lst, tup0, tup1, tup2, tup3, tup4, lst0, lst1, lst2, lst3, lst4, lst5, e_idx, idx2_ok, e_slc, slc3_ok, e_call, calR_ok, e_bf, bfR_ok, e_isi, isiR_int, isiR_bl, isiR_str, isiR_tup, isiR_lst, isiR_non, e_lent, lentR_ok, lentOk_int, lentOk_dct, lentOk_bl, lentOk_str, lentOk_non, e_comp, compR_ok, lstT_ok, blR_bl, t_and', andB_ok, t_or', orB_ok, t_not', notB_ok, t_cmp', t_chn', t_lent', t_v', truR_ok, t_yes', es_nil, es_cons, consR_ok, p_no, p_at, inR_int, i_seq', itsR_lst, itsR_tup, itsR_kl, i_rng1', i_rng2', thaw_nil, thaw_cons, thaw1_at, thawA_own, thawA_val, thawA_no, wipe_nil, wipe_cons, e_dnew, e_dnewN, s_clr, clrA_own, e_get1, e_get2, get1R_str, get2R_str, get2R_int, e_join, joinR_lst, e_lok, lokR_dct, lokR_lst, i_enum', i_zip', i_items', i_rev', enumR_lst, enumR_kl, enumR_dct, zipR_lst, zipR_tup, itemsR_dct, revR_lst, itsR_dct, s_frzL, thawL_at, thawB_own, thawB_val, thawB_no, bf_listD, bf_lenD, bf_dict, bf_sum, bf_all, bf_any, c_isN, c_notN, c_isB, c_notB, c_eqB, c_neB, c_leS, c_ltS, c_gtS, c_geS, c_inDs, c_notInDs, b_add, b_sub, b_mul, b_fdiv, b_mod, b_pow, b_cat, b_catS, c_eqI, c_neI, c_eqS, c_neS, c_lt, c_le, c_gt, c_ge, bf_abs, bf_lenL, bf_lenK, bf_lenT, bf_lenS, bf_max, bf_min, bf_list, bf_listT, bf_tuple, bf_tupleT, bf_int, tr_bl, slK, slL, e_fmt, fmtR_str, e_fst, fstR_ok, e_tix, e_maxd, maxdR_ok, e_sset, i_rng3', e_isc, e_isx, e_cald, e_mk, mkR_ok, e_fld, fldR_ok, e_mth, mthR_ok, mthX_ok, seq_nx, seq_ret, seq_brk, seq_exc, seq_ite, wh_nx, wh_brk, wh_ret, wh_exc, wh_ite, fin_nx, fin_ret, fin_exc, fin_ite, List.getElem?_cons_succ, List.getElem?_cons_zero, List.set_cons_zero, List.set_cons_succ, List.map_cons, List.map_nil, List.cons_append, List.nil_append, List.replicate_succ, List.replicate_zero, List.length_cons, List.length_nil, if_true, ite_true, if_false, ite_false, Bool.false_eq_true, decide_eq_true_eq, decide_not, Bool.not_eq_true', Bool.not_true, Bool.not_false, Bool.or_true, Bool.true_or, Bool.or_false, Bool.false_or, not_true_eq_false, not_false_eq_true, bne_iff_ne, ne_eq, reduceCtorEq, eq_self, decide_true, decide_false, dInt, dBl, Nat.reduceAdd, Nat.reduceSub, Nat.reduceLeDiff, Nat.zero_add, Int.reduceToNat, f_law_parted, ie, h0, x1, i1, h1, x2, p1, h2]
      · have h2 := eq_false h2
        simp only [ss_nil, ss_cons, s_setF, setF_ok, s_setT, setT_ok, s_unp, unp_two, unp_three, s_exp, expR_ok, expR_exc, s_app, appA_own, s_ext, extA_own, s_put, putA_str, putA_int, s_try1, tryO_nx, tryO_ret, s_tryK, tryKO_nx, tryKO_ret, s_pop2, pop2A_str, s_pop1, popN_none, popN_some, s_upd, updA_dct, s_ret, retR_ok, s_retv, rvR_own, s_retN, s_ite, iteR_ok, s_whl, whT_ok, s_fr, frR_ok, s_brk, s_pas, s_rai, s_frz, e_var, var_val, e_lit, e_bin, bin2_ok, e_neg, negR_int, e_not, notR_bl, e_and, andR_bl, e_or, orR_bl, e_cmp, cmp2_ok, e_chn, chnR_bl, e_tup, e_lst, tup0, tup1, tup2, tup3, tup4, lst0, lst1, lst2, lst3, lst4, lst5, e_idx, idx2_ok, e_slc, slc3_ok, e_call, calR_ok, e_bf, bfR_ok, e_isi, isiR_int, isiR_bl, isiR_str, isiR_tup, isiR_lst, isiR_non, e_lent, lentR_ok, lentOk_int, lentOk_dct, lentOk_bl, lentOk_str, lentOk_non, e_comp, compR_ok, lstT_ok, blR_bl, t_and', andB_ok, t_or', orB_ok, t_not', notB_ok, t_cmp', t_chn', t_lent', t_v', truR_ok, t_yes', es_nil, es_cons, consR_ok, p_no, p_at, inR_int, i_seq', itsR_lst, itsR_tup, itsR_kl, i_rng1', i_rng2', thaw_nil, thaw_cons, thaw1_at, thawA_own, thawA_val, thawA_no, wipe_nil, wipe_cons, e_dnew, e_dnewN, s_clr, clrA_own, e_get1, e_get2, get1R_str, get2R_str, get2R_int, e_join, joinR_lst, e_lok, lokR_dct, lokR_lst, i_enum', i_zip', i_items', i_rev', enumR_lst, enumR_kl, enumR_dct, zipR_lst, zipR_tup, itemsR_dct, revR_lst, itsR_dct, s_frzL, thawL_at, thawB_own, thawB_val, thawB_no, bf_listD, bf_lenD, bf_dict, bf_sum, bf_all, bf_any, c_isN, c_notN, c_isB, c_notB, c_eqB, c_neB, c_leS, c_ltS, c_gtS, c_geS, c_inDs, c_notInDs, b_add, b_sub, b_mul, b_fdiv, b_mod, b_pow, b_cat, b_catS, c_eqI, c_neI, c_eqS, c_neS, c_lt, c_le, c_gt, c_ge, bf_abs, bf_lenL, bf_lenK, bf_lenT, bf_lenS, bf_max, bf_min, bf_list, bf_listT, bf_tuple, bf_tupleT, bf_int, tr_bl, slK, slL, e_fmt, fmtR_str, e_fst, fstR_ok, e_tix, e_maxd, maxdR_ok, e_sset, i_rng3', e_isc, e_isx, e_cald, e_mk, mkR_ok, e_fld, fldR_ok, e_mth, mthR_ok, mthX_ok, seq_nx, seq_ret, seq_brk, seq_exc, seq_ite, wh_nx, wh_brk, wh_ret, wh_exc, wh_ite, fin_nx, fin_ret, fin_exc, fin_ite, List.getElem?_cons_succ, List.getElem?_cons_zero, List.set_cons_zero, List.set_cons_succ, List.map_cons, List.map_nil, List.cons_append, List.nil_append, List.replicate_succ, List.replicate_zero, List.length_cons, List.length_nil, if_true, ite_true, if_false, ite_false, Bool.false_eq_true, decide_eq_true_eq, decide_not, Bool.not_eq_true', Bool.not_true, Bool.not_false, Bool.or_true, Bool.true_or, Bool.or_false, Bool.false_or, not_true_eq_false, not_false_eq_true, bne_iff_ne, ne_eq, reduceCtorEq, eq_self, decide_true, decide_false, dInt, dBl, Nat.reduceAdd, Nat.reduceSub, Nat.reduceLeDiff, Nat.zero_add, Int.reduceToNat, f_law_parted, ie, h0, x1, i1, h1, x2, p1, h2, p2]
    · rw [if_neg h1]
      have h1 := eq_false h1
      by_cases h2 : hd last ∈ FIG
      · rw [if_pos h2]
        have h2 := eq_true h2
        simp only [ss_nil, ss_cons, s_setF, setF_ok, s_setT, setT_ok, s_unp, unp_two, unp_three, s_exp, expR_ok, expR_exc, s_app, appA_own, s_ext, extA_own, s_put, putA_str, putA_int, s_try1, tryO_nx, tryO_ret, s_tryK, tryKO_nx, tryKO_ret, s_pop2, pop2A_str, s_pop1, popN_none, popN_some, s_upd, updA_dct, s_ret, retR_ok, s_retv, rvR_own, s_retN, s_ite, iteR_ok, s_whl, whT_ok, s_fr, frR_ok, s_brk, s_pas, s_rai, s_frz, e_var, var_val, e_lit, e_bin, bin2_ok, e_neg, negR_int, e_not, notR_bl, e_and, andR_bl, e_or, orR_bl, e_cmp, cmp2_ok, e_chn, chnR_bl, e_tup, e_lst, tup0, tup1, tup2, tup3, tup4, lst0, lst1, lst2, lst3, lst4, lst5, e_idx, idx2_ok, e_slc, slc3_ok, e_call, calR_ok, e_bf, bfR_ok, e_isi, isiR_int, isiR_bl, isiR_str, isiR_tup, isiR_lst, isiR_non, e_lent, lentR_ok, lentOk_int, lentOk_dct, lentOk_bl, lentOk_str, lentOk_non, e_comp, compR_ok, lstT_ok, blR_bl, t_and', andB_ok, t_or', orB_ok, t_not', notB_ok, t_cmp', t_chn', t_lent', t_v', truR_ok, t_yes', es_nil, es_cons, consR_ok, p_no, p_at, inR_int, i_seq', itsR_lst, itsR_tup, itsR_kl, i_rng1', i_rng2', thaw_nil, thaw_cons, thaw1_at, thawA_own, thawA_val, thawA_no, wipe_nil, wipe_cons, e_dnew, e_dnewN, s_clr, clrA_own, e_get1, e_get2, get1R_str, get2R_str, get2R_int, e_join, joinR_lst, e_lok, lokR_dct, lokR_lst, i_enum', i_zip', i_items', i_rev', enumR_lst, enumR_kl, enumR_dct, zipR_lst, zipR_tup, itemsR_dct, revR_lst, itsR_dct, s_frzL, thawL_at, thawB_own, thawB_val, thawB_no, bf_listD, bf_lenD, bf_dict, bf_sum, bf_all, bf_any, c_isN, c_notN, c_isB, c_notB, c_eqB, c_neB, c_leS, c_ltS, c_gtS, c_geS, c_inDs, c_notInDs, b_add, b_sub, b_mul, b_fdiv, b_mod, b_pow, b_cat, b_catS, c_eqI, c_neI, c_eqS, c_neS, c_lt, c_le, c_gt, c_ge, bf_abs, bf_lenL, bf_lenK, bf_lenT, bf_lenS, bf_max, bf_min, bf_list, bf_listT, bf_tuple, bf_tupleT, bf_int, tr_bl, slK, slL, e_fmt, fmtR_str, e_fst, fstR_ok, e_tix, e_maxd, maxdR_ok, e_sset, i_rng3', e_isc, e_isx, e_cald, e_mk, mkR_ok, e_fld, fldR_ok, e_mth, mthR_ok, mthX_ok, seq_nx, seq_ret, seq_brk, seq_exc, seq_ite, wh_nx, wh_brk, wh_ret, wh_exc, wh_ite, fin_nx, fin_ret, fin_exc, fin_ite, List.getElem?_cons_succ, List.getElem?_cons_zero, List.set_cons_zero, List.set_cons_succ, List.map_cons, List.map_nil, List.cons_append, List.nil_append, List.replicate_succ, List.replicate_zero, List.length_cons, List.length_nil, if_true, ite_true, if_false, ite_false, Bool.false_eq_true, decide_eq_true_eq, decide_not, Bool.not_eq_true', Bool.not_true, Bool.not_false, Bool.or_true, Bool.true_or, Bool.or_false, Bool.false_or, not_true_eq_false, not_false_eq_true, bne_iff_ne, ne_eq, reduceCtorEq, eq_self, decide_true, decide_false, dInt, dBl, Nat.reduceAdd, Nat.reduceSub, Nat.reduceLeDiff, Nat.zero_add, Int.reduceToNat, f_law_parted, ie, h0, x1, i1, h1, i2, h2, x2, p2]
      · rw [if_neg h2]
        have h2 := eq_false h2
        have hin : cmpD .isIn (.str (tx last)) (.tup [.str "<", .str ">"]) = .ok (.bl (decide (last = [60]) || decide (last = [62])), false) := by
          have e1 : tx [60] = ("<" : Str) := by decide +kernel
          have e2 : tx [62] = (">" : Str) := by decide +kernel
          have b : ∀ c : Nat, (tx [c] == tx last) = decide (last = [c]) := fun c => by
            by_cases z : last = [c]
            · rw [z, decide_eq_true rfl]; simp
            · rw [decide_eq_false z, beq_eq_false_iff_ne.mpr fun e => z (tx_inj e).symm]
          have e : inD (.str (tx last)) [.str "<", .str ">"] = (decide (last = [60]) || decide (last = [62])) := by
            rw [← e1, ← e2]
            show ((tx [60] == tx last) || ((tx [62] == tx last) || false)) = _
            rw [b, b, Bool.or_false]
          rw [c_inT rfl, e]
        simp only [ss_nil, ss_cons, s_setF, setF_ok, s_setT, setT_ok, s_unp, unp_two, unp_three, s_exp, expR_ok, expR_exc, s_app, appA_own, s_ext, extA_own, s_put, putA_str, putA_int, s_try1, tryO_nx, tryO_ret, s_tryK, tryKO_nx, tryKO_ret, s_pop2, pop2A_str, s_pop1, popN_none, popN_some, s_upd, updA_dct, s_ret, retR_ok, s_retv, rvR_own, s_retN, s_ite, iteR_ok, s_whl, whT_ok, s_fr, frR_ok, s_brk, s_pas, s_rai, s_frz, e_var, var_val, e_lit, e_bin, bin2_ok, e_neg, negR_int, e_not, notR_bl, e_and, andR_bl, e_or, orR_bl, e_cmp, cmp2_ok, e_chn, chnR_bl, e_tup, e_lst, tup0, tup1, tup2, tup3, tup4, lst0, lst1, lst2, lst3, lst4, lst5, e_idx, idx2_ok, e_slc, slc3_ok, e_call, calR_ok, e_bf, bfR_ok, e_isi, isiR_int, isiR_bl, isiR_str, isiR_tup, isiR_lst, isiR_non, e_lent, lentR_ok, lentOk_int, lentOk_dct, lentOk_bl, lentOk_str, lentOk_non, e_comp, compR_ok, lstT_ok, blR_bl, t_and', andB_ok, t_or', orB_ok, t_not', notB_ok, t_cmp', t_chn', t_lent', t_v', truR_ok, t_yes', es_nil, es_cons, consR_ok, p_no, p_at, inR_int, i_seq', itsR_lst, itsR_tup, itsR_kl, i_rng1', i_rng2', thaw_nil, thaw_cons, thaw1_at, thawA_own, thawA_val, thawA_no, wipe_nil, wipe_cons, e_dnew, e_dnewN, s_clr, clrA_own, e_get1, e_get2, get1R_str, get2R_str, get2R_int, e_join, joinR_lst, e_lok, lokR_dct, lokR_lst, i_enum', i_zip', i_items', i_rev', enumR_lst, enumR_kl, enumR_dct, zipR_lst, zipR_tup, itemsR_dct, revR_lst, itsR_dct, s_frzL, thawL_at, thawB_own, thawB_val, thawB_no, bf_listD, bf_lenD, bf_dict, bf_sum, bf_all, bf_any, c_isN, c_notN, c_isB, c_notB, c_eqB, c_neB, c_leS, c_ltS, c_gtS, c_geS, c_inDs, c_notInDs, b_add, b_sub, b_mul, b_fdiv, b_mod, b_pow, b_cat, b_catS, c_eqI, c_neI, c_eqS, c_neS, c_lt, c_le, c_gt, c_ge, bf_abs, bf_lenL, bf_lenK, bf_lenT, bf_lenS, bf_max, bf_min, bf_list, bf_listT, bf_tuple, bf_tupleT, bf_int, tr_bl, slK, slL, e_fmt, fmtR_str, e_fst, fstR_ok, e_tix, e_maxd, maxdR_ok, e_sset, i_rng3', e_isc, e_isx, e_cald, e_mk, mkR_ok, e_fld, fldR_ok, e_mth, mthR_ok, mthX_ok, seq_nx, seq_ret, seq_brk, seq_exc, seq_ite, wh_nx, wh_brk, wh_ret, wh_exc, wh_ite, fin_nx, fin_ret, fin_exc, fin_ite, List.getElem?_cons_succ, List.getElem?_cons_zero, List.set_cons_zero, List.set_cons_succ, List.map_cons, List.map_nil, List.cons_append, List.nil_append, List.replicate_succ, List.replicate_zero, List.length_cons, List.length_nil, if_true, ite_true, if_false, ite_false, Bool.false_eq_true, decide_eq_true_eq, decide_not, Bool.not_eq_true', Bool.not_true, Bool.not_false, Bool.or_true, Bool.true_or, Bool.or_false, Bool.false_or, not_true_eq_false, not_false_eq_true, bne_iff_ne, ne_eq, reduceCtorEq, eq_self, decide_true, decide_false, dInt, dBl, Nat.reduceAdd, Nat.reduceSub, Nat.reduceLeDiff, Nat.zero_add, Int.reduceToNat, f_law_parted, ie, h0, x1, i1, h1, i2, h2, hin]
/-! a piece by a cell -/
theorem lf_len : (LET ++ FIG).length = 36 ∧ LET.length = 26 ∧ FIG.length = 10 := by decide +kernel
theorem lf_def : binD .add (.str "abcdefghijklmnopqrstuvwxyz") (.str "0123456789") = .ok (.str (tx (LET ++ FIG)), false) := by
  rw [← let_def, ← fig_def]
  exact cat_tx (by obtain ⟨_, h1, h2⟩ := lf_len; omega)
theorem word_loop (C : DL.Ctx) (rest : Int) (a0 a1 a3 a5 a6 : Sl) : ∀ (ds : List Int) (w : List Nat) (a7 : Sl), (∀ d ∈ ds, 0 ≤ d ∧ d ≤ 100) → w.length + ds.length ≤ 100 → ∃ (w' : List Nat) (a7' : Sl), frS C (.one 7) (.cons (.set 8 false (.bin .add (.var 8) (.idx (.var 2) (.bin .mod (.bin .add (.var 4) (.bin .mul (.bin .mul (.lit (.int 7)) (.var 7)) (.var 7))) (.lit (.int 36)))))) .nil) (ds.map .int) [a0, a1, .val (.str (tx (LET ++ FIG))), a3, .val (.int rest), a5, a6, a7, .val (.str (tx w))] = .nx [a0, a1, .val (.str (tx (LET ++ FIG))), a3, .val (.int rest), a5, a6, a7', .val (.str (tx (w ++ w')))] ∧ w'.length = ds.length ∧ ∀ c ∈ w', c ∈ LET ++ FIG
  | [], w, a7, _, _ => ⟨[], a7, by rw [List.append_nil]; exact fr_nil .., rfl, fun c h => by cases h⟩
  | d :: ds, w, a7, hd, hl => by
    rw [List.length_cons] at hl
    have b := hd d List.mem_cons_self
    have n36 : ¬ (36 : Int) = 0 := by decide
    have bm := mod_bd (i := rest + 7 * d * d) (n := 36) (by decide)
    obtain ⟨c, hc, hx⟩ := tx_at (l := LET ++ FIG) bm.1 (by rw [lf_len.1]; exact bm.2)
    obtain ⟨w', a7', e1, e2, e3⟩ := word_loop C rest a0 a1 a3 a5 a6 ds (w ++ [c]) (.val (.int d)) (fun x hx => hd x (List.mem_cons_of_mem _ hx)) (by rw [List.length_append]; show w.length + 1 + _ ≤ _; omega)
    refine ⟨c :: w', a7', ?_, by rw [List.length_cons, List.length_cons, e2], fun x hx => ?_⟩
    · have m1 : DL.MulOk 7 d := mul_okL (by decide) (by decide)
      have m2 : DL.MulOk (7 * d) d := mul_okR (by omega) (by omega)
      have ct := cat_tx (a := w) (b := [c]) (by show w.length + 1 ≤ _; omega)
      rw [List.append_cons, ← e1, List.map_cons, fr_one]
      simp only [ss_nil, ss_cons, s_setF, setF_ok, s_setT, setT_ok, s_unp, unp_two, unp_three, s_exp, expR_ok, expR_exc, s_app, appA_own, s_ext, extA_own, s_put, putA_str, putA_int, s_try1, tryO_nx, tryO_ret, s_tryK, tryKO_nx, tryKO_ret, s_pop2, pop2A_str, s_pop1, popN_none, popN_some, s_upd, updA_dct, s_ret, retR_ok, s_retv, rvR_own, s_retN, s_ite, iteR_ok, s_whl, whT_ok, s_fr, frR_ok, s_brk, s_pas, s_rai, s_frz, e_var, var_val, e_lit, e_bin, bin2_ok, e_neg, negR_int, e_not, notR_bl, e_and, andR_bl, e_or, orR_bl, e_cmp, cmp2_ok, e_chn, chnR_bl, e_tup, e_lst, tup0, tup1, tup2, tup3, tup4, lst0, lst1, lst2, lst3, lst4, lst5, e_idx, idx2_ok, e_slc, slc3_ok, e_call, calR_ok, e_bf, bfR_ok, e_isi, isiR_int, isiR_bl, isiR_str, isiR_tup, isiR_lst, isiR_non, e_lent, lentR_ok, lentOk_int, lentOk_dct, lentOk_bl, lentOk_str, lentOk_non, e_comp, compR_ok, lstT_ok, blR_bl, t_and', andB_ok, t_or', orB_ok, t_not', notB_ok, t_cmp', t_chn', t_lent', t_v', truR_ok, t_yes', es_nil, es_cons, consR_ok, p_no, p_at, inR_int, i_seq', itsR_lst, itsR_tup, itsR_kl, i_rng1', i_rng2', thaw_nil, thaw_cons, thaw1_at, thawA_own, thawA_val, thawA_no, wipe_nil, wipe_cons, e_dnew, e_dnewN, s_clr, clrA_own, e_get1, e_get2, get1R_str, get2R_str, get2R_int, e_join, joinR_lst, e_lok, lokR_dct, lokR_lst, i_enum', i_zip', i_items', i_rev', enumR_lst, enumR_kl, enumR_dct, zipR_lst, zipR_tup, itemsR_dct, revR_lst, itsR_dct, s_frzL, thawL_at, thawB_own, thawB_val, thawB_no, bf_listD, bf_lenD, bf_dict, bf_sum, bf_all, bf_any, c_isN, c_notN, c_isB, c_notB, c_eqB, c_neB, c_leS, c_ltS, c_gtS, c_geS, c_inDs, c_notInDs, b_add, b_sub, b_mul, b_fdiv, b_mod, b_pow, b_cat, b_catS, c_eqI, c_neI, c_eqS, c_neS, c_lt, c_le, c_gt, c_ge, bf_abs, bf_lenL, bf_lenK, bf_lenT, bf_lenS, bf_max, bf_min, bf_list, bf_listT, bf_tuple, bf_tupleT, bf_int, tr_bl, slK, slL, e_fmt, fmtR_str, e_fst, fstR_ok, e_tix, e_maxd, maxdR_ok, e_sset, i_rng3', e_isc, e_isx, e_cald, e_mk, mkR_ok, e_fld, fldR_ok, e_mth, mthR_ok, mthX_ok, seq_nx, seq_ret, seq_brk, seq_exc, seq_ite, wh_nx, wh_brk, wh_ret, wh_exc, wh_ite, fin_nx, fin_ret, fin_exc, fin_ite, List.getElem?_cons_succ, List.getElem?_cons_zero, List.set_cons_zero, List.set_cons_succ, List.map_cons, List.map_nil, List.cons_append, List.nil_append, List.replicate_succ, List.replicate_zero, List.length_cons, List.length_nil, if_true, ite_true, if_false, ite_false, Bool.false_eq_true, decide_eq_true_eq, decide_not, Bool.not_eq_true', Bool.not_true, Bool.not_false, Bool.or_true, Bool.true_or, Bool.or_false, Bool.false_or, not_true_eq_false, not_false_eq_true, bne_iff_ne, ne_eq, reduceCtorEq, eq_self, decide_true, decide_false, dInt, dBl, Nat.reduceAdd, Nat.reduceSub, Nat.reduceLeDiff, Nat.zero_add, Int.reduceToNat, m1, m2, n36, hx, ct]
    · rcases List.mem_cons.mp hx with z | z
      · rw [z]; exact hc
      · exact e3 x z
theorem num_loop (C : DL.Ctx) (rest : Int) (a0 a1 a3 a5 a8 : Sl) : ∀ (ds : List Int) (w : List Nat) (a7 : Sl), (∀ d ∈ ds, 0 ≤ d ∧ d ≤ 100) → w.length + ds.length ≤ 100 → ∃ (w' : List Nat) (a7' : Sl), frS C (.one 7) (.cons (.set 6 false (.bin .add (.var 6) (.idx (.var 2) (.bin .add (.lit (.int 26)) (.bin .mod (.bin .add (.bin .fdiv (.var 4) (.lit (.int 7))) (.bin .mul (.bin .mul (.lit (.int 3)) (.var 7)) (.var 7))) (.lit (.int 10))))))) .nil) (ds.map .int) [a0, a1, .val (.str (tx (LET ++ FIG))), a3, .val (.int rest), a5, .val (.str (tx w)), a7, a8] = .nx [a0, a1, .val (.str (tx (LET ++ FIG))), a3, .val (.int rest), a5, .val (.str (tx (w ++ w'))), a7', a8] ∧ w'.length = ds.length ∧ ∀ c ∈ w', c ∈ FIG
  | [], w, a7, _, _ => ⟨[], a7, by rw [List.append_nil]; exact fr_nil .., rfl, fun c h => by cases h⟩
  | d :: ds, w, a7, hd, hl => by
    rw [List.length_cons] at hl
    have b := hd d List.mem_cons_self
    have n10 : ¬ (10 : Int) = 0 := by decide
    have d7 : DivOk rest 7 := div_ok (by decide) (by decide)
    obtain ⟨j, hj⟩ : ∃ j : Int, (rest.fdiv 7 + 3 * d * d).fmod 10 = j := ⟨_, rfl⟩
    have bm := mod_bd (i := rest.fdiv 7 + 3 * d * d) (n := 10) (by decide)
    rw [hj] at bm
    have hk : j.toNat < FIG.length := by rw [lf_len.2.2]; omega
    have hx : ixD (.str (tx (LET ++ FIG))) (.int (26 + j)) = .ok (.str (tx [FIG[j.toNat]]), false) := by
      have h1 := tx_ix (l := LET ++ FIG) (k := 26 + j.toNat) (by rw [lf_len.1]; omega)
      rw [show ((26 + j.toNat : Nat) : Int) = 26 + j by omega] at h1
      rw [h1]
      have e : (LET ++ FIG)[26 + j.toNat]'(by rw [lf_len.1]; omega) = FIG[j.toNat] := by
        rw [List.getElem_append_right (by rw [lf_len.2.1]; omega)]
        congr 1
        rw [lf_len.2.1]; omega
      rw [e]
    obtain ⟨w', a7', e1, e2, e3⟩ := num_loop C rest a0 a1 a3 a5 a8 ds (w ++ [FIG[j.toNat]]) (.val (.int d)) (fun x hx => hd x (List.mem_cons_of_mem _ hx)) (by rw [List.length_append]; show w.length + 1 + _ ≤ _; omega)
    refine ⟨FIG[j.toNat] :: w', a7', ?_, by rw [List.length_cons, List.length_cons, e2], fun x hx => ?_⟩
    · have m1 : DL.MulOk 3 d := mul_okL (by decide) (by decide)
      have m2 : DL.MulOk (3 * d) d := mul_okR (by omega) (by omega)
      have ct := cat_tx (a := w) (b := [FIG[j.toNat]]) (by show w.length + 1 ≤ _; omega)
      rw [List.append_cons, ← e1, List.map_cons, fr_one]
      simp only [ss_nil, ss_cons, s_setF, setF_ok, s_setT, setT_ok, s_unp, unp_two, unp_three, s_exp, expR_ok, expR_exc, s_app, appA_own, s_ext, extA_own, s_put, putA_str, putA_int, s_try1, tryO_nx, tryO_ret, s_tryK, tryKO_nx, tryKO_ret, s_pop2, pop2A_str, s_pop1, popN_none, popN_some, s_upd, updA_dct, s_ret, retR_ok, s_retv, rvR_own, s_retN, s_ite, iteR_ok, s_whl, whT_ok, s_fr, frR_ok, s_brk, s_pas, s_rai, s_frz, e_var, var_val, e_lit, e_bin, bin2_ok, e_neg, negR_int, e_not, notR_bl, e_and, andR_bl, e_or, orR_bl, e_cmp, cmp2_ok, e_chn, chnR_bl, e_tup, e_lst, tup0, tup1, tup2, tup3, tup4, lst0, lst1, lst2, lst3, lst4, lst5, e_idx, idx2_ok, e_slc, slc3_ok, e_call, calR_ok, e_bf, bfR_ok, e_isi, isiR_int, isiR_bl, isiR_str, isiR_tup, isiR_lst, isiR_non, e_lent, lentR_ok, lentOk_int, lentOk_dct, lentOk_bl, lentOk_str, lentOk_non, e_comp, compR_ok, lstT_ok, blR_bl, t_and', andB_ok, t_or', orB_ok, t_not', notB_ok, t_cmp', t_chn', t_lent', t_v', truR_ok, t_yes', es_nil, es_cons, consR_ok, p_no, p_at, inR_int, i_seq', itsR_lst, itsR_tup, itsR_kl, i_rng1', i_rng2', thaw_nil, thaw_cons, thaw1_at, thawA_own, thawA_val, thawA_no, wipe_nil, wipe_cons, e_dnew, e_dnewN, s_clr, clrA_own, e_get1, e_get2, get1R_str, get2R_str, get2R_int, e_join, joinR_lst, e_lok, lokR_dct, lokR_lst, i_enum', i_zip', i_items', i_rev', enumR_lst, enumR_kl, enumR_dct, zipR_lst, zipR_tup, itemsR_dct, revR_lst, itsR_dct, s_frzL, thawL_at, thawB_own, thawB_val, thawB_no, bf_listD, bf_lenD, bf_dict, bf_sum, bf_all, bf_any, c_isN, c_notN, c_isB, c_notB, c_eqB, c_neB, c_leS, c_ltS, c_gtS, c_geS, c_inDs, c_notInDs, b_add, b_sub, b_mul, b_fdiv, b_mod, b_pow, b_cat, b_catS, c_eqI, c_neI, c_eqS, c_neS, c_lt, c_le, c_gt, c_ge, bf_abs, bf_lenL, bf_lenK, bf_lenT, bf_lenS, bf_max, bf_min, bf_list, bf_listT, bf_tuple, bf_tupleT, bf_int, tr_bl, slK, slL, e_fmt, fmtR_str, e_fst, fstR_ok, e_tix, e_maxd, maxdR_ok, e_sset, i_rng3', e_isc, e_isx, e_cald, e_mk, mkR_ok, e_fld, fldR_ok, e_mth, mthR_ok, mthX_ok, seq_nx, seq_ret, seq_brk, seq_exc, seq_ite, wh_nx, wh_brk, wh_ret, wh_exc, wh_ite, fin_nx, fin_ret, fin_exc, fin_ite, List.getElem?_cons_succ, List.getElem?_cons_zero, List.set_cons_zero, List.set_cons_succ, List.map_cons, List.map_nil, List.cons_append, List.nil_append, List.replicate_succ, List.replicate_zero, List.length_cons, List.length_nil, if_true, ite_true, if_false, ite_false, Bool.false_eq_true, decide_eq_true_eq, decide_not, Bool.not_eq_true', Bool.not_true, Bool.not_false, Bool.or_true, Bool.true_or, Bool.or_false, Bool.false_or, not_true_eq_false, not_false_eq_true, bne_iff_ne, ne_eq, reduceCtorEq, eq_self, decide_true, decide_false, dInt, dBl, Nat.reduceAdd, Nat.reduceSub, Nat.reduceLeDiff, Nat.zero_add, Int.reduceToNat, m1, m2, n10, d7, hj, hx, ct]
    · rcases List.mem_cons.mp hx with z | z
      · rw [z]; exact List.getElem_mem _
      · exact e3 x z
theorem rngD_map (n : Nat) : rngD 0 n = ((List.range n).map fun i => ((i : Nat) : Int)).map D.int := by
  unfold rngD
  rw [List.map_map]
  refine List.map_congr_left fun i _ => ?_
  show D.int (0 + (i : Int)) = D.int (i : Int)
  rw [Int.zero_add]
theorem sgn_list : ([D.str "(", .str ")", .str ",", .str "+", .str "-", .str "*", .str "=", .str ">=", .str "<="] : List D) = [[40], [41], [44], [43], [45], [42], [61], [62, 61], [60, 61]].map stD := by
  have h : (["(", ")", ",", "+", "-", "*", "=", ">=", "<="] : List Str) = [[40], [41], [44], [43], [45], [42], [61], [62, 61], [60, 61]].map tx := by decide +kernel
  have := congrArg (List.map D.str) h
  rw [List.map_map] at this
  exact this
theorem sgn_ok : ∀ p ∈ ([[40], [41], [44], [43], [45], [42], [61], [62, 61], [60, 61]] : List (List Nat)), isS p := by
  intro p hp
  have hs : (40 : Nat) ∈ SIG ∧ (41 : Nat) ∈ SIG ∧ (44 : Nat) ∈ SIG ∧ (43 : Nat) ∈ SIG ∧ (45 : Nat) ∈ SIG ∧ (42 : Nat) ∈ SIG ∧ (61 : Nat) ∈ SIG := by decide +kernel
  obtain ⟨h1, h2, h3, h4, h5, h6, h7⟩ := hs
  simp only [List.mem_cons, List.not_mem_nil, or_false] at hp
  rcases hp with rfl | rfl | rfl | rfl | rfl | rfl | rfl | rfl | rfl
  · exact .inl ⟨_, h1, rfl⟩
  · exact .inl ⟨_, h2, rfl⟩
  · exact .inl ⟨_, h3, rfl⟩
  · exact .inl ⟨_, h4, rfl⟩
  · exact .inl ⟨_, h5, rfl⟩
  · exact .inl ⟨_, h6, rfl⟩
  · exact .inl ⟨_, h7, rfl⟩
  · exact .inr (.inr rfl)
  · exact .inr (.inl rfl)
theorem lst9 (a b c d e f g h i : D) : lstR' (.ok [a, b, c, d, e, f, g, h, i]) = .ok (.lst [a, b, c, d, e, f, g, h, i], true) := by rw [lstR_ok]; exact if_pos (by show 9 ≤ 16777216; decide)
theorem lst20 (a b c d e f g h i j a' b' c' d' e' f' g' h' i' j' : D) : lstR' (.ok [a, b, c, d, e, f, g, h, i, j, a', b', c', d', e', f', g', h', i', j']) = .ok (.lst [a, b, c, d, e, f, g, h, i, j, a', b', c', d', e', f', g', h', i', j'], true) := by rw [lstR_ok]; exact if_pos (by show 20 ≤ 16777216; decide)
theorem lst6 (a b c d e f : D) : lstR' (.ok [a, b, c, d, e, f]) = .ok (.lst [a, b, c, d, e, f], true) := by rw [lstR_ok]; exact if_pos (by show 6 ≤ 16777216; decide)
theorem st_at {ps : List (List Nat)} {i : Int} (h0 : 0 ≤ i) (h1 : i < (ps.length : Nat)) : ∃ p, p ∈ ps ∧ ixD (.lst (ps.map stD)) (.int i) = .ok (.str (tx p), false) := by
  have hk : i.toNat < ps.length := by omega
  refine ⟨ps[i.toNat], List.getElem_mem hk, ?_⟩
  have := ix_lst (xs := ps.map stD) (k := i.toNat) (by rw [List.length_map]; exact hk)
  rw [Int.toNat_of_nonneg h0] at this
  rw [this, List.getElem_map]; rfl
theorem good_len {p : List Nat} (h : isS p) : p.length ≤ 2 := by
  rcases h with ⟨c, _, rfl⟩ | rfl | rfl
  · show 1 ≤ 2; decide
  · decide
  · decide
theorem piece_by_ok {n : Nat} (hn : 1 ≤ n) (cell : Int) : ∃ p, run I fs n "_law_piece_by" [.int cell] = .ok (.str (tx p), false) ∧ Good p ∧ p.length ≤ 61 := by
  obtain ⟨m, rfl⟩ := dpos hn
  rw [e_law_piece_by _ _ rfl]
  have n12 : ¬ (12 : Int) = 0 := by decide
  have n9 : ¬ (9 : Int) = 0 := by decide
  have n26 : ¬ (26 : Int) = 0 := by decide
  have n5 : ¬ (5 : Int) = 0 := by decide
  have n6 : ¬ (6 : Int) = 0 := by decide
  have n2 : ¬ (2 : Int) = 0 := by decide
  have d12 : DivOk cell 12 := div_ok (by decide) (by decide)
  have lf := lf_def
  obtain ⟨rest, hr⟩ : ∃ r : Int, cell.fdiv 12 = r := ⟨_, rfl⟩
  by_cases h6 : (6 : Int) < cell.fmod 12
  · have b9 := mod_bd (i := rest) (n := 9) (by decide)
    obtain ⟨p, hp, hx⟩ := st_at (ps := [[40], [41], [44], [43], [45], [42], [61], [62, 61], [60, 61]]) b9.1 b9.2
    rw [← sgn_list] at hx
    have gp := sgn_ok p hp
    refine ⟨p, ?_, .inr (.inr gp), by have := good_len gp; omega⟩
    simp only [ss_nil, ss_cons, s_setF, setF_ok, s_setT, setT_ok, s_unp, unp_two, unp_three, s_exp, expR_ok, expR_exc, s_app, appA_own, s_ext, extA_own, s_put, putA_str, putA_int, s_try1, tryO_nx, tryO_ret, s_tryK, tryKO_nx, tryKO_ret, s_pop2, pop2A_str, s_pop1, popN_none, popN_some, s_upd, updA_dct, s_ret, retR_ok, s_retv, rvR_own, s_retN, s_ite, iteR_ok, s_whl, whT_ok, s_fr, frR_ok, s_brk, s_pas, s_rai, s_frz, e_var, var_val, e_lit, e_bin, bin2_ok, e_neg, negR_int, e_not, notR_bl, e_and, andR_bl, e_or, orR_bl, e_cmp, cmp2_ok, e_chn, chnR_bl, e_tup, e_lst, tup0, tup1, tup2, tup3, tup4, lst0, lst1, lst2, lst3, lst4, lst5, e_idx, idx2_ok, e_slc, slc3_ok, e_call, calR_ok, e_bf, bfR_ok, e_isi, isiR_int, isiR_bl, isiR_str, isiR_tup, isiR_lst, isiR_non, e_lent, lentR_ok, lentOk_int, lentOk_dct, lentOk_bl, lentOk_str, lentOk_non, e_comp, compR_ok, lstT_ok, blR_bl, t_and', andB_ok, t_or', orB_ok, t_not', notB_ok, t_cmp', t_chn', t_lent', t_v', truR_ok, t_yes', es_nil, es_cons, consR_ok, p_no, p_at, inR_int, i_seq', itsR_lst, itsR_tup, itsR_kl, i_rng1', i_rng2', thaw_nil, thaw_cons, thaw1_at, thawA_own, thawA_val, thawA_no, wipe_nil, wipe_cons, e_dnew, e_dnewN, s_clr, clrA_own, e_get1, e_get2, get1R_str, get2R_str, get2R_int, e_join, joinR_lst, e_lok, lokR_dct, lokR_lst, i_enum', i_zip', i_items', i_rev', enumR_lst, enumR_kl, enumR_dct, zipR_lst, zipR_tup, itemsR_dct, revR_lst, itsR_dct, s_frzL, thawL_at, thawB_own, thawB_val, thawB_no, bf_listD, bf_lenD, bf_dict, bf_sum, bf_all, bf_any, c_isN, c_notN, c_isB, c_notB, c_eqB, c_neB, c_leS, c_ltS, c_gtS, c_geS, c_inDs, c_notInDs, b_add, b_sub, b_mul, b_fdiv, b_mod, b_pow, b_cat, b_catS, c_eqI, c_neI, c_eqS, c_neS, c_lt, c_le, c_gt, c_ge, bf_abs, bf_lenL, bf_lenK, bf_lenT, bf_lenS, bf_max, bf_min, bf_list, bf_listT, bf_tuple, bf_tupleT, bf_int, tr_bl, slK, slL, e_fmt, fmtR_str, e_fst, fstR_ok, e_tix, e_maxd, maxdR_ok, e_sset, i_rng3', e_isc, e_isx, e_cald, e_mk, mkR_ok, e_fld, fldR_ok, e_mth, mthR_ok, mthX_ok, seq_nx, seq_ret, seq_brk, seq_exc, seq_ite, wh_nx, wh_brk, wh_ret, wh_exc, wh_ite, fin_nx, fin_ret, fin_exc, fin_ite, List.getElem?_cons_succ, List.getElem?_cons_zero, List.set_cons_zero, List.set_cons_succ, List.map_cons, List.map_nil, List.cons_append, List.nil_append, List.replicate_succ, List.replicate_zero, List.length_cons, List.length_nil, if_true, ite_true, if_false, ite_false, Bool.false_eq_true, decide_eq_true_eq, decide_not, Bool.not_eq_true', Bool.not_true, Bool.not_false, Bool.or_true, Bool.true_or, Bool.or_false, Bool.false_or, not_true_eq_false, not_false_eq_true, bne_iff_ne, ne_eq, reduceCtorEq, eq_self, decide_true, decide_false, dInt, dBl, Nat.reduceAdd, Nat.reduceSub, Nat.reduceLeDiff, Nat.zero_add, Int.reduceToNat, f_law_piece_by, lf, n12, d12, hr, h6, n9, lst9, hx]
  · by_cases h3 : (3 : Int) < cell.fmod 12
    · have b26 := mod_bd (i := rest) (n := 26) (by decide)
      obtain ⟨c, hc, hx⟩ := tx_at (l := LET) b26.1 (by rw [lf_len.2.1]; exact b26.2)
      rw [let_def] at hx
      have d26 : DivOk rest 26 := div_ok (by decide) (by decide)
      have b12 := mod_bd (i := rest.fdiv 26) (n := 12) (by decide)
      have hrg := rng1_int (i := (rest.fdiv 26).fmod 12) (p := false) (by omega) (by omega)
      rw [rngD_map] at hrg
      obtain ⟨w', a7', e1, e2, e3⟩ := word_loop ⟨run I fs m, I⟩ rest (.val (.int cell)) (.val (.str "abcdefghijklmnopqrstuvwxyz")) (.val (.int (cell.fmod 12))) .no .no ((List.range ((rest.fdiv 26).fmod 12).toNat).map fun i => ((i : Nat) : Int)) [c] .no (fun d hd => by
        obtain ⟨i, hi, rfl⟩ := List.mem_map.mp hd
        have := List.mem_range.mp hi
        omega) (by rw [List.length_map, List.length_range]; show 1 + _ ≤ 100; omega)
      rw [List.length_map, List.length_range] at e2
      have hlen : ([c] ++ w').length ≤ 12 := by rw [List.length_append, e2]; show 1 + _ ≤ 12; omega
      refine ⟨[c] ++ w', ?_, .inl ⟨⟨c, w', rfl, hc, e3⟩, hlen⟩, by omega⟩
      simp only [ss_nil, ss_cons, s_setF, setF_ok, s_setT, setT_ok, s_unp, unp_two, unp_three, s_exp, expR_ok, expR_exc, s_app, appA_own, s_ext, extA_own, s_put, putA_str, putA_int, s_try1, tryO_nx, tryO_ret, s_tryK, tryKO_nx, tryKO_ret, s_pop2, pop2A_str, s_pop1, popN_none, popN_some, s_upd, updA_dct, s_ret, retR_ok, s_retv, rvR_own, s_retN, s_ite, iteR_ok, s_whl, whT_ok, s_fr, frR_ok, s_brk, s_pas, s_rai, s_frz, e_var, var_val, e_lit, e_bin, bin2_ok, e_neg, negR_int, e_not, notR_bl, e_and, andR_bl, e_or, orR_bl, e_cmp, cmp2_ok, e_chn, chnR_bl, e_tup, e_lst, tup0, tup1, tup2, tup3, tup4, lst0, lst1, lst2, lst3, lst4, lst5, e_idx, idx2_ok, e_slc, slc3_ok, e_call, calR_ok, e_bf, bfR_ok, e_isi, isiR_int, isiR_bl, isiR_str, isiR_tup, isiR_lst, isiR_non, e_lent, lentR_ok, lentOk_int, lentOk_dct, lentOk_bl, lentOk_str, lentOk_non, e_comp, compR_ok, lstT_ok, blR_bl, t_and', andB_ok, t_or', orB_ok, t_not', notB_ok, t_cmp', t_chn', t_lent', t_v', truR_ok, t_yes', es_nil, es_cons, consR_ok, p_no, p_at, inR_int, i_seq', itsR_lst, itsR_tup, itsR_kl, i_rng1', i_rng2', thaw_nil, thaw_cons, thaw1_at, thawA_own, thawA_val, thawA_no, wipe_nil, wipe_cons, e_dnew, e_dnewN, s_clr, clrA_own, e_get1, e_get2, get1R_str, get2R_str, get2R_int, e_join, joinR_lst, e_lok, lokR_dct, lokR_lst, i_enum', i_zip', i_items', i_rev', enumR_lst, enumR_kl, enumR_dct, zipR_lst, zipR_tup, itemsR_dct, revR_lst, itsR_dct, s_frzL, thawL_at, thawB_own, thawB_val, thawB_no, bf_listD, bf_lenD, bf_dict, bf_sum, bf_all, bf_any, c_isN, c_notN, c_isB, c_notB, c_eqB, c_neB, c_leS, c_ltS, c_gtS, c_geS, c_inDs, c_notInDs, b_add, b_sub, b_mul, b_fdiv, b_mod, b_pow, b_cat, b_catS, c_eqI, c_neI, c_eqS, c_neS, c_lt, c_le, c_gt, c_ge, bf_abs, bf_lenL, bf_lenK, bf_lenT, bf_lenS, bf_max, bf_min, bf_list, bf_listT, bf_tuple, bf_tupleT, bf_int, tr_bl, slK, slL, e_fmt, fmtR_str, e_fst, fstR_ok, e_tix, e_maxd, maxdR_ok, e_sset, i_rng3', e_isc, e_isx, e_cald, e_mk, mkR_ok, e_fld, fldR_ok, e_mth, mthR_ok, mthX_ok, seq_nx, seq_ret, seq_brk, seq_exc, seq_ite, wh_nx, wh_brk, wh_ret, wh_exc, wh_ite, fin_nx, fin_ret, fin_exc, fin_ite, List.getElem?_cons_succ, List.getElem?_cons_zero, List.set_cons_zero, List.set_cons_succ, List.map_cons, List.map_nil, List.cons_append, List.nil_append, List.replicate_succ, List.replicate_zero, List.length_cons, List.length_nil, if_true, ite_true, if_false, ite_false, Bool.false_eq_true, decide_eq_true_eq, decide_not, Bool.not_eq_true', Bool.not_true, Bool.not_false, Bool.or_true, Bool.true_or, Bool.or_false, Bool.false_or, not_true_eq_false, not_false_eq_true, bne_iff_ne, ne_eq, reduceCtorEq, eq_self, decide_true, decide_false, dInt, dBl, Nat.reduceAdd, Nat.reduceSub, Nat.reduceLeDiff, Nat.zero_add, Int.reduceToNat, f_law_piece_by, lf, n12, d12, hr, h6, h3, n26, hx, d26, hrg, e1]
    · have b5 := mod_bd (i := rest) (n := 5) (by decide)
      have b2 := mod_bd (i := rest) (n := 2) (by decide)
      have d5 : DivOk rest 5 := div_ok (by decide) (by decide)
      have fin : ∀ sz : Int, 1 ≤ sz → sz ≤ 61 → ∃ (w' : List Nat) (a7' : Sl), rng1D (.ok (.int sz, false)) = .ok (((List.range sz.toNat).map fun i => ((i : Nat) : Int)).map D.int) ∧ frS ⟨run I fs m, I⟩ (.one 7) (.cons (.set 6 false (.bin .add (.var 6) (.idx (.var 2) (.bin .add (.lit (.int 26)) (.bin .mod (.bin .add (.bin .fdiv (.var 4) (.lit (.int 7))) (.bin .mul (.bin .mul (.lit (.int 3)) (.var 7)) (.var 7))) (.lit (.int 10))))))) .nil) (((List.range sz.toNat).map fun i => ((i : Nat) : Int)).map D.int) [.val (.int cell), .val (.str "abcdefghijklmnopqrstuvwxyz"), .val (.str (tx (LET ++ FIG))), .val (.int (cell.fmod 12)), .val (.int rest), .val (.int sz), .val (.str ""), .no, .no] = .nx [.val (.int cell), .val (.str "abcdefghijklmnopqrstuvwxyz"), .val (.str (tx (LET ++ FIG))), .val (.int (cell.fmod 12)), .val (.int rest), .val (.int sz), .val (.str (tx w')), a7', .no] ∧ isN w' ∧ w'.length ≤ 61 := by
        intro sz s1 s2
        have hrg := rng1_int (i := sz) (p := false) (by omega) (by omega)
        rw [rngD_map] at hrg
        obtain ⟨w', a7', e1, e2, e3⟩ := num_loop ⟨run I fs m, I⟩ rest (.val (.int cell)) (.val (.str "abcdefghijklmnopqrstuvwxyz")) (.val (.int (cell.fmod 12))) (.val (.int sz)) .no ((List.range sz.toNat).map fun i => ((i : Nat) : Int)) [] .no (fun d hd => by
          obtain ⟨i, hi, rfl⟩ := List.mem_map.mp hd
          have := List.mem_range.mp hi
          omega) (by rw [List.length_map, List.length_range]; show 0 + _ ≤ 100; omega)
        rw [List.length_map, List.length_range] at e2
        rw [em_def, List.nil_append] at e1
        refine ⟨w', a7', hrg, e1, ⟨fun z => by rw [z] at e2; simp at e2; omega, e3⟩, by omega⟩
      by_cases h5 : (rest.fdiv 5).fmod 6 = 0
      · obtain ⟨w', a7', f1, f2, f3, f4⟩ := fin (60 + rest.fmod 2) (by omega) (by omega)
        refine ⟨w', ?_, .inr (.inl f3), f4⟩
        have h5 := eq_true h5
        simp only [ss_nil, ss_cons, s_setF, setF_ok, s_setT, setT_ok, s_unp, unp_two, unp_three, s_exp, expR_ok, expR_exc, s_app, appA_own, s_ext, extA_own, s_put, putA_str, putA_int, s_try1, tryO_nx, tryO_ret, s_tryK, tryKO_nx, tryKO_ret, s_pop2, pop2A_str, s_pop1, popN_none, popN_some, s_upd, updA_dct, s_ret, retR_ok, s_retv, rvR_own, s_retN, s_ite, iteR_ok, s_whl, whT_ok, s_fr, frR_ok, s_brk, s_pas, s_rai, s_frz, e_var, var_val, e_lit, e_bin, bin2_ok, e_neg, negR_int, e_not, notR_bl, e_and, andR_bl, e_or, orR_bl, e_cmp, cmp2_ok, e_chn, chnR_bl, e_tup, e_lst, tup0, tup1, tup2, tup3, tup4, lst0, lst1, lst2, lst3, lst4, lst5, e_idx, idx2_ok, e_slc, slc3_ok, e_call, calR_ok, e_bf, bfR_ok, e_isi, isiR_int, isiR_bl, isiR_str, isiR_tup, isiR_lst, isiR_non, e_lent, lentR_ok, lentOk_int, lentOk_dct, lentOk_bl, lentOk_str, lentOk_non, e_comp, compR_ok, lstT_ok, blR_bl, t_and', andB_ok, t_or', orB_ok, t_not', notB_ok, t_cmp', t_chn', t_lent', t_v', truR_ok, t_yes', es_nil, es_cons, consR_ok, p_no, p_at, inR_int, i_seq', itsR_lst, itsR_tup, itsR_kl, i_rng1', i_rng2', thaw_nil, thaw_cons, thaw1_at, thawA_own, thawA_val, thawA_no, wipe_nil, wipe_cons, e_dnew, e_dnewN, s_clr, clrA_own, e_get1, e_get2, get1R_str, get2R_str, get2R_int, e_join, joinR_lst, e_lok, lokR_dct, lokR_lst, i_enum', i_zip', i_items', i_rev', enumR_lst, enumR_kl, enumR_dct, zipR_lst, zipR_tup, itemsR_dct, revR_lst, itsR_dct, s_frzL, thawL_at, thawB_own, thawB_val, thawB_no, bf_listD, bf_lenD, bf_dict, bf_sum, bf_all, bf_any, c_isN, c_notN, c_isB, c_notB, c_eqB, c_neB, c_leS, c_ltS, c_gtS, c_geS, c_inDs, c_notInDs, b_add, b_sub, b_mul, b_fdiv, b_mod, b_pow, b_cat, b_catS, c_eqI, c_neI, c_eqS, c_neS, c_lt, c_le, c_gt, c_ge, bf_abs, bf_lenL, bf_lenK, bf_lenT, bf_lenS, bf_max, bf_min, bf_list, bf_listT, bf_tuple, bf_tupleT, bf_int, tr_bl, slK, slL, e_fmt, fmtR_str, e_fst, fstR_ok, e_tix, e_maxd, maxdR_ok, e_sset, i_rng3', e_isc, e_isx, e_cald, e_mk, mkR_ok, e_fld, fldR_ok, e_mth, mthR_ok, mthX_ok, seq_nx, seq_ret, seq_brk, seq_exc, seq_ite, wh_nx, wh_brk, wh_ret, wh_exc, wh_ite, fin_nx, fin_ret, fin_exc, fin_ite, List.getElem?_cons_succ, List.getElem?_cons_zero, List.set_cons_zero, List.set_cons_succ, List.map_cons, List.map_nil, List.cons_append, List.nil_append, List.replicate_succ, List.replicate_zero, List.length_cons, List.length_nil, if_true, ite_true, if_false, ite_false, Bool.false_eq_true, decide_eq_true_eq, decide_not, Bool.not_eq_true', Bool.not_true, Bool.not_false, Bool.or_true, Bool.true_or, Bool.or_false, Bool.false_or, not_true_eq_false, not_false_eq_true, bne_iff_ne, ne_eq, reduceCtorEq, eq_self, decide_true, decide_false, dInt, dBl, Nat.reduceAdd, Nat.reduceSub, Nat.reduceLeDiff, Nat.zero_add, Int.reduceToNat, f_law_piece_by, lf, n12, d12, hr, h6, h3, n5, d5, n6, h5, n2, f1, f2]
      · obtain ⟨w', a7', f1, f2, f3, f4⟩ := fin (1 + rest.fmod 5) (by omega) (by omega)
        refine ⟨w', ?_, .inr (.inl f3), f4⟩
        have h5 := eq_false h5
        simp only [ss_nil, ss_cons, s_setF, setF_ok, s_setT, setT_ok, s_unp, unp_two, unp_three, s_exp, expR_ok, expR_exc, s_app, appA_own, s_ext, extA_own, s_put, putA_str, putA_int, s_try1, tryO_nx, tryO_ret, s_tryK, tryKO_nx, tryKO_ret, s_pop2, pop2A_str, s_pop1, popN_none, popN_some, s_upd, updA_dct, s_ret, retR_ok, s_retv, rvR_own, s_retN, s_ite, iteR_ok, s_whl, whT_ok, s_fr, frR_ok, s_brk, s_pas, s_rai, s_frz, e_var, var_val, e_lit, e_bin, bin2_ok, e_neg, negR_int, e_not, notR_bl, e_and, andR_bl, e_or, orR_bl, e_cmp, cmp2_ok, e_chn, chnR_bl, e_tup, e_lst, tup0, tup1, tup2, tup3, tup4, lst0, lst1, lst2, lst3, lst4, lst5, e_idx, idx2_ok, e_slc, slc3_ok, e_call, calR_ok, e_bf, bfR_ok, e_isi, isiR_int, isiR_bl, isiR_str, isiR_tup, isiR_lst, isiR_non, e_lent, lentR_ok, lentOk_int, lentOk_dct, lentOk_bl, lentOk_str, lentOk_non, e_comp, compR_ok, lstT_ok, blR_bl, t_and', andB_ok, t_or', orB_ok, t_not', notB_ok, t_cmp', t_chn', t_lent', t_v', truR_ok, t_yes', es_nil, es_cons, consR_ok, p_no, p_at, inR_int, i_seq', itsR_lst, itsR_tup, itsR_kl, i_rng1', i_rng2', thaw_nil, thaw_cons, thaw1_at, thawA_own, thawA_val, thawA_no, wipe_nil, wipe_cons, e_dnew, e_dnewN, s_clr, clrA_own, e_get1, e_get2, get1R_str, get2R_str, get2R_int, e_join, joinR_lst, e_lok, lokR_dct, lokR_lst, i_enum', i_zip', i_items', i_rev', enumR_lst, enumR_kl, enumR_dct, zipR_lst, zipR_tup, itemsR_dct, revR_lst, itsR_dct, s_frzL, thawL_at, thawB_own, thawB_val, thawB_no, bf_listD, bf_lenD, bf_dict, bf_sum, bf_all, bf_any, c_isN, c_notN, c_isB, c_notB, c_eqB, c_neB, c_leS, c_ltS, c_gtS, c_geS, c_inDs, c_notInDs, b_add, b_sub, b_mul, b_fdiv, b_mod, b_pow, b_cat, b_catS, c_eqI, c_neI, c_eqS, c_neS, c_lt, c_le, c_gt, c_ge, bf_abs, bf_lenL, bf_lenK, bf_lenT, bf_lenS, bf_max, bf_min, bf_list, bf_listT, bf_tuple, bf_tupleT, bf_int, tr_bl, slK, slL, e_fmt, fmtR_str, e_fst, fstR_ok, e_tix, e_maxd, maxdR_ok, e_sset, i_rng3', e_isc, e_isx, e_cald, e_mk, mkR_ok, e_fld, fldR_ok, e_mth, mthR_ok, mthX_ok, seq_nx, seq_ret, seq_brk, seq_exc, seq_ite, wh_nx, wh_brk, wh_ret, wh_exc, wh_ite, fin_nx, fin_ret, fin_exc, fin_ite, List.getElem?_cons_succ, List.getElem?_cons_zero, List.set_cons_zero, List.set_cons_succ, List.map_cons, List.map_nil, List.cons_append, List.nil_append, List.replicate_succ, List.replicate_zero, List.length_cons, List.length_nil, if_true, ite_true, if_false, ite_false, Bool.false_eq_true, decide_eq_true_eq, decide_not, Bool.not_eq_true', Bool.not_true, Bool.not_false, Bool.or_true, Bool.true_or, Bool.or_false, Bool.false_or, not_true_eq_false, not_false_eq_true, bne_iff_ne, ne_eq, reduceCtorEq, eq_self, decide_true, decide_false, dInt, dBl, Nat.reduceAdd, Nat.reduceSub, Nat.reduceLeDiff, Nat.zero_add, Int.reduceToNat, f_law_piece_by, lf, n12, d12, hr, h6, h3, n5, d5, n6, h5, f1, f2]
/-! a sign of no piece -/
def AL : List Nat := [65, 90, 46, 47, 58, 59, 33, 63, 35, 38, 39, 34, 91, 92, 93, 94, 123, 124, 125, 126]
def AL2 : List Nat := [10, 9, 36, 64, 60, 62]
theorem al1 : ([D.str "A", .str "Z", .str ".", .str "/", .str ":", .str ";", .str "!", .str "?", .str "#", .str "&", .str "'", .str "\"", .str "[", .str "\\", .str "]", .str "^", .str "{", .str "|", .str "}", .str "~"] : List D) = AL.map chD := by
  have h : (["A", "Z", ".", "/", ":", ";", "!", "?", "#", "&", "'", "\"", "[", "\\", "]", "^", "{", "|", "}", "~"] : List Str) = AL.map fun c => tx [c] := by decide +kernel
  have := congrArg (List.map D.str) h
  rw [List.map_map] at this
  exact this
theorem al2 : ([D.str "\n", .str "\t", .str "$", .str "@", .str "<", .str ">"] : List D) = AL2.map chD := by
  have h : (["\n", "\t", "$", "@", "<", ">"] : List Str) = AL2.map fun c => tx [c] := by decide +kernel
  have := congrArg (List.map D.str) h
  rw [List.map_map] at this
  exact this
theorem al_ok : ∀ c ∈ AL ++ AL2, c ∉ LET ∧ c ∉ FIG ∧ c ∉ SIG ∧ c ≠ 32 := by decide +kernel
theorem alien_ok {n : Nat} (hn : 1 ≤ n) (cell : Int) : ∃ a, run I fs n "_law_alien" [.int cell] = .ok (.str (tx a), false) ∧ isA a := by
  obtain ⟨m, rfl⟩ := dpos hn
  rw [e_law_alien _ _ rfl]
  have n26 : ¬ (26 : Int) = 0 := by decide
  have b26 := mod_bd (i := cell) (n := 26) (by decide)
  have hk : (cell.fmod 26).toNat < (AL ++ AL2).length := by show _ < 26; omega
  refine ⟨[(AL ++ AL2)[(cell.fmod 26).toNat]], ?_, _, rfl, al_ok _ (List.getElem_mem hk)⟩
  have hx := ix_lst (xs := (AL ++ AL2).map chD) (k := (cell.fmod 26).toNat) (by rw [List.length_map]; exact hk)
  rw [Int.toNat_of_nonneg b26.1, List.getElem_map] at hx
  obtain ⟨v, hv⟩ : ∃ v, (AL ++ AL2)[(cell.fmod 26).toNat] = v := ⟨_, rfl⟩
  rw [hv] at hx ⊢
  rw [List.map_append, ← al1, ← al2] at hx
  have l3 : (20 : Nat) + 6 ≤ 16777216 := by decide
  simp only [ss_nil, ss_cons, s_setF, setF_ok, s_setT, setT_ok, s_unp, unp_two, unp_three, s_exp, expR_ok, expR_exc, s_app, appA_own, s_ext, extA_own, s_put, putA_str, putA_int, s_try1, tryO_nx, tryO_ret, s_tryK, tryKO_nx, tryKO_ret, s_pop2, pop2A_str, s_pop1, popN_none, popN_some, s_upd, updA_dct, s_ret, retR_ok, s_retv, rvR_own, s_retN, s_ite, iteR_ok, s_whl, whT_ok, s_fr, frR_ok, s_brk, s_pas, s_rai, s_frz, e_var, var_val, e_lit, e_bin, bin2_ok, e_neg, negR_int, e_not, notR_bl, e_and, andR_bl, e_or, orR_bl, e_cmp, cmp2_ok, e_chn, chnR_bl, e_tup, e_lst, tup0, tup1, tup2, tup3, tup4, lst0, lst1, lst2, lst3, lst4, lst5, e_idx, idx2_ok, e_slc, slc3_ok, e_call, calR_ok, e_bf, bfR_ok, e_isi, isiR_int, isiR_bl, isiR_str, isiR_tup, isiR_lst, isiR_non, e_lent, lentR_ok, lentOk_int, lentOk_dct, lentOk_bl, lentOk_str, lentOk_non, e_comp, compR_ok, lstT_ok, blR_bl, t_and', andB_ok, t_or', orB_ok, t_not', notB_ok, t_cmp', t_chn', t_lent', t_v', truR_ok, t_yes', es_nil, es_cons, consR_ok, p_no, p_at, inR_int, i_seq', itsR_lst, itsR_tup, itsR_kl, i_rng1', i_rng2', thaw_nil, thaw_cons, thaw1_at, thawA_own, thawA_val, thawA_no, wipe_nil, wipe_cons, e_dnew, e_dnewN, s_clr, clrA_own, e_get1, e_get2, get1R_str, get2R_str, get2R_int, e_join, joinR_lst, e_lok, lokR_dct, lokR_lst, i_enum', i_zip', i_items', i_rev', enumR_lst, enumR_kl, enumR_dct, zipR_lst, zipR_tup, itemsR_dct, revR_lst, itsR_dct, s_frzL, thawL_at, thawB_own, thawB_val, thawB_no, bf_listD, bf_lenD, bf_dict, bf_sum, bf_all, bf_any, c_isN, c_notN, c_isB, c_notB, c_eqB, c_neB, c_leS, c_ltS, c_gtS, c_geS, c_inDs, c_notInDs, b_add, b_sub, b_mul, b_fdiv, b_mod, b_pow, b_cat, b_catS, c_eqI, c_neI, c_eqS, c_neS, c_lt, c_le, c_gt, c_ge, bf_abs, bf_lenL, bf_lenK, bf_lenT, bf_lenS, bf_max, bf_min, bf_list, bf_listT, bf_tuple, bf_tupleT, bf_int, tr_bl, slK, slL, e_fmt, fmtR_str, e_fst, fstR_ok, e_tix, e_maxd, maxdR_ok, e_sset, i_rng3', e_isc, e_isx, e_cald, e_mk, mkR_ok, e_fld, fldR_ok, e_mth, mthR_ok, mthX_ok, seq_nx, seq_ret, seq_brk, seq_exc, seq_ite, wh_nx, wh_brk, wh_ret, wh_exc, wh_ite, fin_nx, fin_ret, fin_exc, fin_ite, List.getElem?_cons_succ, List.getElem?_cons_zero, List.set_cons_zero, List.set_cons_succ, List.map_cons, List.map_nil, List.cons_append, List.nil_append, List.replicate_succ, List.replicate_zero, List.length_cons, List.length_nil, if_true, ite_true, if_false, ite_false, Bool.false_eq_true, decide_eq_true_eq, decide_not, Bool.not_eq_true', Bool.not_true, Bool.not_false, Bool.or_true, Bool.true_or, Bool.or_false, Bool.false_or, not_true_eq_false, not_false_eq_true, bne_iff_ne, ne_eq, reduceCtorEq, eq_self, decide_true, decide_false, dInt, dBl, Nat.reduceAdd, Nat.reduceSub, Nat.reduceLeDiff, Nat.zero_add, Int.reduceToNat, f_law_alien, LIMv, l3, n26, lst20, lst6]
  simp only [List.cons_append, List.nil_append] at hx
  rw [hx]
  rfl
theorem long_loop (C : DL.Ctx) (a0 a1 : Sl) : ∀ (ps : List (List Nat)) (d : Int) (a3 : Sl), (tlong ps d = true ∧ frS C (.one 3) (.cons (.ite (.cmp .eq (.var 3) (.lit (.str "("))) (.cons (.set 2 false (.bin .add (.var 2) (.lit (.int 1)))) .nil) .nil) (.cons (.ite (.cmp .eq (.var 3) (.lit (.str ")"))) (.cons (.set 2 false (.bin .sub (.var 2) (.lit (.int 1)))) .nil) .nil) (.cons (.ite (.or (.cmp .gt (.var 2) (.lit (.int 16))) (.cmp .gt (.bf .len (.cons (.var 3) .nil)) (.lit (.int 60)))) (.cons (.ret (.lit (.bl true))) .nil) .nil) .nil))) (ps.map stD) [a0, a1, .val (.int d), a3] = .ret (.bl true) false) ∨ (tlong ps d = false ∧ ∃ d' a3', frS C (.one 3) (.cons (.ite (.cmp .eq (.var 3) (.lit (.str "("))) (.cons (.set 2 false (.bin .add (.var 2) (.lit (.int 1)))) .nil) .nil) (.cons (.ite (.cmp .eq (.var 3) (.lit (.str ")"))) (.cons (.set 2 false (.bin .sub (.var 2) (.lit (.int 1)))) .nil) .nil) (.cons (.ite (.or (.cmp .gt (.var 2) (.lit (.int 16))) (.cmp .gt (.bf .len (.cons (.var 3) .nil)) (.lit (.int 60)))) (.cons (.ret (.lit (.bl true))) .nil) .nil) .nil))) (ps.map stD) [a0, a1, .val (.int d), a3] = .nx [a0, a1, .val (.int d'), a3'])
  | [], d, a3 => .inr ⟨rfl, d, a3, fr_nil ..⟩
  | p :: ps, d, a3 => by
    rw [List.map_cons, fr_one, tlong]
    have i2 := c_eqT p [40]
    have i3 := c_eqT p [41]
    rw [op_def] at i2
    rw [cl_def] at i3
    have hl := len_tx p
    obtain ⟨d1, hd1⟩ : ∃ d1 : Int, dnext p d = d1 := ⟨_, rfl⟩
    have step : evSs C (.cons (.ite (.cmp .eq (.var 3) (.lit (.str "("))) (.cons (.set 2 false (.bin .add (.var 2) (.lit (.int 1)))) .nil) .nil) (.cons (.ite (.cmp .eq (.var 3) (.lit (.str ")"))) (.cons (.set 2 false (.bin .sub (.var 2) (.lit (.int 1)))) .nil) .nil) (.cons (.ite (.or (.cmp .gt (.var 2) (.lit (.int 16))) (.cmp .gt (.bf .len (.cons (.var 3) .nil)) (.lit (.int 60)))) (.cons (.ret (.lit (.bl true))) .nil) .nil) .nil))) [a0, a1, .val (.int d), .val (stD p)] = if 16 < d1 ∨ 60 < p.length then .ret (.bl true) false else .nx [a0, a1, .val (.int d1), .val (stD p)] := by
      unfold stD
      unfold dnext at hd1
      have hq : ((60 : Int) < (p.length : Nat)) = (60 < p.length) := propext ⟨fun h => by omega, fun h => by omega⟩
      by_cases h40 : p = [40]
      · have h41 : ¬ p = [41] := fun e => by rw [h40] at e; exact absurd e (by decide)
        rw [if_neg h41, if_pos h40] at hd1
        subst hd1
        have h40 := eq_true h40
        by_cases q1 : (16 : Int) < d + 1
        · rw [if_pos (.inl q1)]
          simp only [ss_nil, ss_cons, s_setF, setF_ok, s_setT, setT_ok, s_unp, unp_two, unp_three, s_exp, expR_ok, expR_exc, s_app, appA_own, s_ext, extA_own, s_put, putA_str, putA_int, s_try1, tryO_nx, tryO_ret, s_tryK, tryKO_nx, tryKO_ret, s_pop2, pop2A_str, s_pop1, popN_none, popN_some, s_upd, updA_dct, s_ret, retR_ok, s_retv, rvR_own, s_retN, s_ite, iteR_ok, s_whl, whT_ok, s_fr, frR_ok, s_brk, s_pas, s_rai, s_frz, e_var, var_val, e_lit, e_bin, bin2_ok, e_neg, negR_int, e_not, notR_bl, e_and, andR_bl, e_or, orR_bl, e_cmp, cmp2_ok, e_chn, chnR_bl, e_tup, e_lst, tup0, tup1, tup2, tup3, tup4, lst0, lst1, lst2, lst3, lst4, lst5, e_idx, idx2_ok, e_slc, slc3_ok, e_call, calR_ok, e_bf, bfR_ok, e_isi, isiR_int, isiR_bl, isiR_str, isiR_tup, isiR_lst, isiR_non, e_lent, lentR_ok, lentOk_int, lentOk_dct, lentOk_bl, lentOk_str, lentOk_non, e_comp, compR_ok, lstT_ok, blR_bl, t_and', andB_ok, t_or', orB_ok, t_not', notB_ok, t_cmp', t_chn', t_lent', t_v', truR_ok, t_yes', es_nil, es_cons, consR_ok, p_no, p_at, inR_int, i_seq', itsR_lst, itsR_tup, itsR_kl, i_rng1', i_rng2', thaw_nil, thaw_cons, thaw1_at, thawA_own, thawA_val, thawA_no, wipe_nil, wipe_cons, e_dnew, e_dnewN, s_clr, clrA_own, e_get1, e_get2, get1R_str, get2R_str, get2R_int, e_join, joinR_lst, e_lok, lokR_dct, lokR_lst, i_enum', i_zip', i_items', i_rev', enumR_lst, enumR_kl, enumR_dct, zipR_lst, zipR_tup, itemsR_dct, revR_lst, itsR_dct, s_frzL, thawL_at, thawB_own, thawB_val, thawB_no, bf_listD, bf_lenD, bf_dict, bf_sum, bf_all, bf_any, c_isN, c_notN, c_isB, c_notB, c_eqB, c_neB, c_leS, c_ltS, c_gtS, c_geS, c_inDs, c_notInDs, b_add, b_sub, b_mul, b_fdiv, b_mod, b_pow, b_cat, b_catS, c_eqI, c_neI, c_eqS, c_neS, c_lt, c_le, c_gt, c_ge, bf_abs, bf_lenL, bf_lenK, bf_lenT, bf_lenS, bf_max, bf_min, bf_list, bf_listT, bf_tuple, bf_tupleT, bf_int, tr_bl, slK, slL, e_fmt, fmtR_str, e_fst, fstR_ok, e_tix, e_maxd, maxdR_ok, e_sset, i_rng3', e_isc, e_isx, e_cald, e_mk, mkR_ok, e_fld, fldR_ok, e_mth, mthR_ok, mthX_ok, seq_nx, seq_ret, seq_brk, seq_exc, seq_ite, wh_nx, wh_brk, wh_ret, wh_exc, wh_ite, fin_nx, fin_ret, fin_exc, fin_ite, List.getElem?_cons_succ, List.getElem?_cons_zero, List.set_cons_zero, List.set_cons_succ, List.map_cons, List.map_nil, List.cons_append, List.nil_append, List.replicate_succ, List.replicate_zero, List.length_cons, List.length_nil, if_true, ite_true, if_false, ite_false, Bool.false_eq_true, decide_eq_true_eq, decide_not, Bool.not_eq_true', Bool.not_true, Bool.not_false, Bool.or_true, Bool.true_or, Bool.or_false, Bool.false_or, not_true_eq_false, not_false_eq_true, bne_iff_ne, ne_eq, reduceCtorEq, eq_self, decide_true, decide_false, dInt, dBl, Nat.reduceAdd, Nat.reduceSub, Nat.reduceLeDiff, Nat.zero_add, Int.reduceToNat, i2, i3, h40, h41, hl, q1]
        · by_cases q2 : 60 < p.length
          · rw [if_pos (.inr q2)]
            have q2 := eq_true q2
            simp only [ss_nil, ss_cons, s_setF, setF_ok, s_setT, setT_ok, s_unp, unp_two, unp_three, s_exp, expR_ok, expR_exc, s_app, appA_own, s_ext, extA_own, s_put, putA_str, putA_int, s_try1, tryO_nx, tryO_ret, s_tryK, tryKO_nx, tryKO_ret, s_pop2, pop2A_str, s_pop1, popN_none, popN_some, s_upd, updA_dct, s_ret, retR_ok, s_retv, rvR_own, s_retN, s_ite, iteR_ok, s_whl, whT_ok, s_fr, frR_ok, s_brk, s_pas, s_rai, s_frz, e_var, var_val, e_lit, e_bin, bin2_ok, e_neg, negR_int, e_not, notR_bl, e_and, andR_bl, e_or, orR_bl, e_cmp, cmp2_ok, e_chn, chnR_bl, e_tup, e_lst, tup0, tup1, tup2, tup3, tup4, lst0, lst1, lst2, lst3, lst4, lst5, e_idx, idx2_ok, e_slc, slc3_ok, e_call, calR_ok, e_bf, bfR_ok, e_isi, isiR_int, isiR_bl, isiR_str, isiR_tup, isiR_lst, isiR_non, e_lent, lentR_ok, lentOk_int, lentOk_dct, lentOk_bl, lentOk_str, lentOk_non, e_comp, compR_ok, lstT_ok, blR_bl, t_and', andB_ok, t_or', orB_ok, t_not', notB_ok, t_cmp', t_chn', t_lent', t_v', truR_ok, t_yes', es_nil, es_cons, consR_ok, p_no, p_at, inR_int, i_seq', itsR_lst, itsR_tup, itsR_kl, i_rng1', i_rng2', thaw_nil, thaw_cons, thaw1_at, thawA_own, thawA_val, thawA_no, wipe_nil, wipe_cons, e_dnew, e_dnewN, s_clr, clrA_own, e_get1, e_get2, get1R_str, get2R_str, get2R_int, e_join, joinR_lst, e_lok, lokR_dct, lokR_lst, i_enum', i_zip', i_items', i_rev', enumR_lst, enumR_kl, enumR_dct, zipR_lst, zipR_tup, itemsR_dct, revR_lst, itsR_dct, s_frzL, thawL_at, thawB_own, thawB_val, thawB_no, bf_listD, bf_lenD, bf_dict, bf_sum, bf_all, bf_any, c_isN, c_notN, c_isB, c_notB, c_eqB, c_neB, c_leS, c_ltS, c_gtS, c_geS, c_inDs, c_notInDs, b_add, b_sub, b_mul, b_fdiv, b_mod, b_pow, b_cat, b_catS, c_eqI, c_neI, c_eqS, c_neS, c_lt, c_le, c_gt, c_ge, bf_abs, bf_lenL, bf_lenK, bf_lenT, bf_lenS, bf_max, bf_min, bf_list, bf_listT, bf_tuple, bf_tupleT, bf_int, tr_bl, slK, slL, e_fmt, fmtR_str, e_fst, fstR_ok, e_tix, e_maxd, maxdR_ok, e_sset, i_rng3', e_isc, e_isx, e_cald, e_mk, mkR_ok, e_fld, fldR_ok, e_mth, mthR_ok, mthX_ok, seq_nx, seq_ret, seq_brk, seq_exc, seq_ite, wh_nx, wh_brk, wh_ret, wh_exc, wh_ite, fin_nx, fin_ret, fin_exc, fin_ite, List.getElem?_cons_succ, List.getElem?_cons_zero, List.set_cons_zero, List.set_cons_succ, List.map_cons, List.map_nil, List.cons_append, List.nil_append, List.replicate_succ, List.replicate_zero, List.length_cons, List.length_nil, if_true, ite_true, if_false, ite_false, Bool.false_eq_true, decide_eq_true_eq, decide_not, Bool.not_eq_true', Bool.not_true, Bool.not_false, Bool.or_true, Bool.true_or, Bool.or_false, Bool.false_or, not_true_eq_false, not_false_eq_true, bne_iff_ne, ne_eq, reduceCtorEq, eq_self, decide_true, decide_false, dInt, dBl, Nat.reduceAdd, Nat.reduceSub, Nat.reduceLeDiff, Nat.zero_add, Int.reduceToNat, i2, i3, h40, h41, hl, q1, hq, q2]
          · rw [if_neg (fun z => z.elim q1 q2)]
            have q2 := eq_false q2
            simp only [ss_nil, ss_cons, s_setF, setF_ok, s_setT, setT_ok, s_unp, unp_two, unp_three, s_exp, expR_ok, expR_exc, s_app, appA_own, s_ext, extA_own, s_put, putA_str, putA_int, s_try1, tryO_nx, tryO_ret, s_tryK, tryKO_nx, tryKO_ret, s_pop2, pop2A_str, s_pop1, popN_none, popN_some, s_upd, updA_dct, s_ret, retR_ok, s_retv, rvR_own, s_retN, s_ite, iteR_ok, s_whl, whT_ok, s_fr, frR_ok, s_brk, s_pas, s_rai, s_frz, e_var, var_val, e_lit, e_bin, bin2_ok, e_neg, negR_int, e_not, notR_bl, e_and, andR_bl, e_or, orR_bl, e_cmp, cmp2_ok, e_chn, chnR_bl, e_tup, e_lst, tup0, tup1, tup2, tup3, tup4, lst0, lst1, lst2, lst3, lst4, lst5, e_idx, idx2_ok, e_slc, slc3_ok, e_call, calR_ok, e_bf, bfR_ok, e_isi, isiR_int, isiR_bl, isiR_str, isiR_tup, isiR_lst, isiR_non, e_lent, lentR_ok, lentOk_int, lentOk_dct, lentOk_bl, lentOk_str, lentOk_non, e_comp, compR_ok, lstT_ok, blR_bl, t_and', andB_ok, t_or', orB_ok, t_not', notB_ok, t_cmp', t_chn', t_lent', t_v', truR_ok, t_yes', es_nil, es_cons, consR_ok, p_no, p_at, inR_int, i_seq', itsR_lst, itsR_tup, itsR_kl, i_rng1', i_rng2', thaw_nil, thaw_cons, thaw1_at, thawA_own, thawA_val, thawA_no, wipe_nil, wipe_cons, e_dnew, e_dnewN, s_clr, clrA_own, e_get1, e_get2, get1R_str, get2R_str, get2R_int, e_join, joinR_lst, e_lok, lokR_dct, lokR_lst, i_enum', i_zip', i_items', i_rev', enumR_lst, enumR_kl, enumR_dct, zipR_lst, zipR_tup, itemsR_dct, revR_lst, itsR_dct, s_frzL, thawL_at, thawB_own, thawB_val, thawB_no, bf_listD, bf_lenD, bf_dict, bf_sum, bf_all, bf_any, c_isN, c_notN, c_isB, c_notB, c_eqB, c_neB, c_leS, c_ltS, c_gtS, c_geS, c_inDs, c_notInDs, b_add, b_sub, b_mul, b_fdiv, b_mod, b_pow, b_cat, b_catS, c_eqI, c_neI, c_eqS, c_neS, c_lt, c_le, c_gt, c_ge, bf_abs, bf_lenL, bf_lenK, bf_lenT, bf_lenS, bf_max, bf_min, bf_list, bf_listT, bf_tuple, bf_tupleT, bf_int, tr_bl, slK, slL, e_fmt, fmtR_str, e_fst, fstR_ok, e_tix, e_maxd, maxdR_ok, e_sset, i_rng3', e_isc, e_isx, e_cald, e_mk, mkR_ok, e_fld, fldR_ok, e_mth, mthR_ok, mthX_ok, seq_nx, seq_ret, seq_brk, seq_exc, seq_ite, wh_nx, wh_brk, wh_ret, wh_exc, wh_ite, fin_nx, fin_ret, fin_exc, fin_ite, List.getElem?_cons_succ, List.getElem?_cons_zero, List.set_cons_zero, List.set_cons_succ, List.map_cons, List.map_nil, List.cons_append, List.nil_append, List.replicate_succ, List.replicate_zero, List.length_cons, List.length_nil, if_true, ite_true, if_false, ite_false, Bool.false_eq_true, decide_eq_true_eq, decide_not, Bool.not_eq_true', Bool.not_true, Bool.not_false, Bool.or_true, Bool.true_or, Bool.or_false, Bool.false_or, not_true_eq_false, not_false_eq_true, bne_iff_ne, ne_eq, reduceCtorEq, eq_self, decide_true, decide_false, dInt, dBl, Nat.reduceAdd, Nat.reduceSub, Nat.reduceLeDiff, Nat.zero_add, Int.reduceToNat, i2, i3, h40, h41, hl, q1, hq, q2]
      · rw [if_neg h40] at hd1
        by_cases h41 : p = [41]
        · rw [if_pos h41] at hd1
          subst hd1
          have h40 := eq_false h40
          have h41 := eq_true h41
          by_cases q1 : (16 : Int) < d - 1
          · rw [if_pos (.inl q1)]
            simp only [ss_nil, ss_cons, s_setF, setF_ok, s_setT, setT_ok, s_unp, unp_two, unp_three, s_exp, expR_ok, expR_exc, s_app, appA_own, s_ext, extA_own, s_put, putA_str, putA_int, s_try1, tryO_nx, tryO_ret, s_tryK, tryKO_nx, tryKO_ret, s_pop2, pop2A_str, s_pop1, popN_none, popN_some, s_upd, updA_dct, s_ret, retR_ok, s_retv, rvR_own, s_retN, s_ite, iteR_ok, s_whl, whT_ok, s_fr, frR_ok, s_brk, s_pas, s_rai, s_frz, e_var, var_val, e_lit, e_bin, bin2_ok, e_neg, negR_int, e_not, notR_bl, e_and, andR_bl, e_or, orR_bl, e_cmp, cmp2_ok, e_chn, chnR_bl, e_tup, e_lst, tup0, tup1, tup2, tup3, tup4, lst0, lst1, lst2, lst3, lst4, lst5, e_idx, idx2_ok, e_slc, slc3_ok, e_call, calR_ok, e_bf, bfR_ok, e_isi, isiR_int, isiR_bl, isiR_str, isiR_tup, isiR_lst, isiR_non, e_lent, lentR_ok, lentOk_int, lentOk_dct, lentOk_bl, lentOk_str, lentOk_non, e_comp, compR_ok, lstT_ok, blR_bl, t_and', andB_ok, t_or', orB_ok, t_not', notB_ok, t_cmp', t_chn', t_lent', t_v', truR_ok, t_yes', es_nil, es_cons, consR_ok, p_no, p_at, inR_int, i_seq', itsR_lst, itsR_tup, itsR_kl, i_rng1', i_rng2', thaw_nil, thaw_cons, thaw1_at, thawA_own, thawA_val, thawA_no, wipe_nil, wipe_cons, e_dnew, e_dnewN, s_clr, clrA_own, e_get1, e_get2, get1R_str, get2R_str, get2R_int, e_join, joinR_lst, e_lok, lokR_dct, lokR_lst, i_enum', i_zip', i_items', i_rev', enumR_lst, enumR_kl, enumR_dct, zipR_lst, zipR_tup, itemsR_dct, revR_lst, itsR_dct, s_frzL, thawL_at, thawB_own, thawB_val, thawB_no, bf_listD, bf_lenD, bf_dict, bf_sum, bf_all, bf_any, c_isN, c_notN, c_isB, c_notB, c_eqB, c_neB, c_leS, c_ltS, c_gtS, c_geS, c_inDs, c_notInDs, b_add, b_sub, b_mul, b_fdiv, b_mod, b_pow, b_cat, b_catS, c_eqI, c_neI, c_eqS, c_neS, c_lt, c_le, c_gt, c_ge, bf_abs, bf_lenL, bf_lenK, bf_lenT, bf_lenS, bf_max, bf_min, bf_list, bf_listT, bf_tuple, bf_tupleT, bf_int, tr_bl, slK, slL, e_fmt, fmtR_str, e_fst, fstR_ok, e_tix, e_maxd, maxdR_ok, e_sset, i_rng3', e_isc, e_isx, e_cald, e_mk, mkR_ok, e_fld, fldR_ok, e_mth, mthR_ok, mthX_ok, seq_nx, seq_ret, seq_brk, seq_exc, seq_ite, wh_nx, wh_brk, wh_ret, wh_exc, wh_ite, fin_nx, fin_ret, fin_exc, fin_ite, List.getElem?_cons_succ, List.getElem?_cons_zero, List.set_cons_zero, List.set_cons_succ, List.map_cons, List.map_nil, List.cons_append, List.nil_append, List.replicate_succ, List.replicate_zero, List.length_cons, List.length_nil, if_true, ite_true, if_false, ite_false, Bool.false_eq_true, decide_eq_true_eq, decide_not, Bool.not_eq_true', Bool.not_true, Bool.not_false, Bool.or_true, Bool.true_or, Bool.or_false, Bool.false_or, not_true_eq_false, not_false_eq_true, bne_iff_ne, ne_eq, reduceCtorEq, eq_self, decide_true, decide_false, dInt, dBl, Nat.reduceAdd, Nat.reduceSub, Nat.reduceLeDiff, Nat.zero_add, Int.reduceToNat, i2, i3, h40, h41, hl, q1]
          · by_cases q2 : 60 < p.length
            · rw [if_pos (.inr q2)]
              have q2 := eq_true q2
              simp only [ss_nil, ss_cons, s_setF, setF_ok, s_setT, setT_ok, s_unp, unp_two, unp_three, s_exp, expR_ok, expR_exc, s_app, appA_own, s_ext, extA_own, s_put, putA_str, putA_int, s_try1, tryO_nx, tryO_ret, s_tryK, tryKO_nx, tryKO_ret, s_pop2, pop2A_str, s_pop1, popN_none, popN_some, s_upd, updA_dct, s_ret, retR_ok, s_retv, rvR_own, s_retN, s_ite, iteR_ok, s_whl, whT_ok, s_fr, frR_ok, s_brk, s_pas, s_rai, s_frz, e_var, var_val, e_lit, e_bin, bin2_ok, e_neg, negR_int, e_not, notR_bl, e_and, andR_bl, e_or, orR_bl, e_cmp, cmp2_ok, e_chn, chnR_bl, e_tup, e_lst, tup0, tup1, tup2, tup3, tup4, lst0, lst1, lst2, lst3, lst4, lst5, e_idx, idx2_ok, e_slc, slc3_ok, e_call, calR_ok, e_bf, bfR_ok, e_isi, isiR_int, isiR_bl, isiR_str, isiR_tup, isiR_lst, isiR_non, e_lent, lentR_ok, lentOk_int, lentOk_dct, lentOk_bl, lentOk_str, lentOk_non, e_comp, compR_ok, lstT_ok, blR_bl, t_and', andB_ok, t_or', orB_ok, t_not', notB_ok, t_cmp', t_chn', t_lent', t_v', truR_ok, t_yes', es_nil, es_cons, consR_ok, p_no, p_at, inR_int, i_seq', itsR_lst, itsR_tup, itsR_kl, i_rng1', i_rng2', thaw_nil, thaw_cons, thaw1_at, thawA_own, thawA_val, thawA_no, wipe_nil, wipe_cons, e_dnew, e_dnewN, s_clr, clrA_own, e_get1, e_get2, get1R_str, get2R_str, get2R_int, e_join, joinR_lst, e_lok, lokR_dct, lokR_lst, i_enum', i_zip', i_items', i_rev', enumR_lst, enumR_kl, enumR_dct, zipR_lst, zipR_tup, itemsR_dct, revR_lst, itsR_dct, s_frzL, thawL_at, thawB_own, thawB_val, thawB_no, bf_listD, bf_lenD, bf_dict, bf_sum, bf_all, bf_any, c_isN, c_notN, c_isB, c_notB, c_eqB, c_neB, c_leS, c_ltS, c_gtS, c_geS, c_inDs, c_notInDs, b_add, b_sub, b_mul, b_fdiv, b_mod, b_pow, b_cat, b_catS, c_eqI, c_neI, c_eqS, c_neS, c_lt, c_le, c_gt, c_ge, bf_abs, bf_lenL, bf_lenK, bf_lenT, bf_lenS, bf_max, bf_min, bf_list, bf_listT, bf_tuple, bf_tupleT, bf_int, tr_bl, slK, slL, e_fmt, fmtR_str, e_fst, fstR_ok, e_tix, e_maxd, maxdR_ok, e_sset, i_rng3', e_isc, e_isx, e_cald, e_mk, mkR_ok, e_fld, fldR_ok, e_mth, mthR_ok, mthX_ok, seq_nx, seq_ret, seq_brk, seq_exc, seq_ite, wh_nx, wh_brk, wh_ret, wh_exc, wh_ite, fin_nx, fin_ret, fin_exc, fin_ite, List.getElem?_cons_succ, List.getElem?_cons_zero, List.set_cons_zero, List.set_cons_succ, List.map_cons, List.map_nil, List.cons_append, List.nil_append, List.replicate_succ, List.replicate_zero, List.length_cons, List.length_nil, if_true, ite_true, if_false, ite_false, Bool.false_eq_true, decide_eq_true_eq, decide_not, Bool.not_eq_true', Bool.not_true, Bool.not_false, Bool.or_true, Bool.true_or, Bool.or_false, Bool.false_or, not_true_eq_false, not_false_eq_true, bne_iff_ne, ne_eq, reduceCtorEq, eq_self, decide_true, decide_false, dInt, dBl, Nat.reduceAdd, Nat.reduceSub, Nat.reduceLeDiff, Nat.zero_add, Int.reduceToNat, i2, i3, h40, h41, hl, q1, hq, q2]
            · rw [if_neg (fun z => z.elim q1 q2)]
              have q2 := eq_false q2
              simp only [ss_nil, ss_cons, s_setF, setF_ok, s_setT, setT_ok, s_unp, unp_two, unp_three, s_exp, expR_ok, expR_exc, s_app, appA_own, s_ext, extA_own, s_put, putA_str, putA_int, s_try1, tryO_nx, tryO_ret, s_tryK, tryKO_nx, tryKO_ret, s_pop2, pop2A_str, s_pop1, popN_none, popN_some, s_upd, updA_dct, s_ret, retR_ok, s_retv, rvR_own, s_retN, s_ite, iteR_ok, s_whl, whT_ok, s_fr, frR_ok, s_brk, s_pas, s_rai, s_frz, e_var, var_val, e_lit, e_bin, bin2_ok, e_neg, negR_int, e_not, notR_bl, e_and, andR_bl, e_or, orR_bl, e_cmp, cmp2_ok, e_chn, chnR_bl, e_tup, e_lst, tup0, tup1, tup2, tup3, tup4, lst0, lst1, lst2, lst3, lst4, lst5, e_idx, idx2_ok, e_slc, slc3_ok, e_call, calR_ok, e_bf, bfR_ok, e_isi, isiR_int, isiR_bl, isiR_str, isiR_tup, isiR_lst, isiR_non, e_lent, lentR_ok, lentOk_int, lentOk_dct, lentOk_bl, lentOk_str, lentOk_non, e_comp, compR_ok, lstT_ok, blR_bl, t_and', andB_ok, t_or', orB_ok, t_not', notB_ok, t_cmp', t_chn', t_lent', t_v', truR_ok, t_yes', es_nil, es_cons, consR_ok, p_no, p_at, inR_int, i_seq', itsR_lst, itsR_tup, itsR_kl, i_rng1', i_rng2', thaw_nil, thaw_cons, thaw1_at, thawA_own, thawA_val, thawA_no, wipe_nil, wipe_cons, e_dnew, e_dnewN, s_clr, clrA_own, e_get1, e_get2, get1R_str, get2R_str, get2R_int, e_join, joinR_lst, e_lok, lokR_dct, lokR_lst, i_enum', i_zip', i_items', i_rev', enumR_lst, enumR_kl, enumR_dct, zipR_lst, zipR_tup, itemsR_dct, revR_lst, itsR_dct, s_frzL, thawL_at, thawB_own, thawB_val, thawB_no, bf_listD, bf_lenD, bf_dict, bf_sum, bf_all, bf_any, c_isN, c_notN, c_isB, c_notB, c_eqB, c_neB, c_leS, c_ltS, c_gtS, c_geS, c_inDs, c_notInDs, b_add, b_sub, b_mul, b_fdiv, b_mod, b_pow, b_cat, b_catS, c_eqI, c_neI, c_eqS, c_neS, c_lt, c_le, c_gt, c_ge, bf_abs, bf_lenL, bf_lenK, bf_lenT, bf_lenS, bf_max, bf_min, bf_list, bf_listT, bf_tuple, bf_tupleT, bf_int, tr_bl, slK, slL, e_fmt, fmtR_str, e_fst, fstR_ok, e_tix, e_maxd, maxdR_ok, e_sset, i_rng3', e_isc, e_isx, e_cald, e_mk, mkR_ok, e_fld, fldR_ok, e_mth, mthR_ok, mthX_ok, seq_nx, seq_ret, seq_brk, seq_exc, seq_ite, wh_nx, wh_brk, wh_ret, wh_exc, wh_ite, fin_nx, fin_ret, fin_exc, fin_ite, List.getElem?_cons_succ, List.getElem?_cons_zero, List.set_cons_zero, List.set_cons_succ, List.map_cons, List.map_nil, List.cons_append, List.nil_append, List.replicate_succ, List.replicate_zero, List.length_cons, List.length_nil, if_true, ite_true, if_false, ite_false, Bool.false_eq_true, decide_eq_true_eq, decide_not, Bool.not_eq_true', Bool.not_true, Bool.not_false, Bool.or_true, Bool.true_or, Bool.or_false, Bool.false_or, not_true_eq_false, not_false_eq_true, bne_iff_ne, ne_eq, reduceCtorEq, eq_self, decide_true, decide_false, dInt, dBl, Nat.reduceAdd, Nat.reduceSub, Nat.reduceLeDiff, Nat.zero_add, Int.reduceToNat, i2, i3, h40, h41, hl, q1, hq, q2]
        · rw [if_neg h41] at hd1
          subst hd1
          have h40 := eq_false h40
          have h41 := eq_false h41
          by_cases q1 : (16 : Int) < d
          · rw [if_pos (.inl q1)]
            simp only [ss_nil, ss_cons, s_setF, setF_ok, s_setT, setT_ok, s_unp, unp_two, unp_three, s_exp, expR_ok, expR_exc, s_app, appA_own, s_ext, extA_own, s_put, putA_str, putA_int, s_try1, tryO_nx, tryO_ret, s_tryK, tryKO_nx, tryKO_ret, s_pop2, pop2A_str, s_pop1, popN_none, popN_some, s_upd, updA_dct, s_ret, retR_ok, s_retv, rvR_own, s_retN, s_ite, iteR_ok, s_whl, whT_ok, s_fr, frR_ok, s_brk, s_pas, s_rai, s_frz, e_var, var_val, e_lit, e_bin, bin2_ok, e_neg, negR_int, e_not, notR_bl, e_and, andR_bl, e_or, orR_bl, e_cmp, cmp2_ok, e_chn, chnR_bl, e_tup, e_lst, tup0, tup1, tup2, tup3, tup4, lst0, lst1, lst2, lst3, lst4, lst5, e_idx, idx2_ok, e_slc, slc3_ok, e_call, calR_ok, e_bf, bfR_ok, e_isi, isiR_int, isiR_bl, isiR_str, isiR_tup, isiR_lst, isiR_non, e_lent, lentR_ok, lentOk_int, lentOk_dct, lentOk_bl, lentOk_str, lentOk_non, e_comp, compR_ok, lstT_ok, blR_bl, t_and', andB_ok, t_or', orB_ok, t_not', notB_ok, t_cmp', t_chn', t_lent', t_v', truR_ok, t_yes', es_nil, es_cons, consR_ok, p_no, p_at, inR_int, i_seq', itsR_lst, itsR_tup, itsR_kl, i_rng1', i_rng2', thaw_nil, thaw_cons, thaw1_at, thawA_own, thawA_val, thawA_no, wipe_nil, wipe_cons, e_dnew, e_dnewN, s_clr, clrA_own, e_get1, e_get2, get1R_str, get2R_str, get2R_int, e_join, joinR_lst, e_lok, lokR_dct, lokR_lst, i_enum', i_zip', i_items', i_rev', enumR_lst, enumR_kl, enumR_dct, zipR_lst, zipR_tup, itemsR_dct, revR_lst, itsR_dct, s_frzL, thawL_at, thawB_own, thawB_val, thawB_no, bf_listD, bf_lenD, bf_dict, bf_sum, bf_all, bf_any, c_isN, c_notN, c_isB, c_notB, c_eqB, c_neB, c_leS, c_ltS, c_gtS, c_geS, c_inDs, c_notInDs, b_add, b_sub, b_mul, b_fdiv, b_mod, b_pow, b_cat, b_catS, c_eqI, c_neI, c_eqS, c_neS, c_lt, c_le, c_gt, c_ge, bf_abs, bf_lenL, bf_lenK, bf_lenT, bf_lenS, bf_max, bf_min, bf_list, bf_listT, bf_tuple, bf_tupleT, bf_int, tr_bl, slK, slL, e_fmt, fmtR_str, e_fst, fstR_ok, e_tix, e_maxd, maxdR_ok, e_sset, i_rng3', e_isc, e_isx, e_cald, e_mk, mkR_ok, e_fld, fldR_ok, e_mth, mthR_ok, mthX_ok, seq_nx, seq_ret, seq_brk, seq_exc, seq_ite, wh_nx, wh_brk, wh_ret, wh_exc, wh_ite, fin_nx, fin_ret, fin_exc, fin_ite, List.getElem?_cons_succ, List.getElem?_cons_zero, List.set_cons_zero, List.set_cons_succ, List.map_cons, List.map_nil, List.cons_append, List.nil_append, List.replicate_succ, List.replicate_zero, List.length_cons, List.length_nil, if_true, ite_true, if_false, ite_false, Bool.false_eq_true, decide_eq_true_eq, decide_not, Bool.not_eq_true', Bool.not_true, Bool.not_false, Bool.or_true, Bool.true_or, Bool.or_false, Bool.false_or, not_true_eq_false, not_false_eq_true, bne_iff_ne, ne_eq, reduceCtorEq, eq_self, decide_true, decide_false, dInt, dBl, Nat.reduceAdd, Nat.reduceSub, Nat.reduceLeDiff, Nat.zero_add, Int.reduceToNat, i2, i3, h40, h41, hl, q1]
          · by_cases q2 : 60 < p.length
            · rw [if_pos (.inr q2)]
              have q2 := eq_true q2
              simp only [ss_nil, ss_cons, s_setF, setF_ok, s_setT, setT_ok, s_unp, unp_two, unp_three, s_exp, expR_ok, expR_exc, s_app, appA_own, s_ext, extA_own, s_put, putA_str, putA_int, s_try1, tryO_nx, tryO_ret, s_tryK, tryKO_nx, tryKO_ret, s_pop2, pop2A_str, s_pop1, popN_none, popN_some, s_upd, updA_dct, s_ret, retR_ok, s_retv, rvR_own, s_retN, s_ite, iteR_ok, s_whl, whT_ok, s_fr, frR_ok, s_brk, s_pas, s_rai, s_frz, e_var, var_val, e_lit, e_bin, bin2_ok, e_neg, negR_int, e_not, notR_bl, e_and, andR_bl, e_or, orR_bl, e_cmp, cmp2_ok, e_chn, chnR_bl, e_tup, e_lst, tup0, tup1, tup2, tup3, tup4, lst0, lst1, lst2, lst3, lst4, lst5, e_idx, idx2_ok, e_slc, slc3_ok, e_call, calR_ok, e_bf, bfR_ok, e_isi, isiR_int, isiR_bl, isiR_str, isiR_tup, isiR_lst, isiR_non, e_lent, lentR_ok, lentOk_int, lentOk_dct, lentOk_bl, lentOk_str, lentOk_non, e_comp, compR_ok, lstT_ok, blR_bl, t_and', andB_ok, t_or', orB_ok, t_not', notB_ok, t_cmp', t_chn', t_lent', t_v', truR_ok, t_yes', es_nil, es_cons, consR_ok, p_no, p_at, inR_int, i_seq', itsR_lst, itsR_tup, itsR_kl, i_rng1', i_rng2', thaw_nil, thaw_cons, thaw1_at, thawA_own, thawA_val, thawA_no, wipe_nil, wipe_cons, e_dnew, e_dnewN, s_clr, clrA_own, e_get1, e_get2, get1R_str, get2R_str, get2R_int, e_join, joinR_lst, e_lok, lokR_dct, lokR_lst, i_enum', i_zip', i_items', i_rev', enumR_lst, enumR_kl, enumR_dct, zipR_lst, zipR_tup, itemsR_dct, revR_lst, itsR_dct, s_frzL, thawL_at, thawB_own, thawB_val, thawB_no, bf_listD, bf_lenD, bf_dict, bf_sum, bf_all, bf_any, c_isN, c_notN, c_isB, c_notB, c_eqB, c_neB, c_leS, c_ltS, c_gtS, c_geS, c_inDs, c_notInDs, b_add, b_sub, b_mul, b_fdiv, b_mod, b_pow, b_cat, b_catS, c_eqI, c_neI, c_eqS, c_neS, c_lt, c_le, c_gt, c_ge, bf_abs, bf_lenL, bf_lenK, bf_lenT, bf_lenS, bf_max, bf_min, bf_list, bf_listT, bf_tuple, bf_tupleT, bf_int, tr_bl, slK, slL, e_fmt, fmtR_str, e_fst, fstR_ok, e_tix, e_maxd, maxdR_ok, e_sset, i_rng3', e_isc, e_isx, e_cald, e_mk, mkR_ok, e_fld, fldR_ok, e_mth, mthR_ok, mthX_ok, seq_nx, seq_ret, seq_brk, seq_exc, seq_ite, wh_nx, wh_brk, wh_ret, wh_exc, wh_ite, fin_nx, fin_ret, fin_exc, fin_ite, List.getElem?_cons_succ, List.getElem?_cons_zero, List.set_cons_zero, List.set_cons_succ, List.map_cons, List.map_nil, List.cons_append, List.nil_append, List.replicate_succ, List.replicate_zero, List.length_cons, List.length_nil, if_true, ite_true, if_false, ite_false, Bool.false_eq_true, decide_eq_true_eq, decide_not, Bool.not_eq_true', Bool.not_true, Bool.not_false, Bool.or_true, Bool.true_or, Bool.or_false, Bool.false_or, not_true_eq_false, not_false_eq_true, bne_iff_ne, ne_eq, reduceCtorEq, eq_self, decide_true, decide_false, dInt, dBl, Nat.reduceAdd, Nat.reduceSub, Nat.reduceLeDiff, Nat.zero_add, Int.reduceToNat, i2, i3, h40, h41, hl, q1, hq, q2]
            · rw [if_neg (fun z => z.elim q1 q2)]
              have q2 := eq_false q2
              simp only [ss_nil, ss_cons, s_setF, setF_ok, s_setT, setT_ok, s_unp, unp_two, unp_three, s_exp, expR_ok, expR_exc, s_app, appA_own, s_ext, extA_own, s_put, putA_str, putA_int, s_try1, tryO_nx, tryO_ret, s_tryK, tryKO_nx, tryKO_ret, s_pop2, pop2A_str, s_pop1, popN_none, popN_some, s_upd, updA_dct, s_ret, retR_ok, s_retv, rvR_own, s_retN, s_ite, iteR_ok, s_whl, whT_ok, s_fr, frR_ok, s_brk, s_pas, s_rai, s_frz, e_var, var_val, e_lit, e_bin, bin2_ok, e_neg, negR_int, e_not, notR_bl, e_and, andR_bl, e_or, orR_bl, e_cmp, cmp2_ok, e_chn, chnR_bl, e_tup, e_lst, tup0, tup1, tup2, tup3, tup4, lst0, lst1, lst2, lst3, lst4, lst5, e_idx, idx2_ok, e_slc, slc3_ok, e_call, calR_ok, e_bf, bfR_ok, e_isi, isiR_int, isiR_bl, isiR_str, isiR_tup, isiR_lst, isiR_non, e_lent, lentR_ok, lentOk_int, lentOk_dct, lentOk_bl, lentOk_str, lentOk_non, e_comp, compR_ok, lstT_ok, blR_bl, t_and', andB_ok, t_or', orB_ok, t_not', notB_ok, t_cmp', t_chn', t_lent', t_v', truR_ok, t_yes', es_nil, es_cons, consR_ok, p_no, p_at, inR_int, i_seq', itsR_lst, itsR_tup, itsR_kl, i_rng1', i_rng2', thaw_nil, thaw_cons, thaw1_at, thawA_own, thawA_val, thawA_no, wipe_nil, wipe_cons, e_dnew, e_dnewN, s_clr, clrA_own, e_get1, e_get2, get1R_str, get2R_str, get2R_int, e_join, joinR_lst, e_lok, lokR_dct, lokR_lst, i_enum', i_zip', i_items', i_rev', enumR_lst, enumR_kl, enumR_dct, zipR_lst, zipR_tup, itemsR_dct, revR_lst, itsR_dct, s_frzL, thawL_at, thawB_own, thawB_val, thawB_no, bf_listD, bf_lenD, bf_dict, bf_sum, bf_all, bf_any, c_isN, c_notN, c_isB, c_notB, c_eqB, c_neB, c_leS, c_ltS, c_gtS, c_geS, c_inDs, c_notInDs, b_add, b_sub, b_mul, b_fdiv, b_mod, b_pow, b_cat, b_catS, c_eqI, c_neI, c_eqS, c_neS, c_lt, c_le, c_gt, c_ge, bf_abs, bf_lenL, bf_lenK, bf_lenT, bf_lenS, bf_max, bf_min, bf_list, bf_listT, bf_tuple, bf_tupleT, bf_int, tr_bl, slK, slL, e_fmt, fmtR_str, e_fst, fstR_ok, e_tix, e_maxd, maxdR_ok, e_sset, i_rng3', e_isc, e_isx, e_cald, e_mk, mkR_ok, e_fld, fldR_ok, e_mth, mthR_ok, mthX_ok, seq_nx, seq_ret, seq_brk, seq_exc, seq_ite, wh_nx, wh_brk, wh_ret, wh_exc, wh_ite, fin_nx, fin_ret, fin_exc, fin_ite, List.getElem?_cons_succ, List.getElem?_cons_zero, List.set_cons_zero, List.set_cons_succ, List.map_cons, List.map_nil, List.cons_append, List.nil_append, List.replicate_succ, List.replicate_zero, List.length_cons, List.length_nil, if_true, ite_true, if_false, ite_false, Bool.false_eq_true, decide_eq_true_eq, decide_not, Bool.not_eq_true', Bool.not_true, Bool.not_false, Bool.or_true, Bool.true_or, Bool.or_false, Bool.false_or, not_true_eq_false, not_false_eq_true, bne_iff_ne, ne_eq, reduceCtorEq, eq_self, decide_true, decide_false, dInt, dBl, Nat.reduceAdd, Nat.reduceSub, Nat.reduceLeDiff, Nat.zero_add, Int.reduceToNat, i2, i3, h40, h41, hl, q1, hq, q2]
    show (_ ∧ Out.wh (evSs C _ [a0, a1, .val (.int d), .val (stD p)]) _ = _) ∨ (_ ∧ ∃ d' a3', Out.wh (evSs C _ [a0, a1, .val (.int d), .val (stD p)]) _ = _)
    rw [step, hd1]
    by_cases q : 16 < d1 ∨ 60 < p.length
    · rw [if_pos q, if_pos q, wh_ret]
      exact .inl ⟨rfl, rfl⟩
    · rw [if_neg q, if_neg q, wh_nx]
      exact long_loop C a0 a1 ps d1 (.val (stD p))
theorem too_long_ok {n : Nat} (hn : 1 ≤ n) (l : List Nat) (ps : List (List Nat)) : run I fs n "_law_too_long" [.str (tx l), .lst (ps.map stD)] = dBl (decide (2000 < l.length) || tlong ps 0) := by
  obtain ⟨m, rfl⟩ := dpos hn
  rw [e_law_too_long _ _ rfl]
  have hl := len_tx l
  by_cases q : 2000 < l.length
  · have q2 : (2000 : Int) < (l.length : Nat) := by omega
    rw [decide_eq_true q, Bool.true_or]
    simp only [ss_nil, ss_cons, s_setF, setF_ok, s_setT, setT_ok, s_unp, unp_two, unp_three, s_exp, expR_ok, expR_exc, s_app, appA_own, s_ext, extA_own, s_put, putA_str, putA_int, s_try1, tryO_nx, tryO_ret, s_tryK, tryKO_nx, tryKO_ret, s_pop2, pop2A_str, s_pop1, popN_none, popN_some, s_upd, updA_dct, s_ret, retR_ok, s_retv, rvR_own, s_retN, s_ite, iteR_ok, s_whl, whT_ok, s_fr, frR_ok, s_brk, s_pas, s_rai, s_frz, e_var, var_val, e_lit, e_bin, bin2_ok, e_neg, negR_int, e_not, notR_bl, e_and, andR_bl, e_or, orR_bl, e_cmp, cmp2_ok, e_chn, chnR_bl, e_tup, e_lst, tup0, tup1, tup2, tup3, tup4, lst0, lst1, lst2, lst3, lst4, lst5, e_idx, idx2_ok, e_slc, slc3_ok, e_call, calR_ok, e_bf, bfR_ok, e_isi, isiR_int, isiR_bl, isiR_str, isiR_tup, isiR_lst, isiR_non, e_lent, lentR_ok, lentOk_int, lentOk_dct, lentOk_bl, lentOk_str, lentOk_non, e_comp, compR_ok, lstT_ok, blR_bl, t_and', andB_ok, t_or', orB_ok, t_not', notB_ok, t_cmp', t_chn', t_lent', t_v', truR_ok, t_yes', es_nil, es_cons, consR_ok, p_no, p_at, inR_int, i_seq', itsR_lst, itsR_tup, itsR_kl, i_rng1', i_rng2', thaw_nil, thaw_cons, thaw1_at, thawA_own, thawA_val, thawA_no, wipe_nil, wipe_cons, e_dnew, e_dnewN, s_clr, clrA_own, e_get1, e_get2, get1R_str, get2R_str, get2R_int, e_join, joinR_lst, e_lok, lokR_dct, lokR_lst, i_enum', i_zip', i_items', i_rev', enumR_lst, enumR_kl, enumR_dct, zipR_lst, zipR_tup, itemsR_dct, revR_lst, itsR_dct, s_frzL, thawL_at, thawB_own, thawB_val, thawB_no, bf_listD, bf_lenD, bf_dict, bf_sum, bf_all, bf_any, c_isN, c_notN, c_isB, c_notB, c_eqB, c_neB, c_leS, c_ltS, c_gtS, c_geS, c_inDs, c_notInDs, b_add, b_sub, b_mul, b_fdiv, b_mod, b_pow, b_cat, b_catS, c_eqI, c_neI, c_eqS, c_neS, c_lt, c_le, c_gt, c_ge, bf_abs, bf_lenL, bf_lenK, bf_lenT, bf_lenS, bf_max, bf_min, bf_list, bf_listT, bf_tuple, bf_tupleT, bf_int, tr_bl, slK, slL, e_fmt, fmtR_str, e_fst, fstR_ok, e_tix, e_maxd, maxdR_ok, e_sset, i_rng3', e_isc, e_isx, e_cald, e_mk, mkR_ok, e_fld, fldR_ok, e_mth, mthR_ok, mthX_ok, seq_nx, seq_ret, seq_brk, seq_exc, seq_ite, wh_nx, wh_brk, wh_ret, wh_exc, wh_ite, fin_nx, fin_ret, fin_exc, fin_ite, List.getElem?_cons_succ, List.getElem?_cons_zero, List.set_cons_zero, List.set_cons_succ, List.map_cons, List.map_nil, List.cons_append, List.nil_append, List.replicate_succ, List.replicate_zero, List.length_cons, List.length_nil, if_true, ite_true, if_false, ite_false, Bool.false_eq_true, decide_eq_true_eq, decide_not, Bool.not_eq_true', Bool.not_true, Bool.not_false, Bool.or_true, Bool.true_or, Bool.or_false, Bool.false_or, not_true_eq_false, not_false_eq_true, bne_iff_ne, ne_eq, reduceCtorEq, eq_self, decide_true, decide_false, dInt, dBl, Nat.reduceAdd, Nat.reduceSub, Nat.reduceLeDiff, Nat.zero_add, Int.reduceToNat, f_law_too_long, hl, q2]
  · have q2 : ¬ (2000 : Int) < (l.length : Nat) := by omega
    rw [decide_eq_false q, Bool.false_or]
    rcases long_loop ⟨run I fs m, I⟩ (.val (.str (tx l))) (.val (.lst (ps.map stD))) ps 0 .no with ⟨e1, e2⟩ | ⟨e1, d', a3', e2⟩
    · rw [e1]
      simp only [ss_nil, ss_cons, s_setF, setF_ok, s_setT, setT_ok, s_unp, unp_two, unp_three, s_exp, expR_ok, expR_exc, s_app, appA_own, s_ext, extA_own, s_put, putA_str, putA_int, s_try1, tryO_nx, tryO_ret, s_tryK, tryKO_nx, tryKO_ret, s_pop2, pop2A_str, s_pop1, popN_none, popN_some, s_upd, updA_dct, s_ret, retR_ok, s_retv, rvR_own, s_retN, s_ite, iteR_ok, s_whl, whT_ok, s_fr, frR_ok, s_brk, s_pas, s_rai, s_frz, e_var, var_val, e_lit, e_bin, bin2_ok, e_neg, negR_int, e_not, notR_bl, e_and, andR_bl, e_or, orR_bl, e_cmp, cmp2_ok, e_chn, chnR_bl, e_tup, e_lst, tup0, tup1, tup2, tup3, tup4, lst0, lst1, lst2, lst3, lst4, lst5, e_idx, idx2_ok, e_slc, slc3_ok, e_call, calR_ok, e_bf, bfR_ok, e_isi, isiR_int, isiR_bl, isiR_str, isiR_tup, isiR_lst, isiR_non, e_lent, lentR_ok, lentOk_int, lentOk_dct, lentOk_bl, lentOk_str, lentOk_non, e_comp, compR_ok, lstT_ok, blR_bl, t_and', andB_ok, t_or', orB_ok, t_not', notB_ok, t_cmp', t_chn', t_lent', t_v', truR_ok, t_yes', es_nil, es_cons, consR_ok, p_no, p_at, inR_int, i_seq', itsR_lst, itsR_tup, itsR_kl, i_rng1', i_rng2', thaw_nil, thaw_cons, thaw1_at, thawA_own, thawA_val, thawA_no, wipe_nil, wipe_cons, e_dnew, e_dnewN, s_clr, clrA_own, e_get1, e_get2, get1R_str, get2R_str, get2R_int, e_join, joinR_lst, e_lok, lokR_dct, lokR_lst, i_enum', i_zip', i_items', i_rev', enumR_lst, enumR_kl, enumR_dct, zipR_lst, zipR_tup, itemsR_dct, revR_lst, itsR_dct, s_frzL, thawL_at, thawB_own, thawB_val, thawB_no, bf_listD, bf_lenD, bf_dict, bf_sum, bf_all, bf_any, c_isN, c_notN, c_isB, c_notB, c_eqB, c_neB, c_leS, c_ltS, c_gtS, c_geS, c_inDs, c_notInDs, b_add, b_sub, b_mul, b_fdiv, b_mod, b_pow, b_cat, b_catS, c_eqI, c_neI, c_eqS, c_neS, c_lt, c_le, c_gt, c_ge, bf_abs, bf_lenL, bf_lenK, bf_lenT, bf_lenS, bf_max, bf_min, bf_list, bf_listT, bf_tuple, bf_tupleT, bf_int, tr_bl, slK, slL, e_fmt, fmtR_str, e_fst, fstR_ok, e_tix, e_maxd, maxdR_ok, e_sset, i_rng3', e_isc, e_isx, e_cald, e_mk, mkR_ok, e_fld, fldR_ok, e_mth, mthR_ok, mthX_ok, seq_nx, seq_ret, seq_brk, seq_exc, seq_ite, wh_nx, wh_brk, wh_ret, wh_exc, wh_ite, fin_nx, fin_ret, fin_exc, fin_ite, List.getElem?_cons_succ, List.getElem?_cons_zero, List.set_cons_zero, List.set_cons_succ, List.map_cons, List.map_nil, List.cons_append, List.nil_append, List.replicate_succ, List.replicate_zero, List.length_cons, List.length_nil, if_true, ite_true, if_false, ite_false, Bool.false_eq_true, decide_eq_true_eq, decide_not, Bool.not_eq_true', Bool.not_true, Bool.not_false, Bool.or_true, Bool.true_or, Bool.or_false, Bool.false_or, not_true_eq_false, not_false_eq_true, bne_iff_ne, ne_eq, reduceCtorEq, eq_self, decide_true, decide_false, dInt, dBl, Nat.reduceAdd, Nat.reduceSub, Nat.reduceLeDiff, Nat.zero_add, Int.reduceToNat, f_law_too_long, hl, q2, e2]
    · rw [e1]
      simp only [ss_nil, ss_cons, s_setF, setF_ok, s_setT, setT_ok, s_unp, unp_two, unp_three, s_exp, expR_ok, expR_exc, s_app, appA_own, s_ext, extA_own, s_put, putA_str, putA_int, s_try1, tryO_nx, tryO_ret, s_tryK, tryKO_nx, tryKO_ret, s_pop2, pop2A_str, s_pop1, popN_none, popN_some, s_upd, updA_dct, s_ret, retR_ok, s_retv, rvR_own, s_retN, s_ite, iteR_ok, s_whl, whT_ok, s_fr, frR_ok, s_brk, s_pas, s_rai, s_frz, e_var, var_val, e_lit, e_bin, bin2_ok, e_neg, negR_int, e_not, notR_bl, e_and, andR_bl, e_or, orR_bl, e_cmp, cmp2_ok, e_chn, chnR_bl, e_tup, e_lst, tup0, tup1, tup2, tup3, tup4, lst0, lst1, lst2, lst3, lst4, lst5, e_idx, idx2_ok, e_slc, slc3_ok, e_call, calR_ok, e_bf, bfR_ok, e_isi, isiR_int, isiR_bl, isiR_str, isiR_tup, isiR_lst, isiR_non, e_lent, lentR_ok, lentOk_int, lentOk_dct, lentOk_bl, lentOk_str, lentOk_non, e_comp, compR_ok, lstT_ok, blR_bl, t_and', andB_ok, t_or', orB_ok, t_not', notB_ok, t_cmp', t_chn', t_lent', t_v', truR_ok, t_yes', es_nil, es_cons, consR_ok, p_no, p_at, inR_int, i_seq', itsR_lst, itsR_tup, itsR_kl, i_rng1', i_rng2', thaw_nil, thaw_cons, thaw1_at, thawA_own, thawA_val, thawA_no, wipe_nil, wipe_cons, e_dnew, e_dnewN, s_clr, clrA_own, e_get1, e_get2, get1R_str, get2R_str, get2R_int, e_join, joinR_lst, e_lok, lokR_dct, lokR_lst, i_enum', i_zip', i_items', i_rev', enumR_lst, enumR_kl, enumR_dct, zipR_lst, zipR_tup, itemsR_dct, revR_lst, itsR_dct, s_frzL, thawL_at, thawB_own, thawB_val, thawB_no, bf_listD, bf_lenD, bf_dict, bf_sum, bf_all, bf_any, c_isN, c_notN, c_isB, c_notB, c_eqB, c_neB, c_leS, c_ltS, c_gtS, c_geS, c_inDs, c_notInDs, b_add, b_sub, b_mul, b_fdiv, b_mod, b_pow, b_cat, b_catS, c_eqI, c_neI, c_eqS, c_neS, c_lt, c_le, c_gt, c_ge, bf_abs, bf_lenL, bf_lenK, bf_lenT, bf_lenS, bf_max, bf_min, bf_list, bf_listT, bf_tuple, bf_tupleT, bf_int, tr_bl, slK, slL, e_fmt, fmtR_str, e_fst, fstR_ok, e_tix, e_maxd, maxdR_ok, e_sset, i_rng3', e_isc, e_isx, e_cald, e_mk, mkR_ok, e_fld, fldR_ok, e_mth, mthR_ok, mthX_ok, seq_nx, seq_ret, seq_brk, seq_exc, seq_ite, wh_nx, wh_brk, wh_ret, wh_exc, wh_ite, fin_nx, fin_ret, fin_exc, fin_ite, List.getElem?_cons_succ, List.getElem?_cons_zero, List.set_cons_zero, List.set_cons_succ, List.map_cons, List.map_nil, List.cons_append, List.nil_append, List.replicate_succ, List.replicate_zero, List.length_cons, List.length_nil, if_true, ite_true, if_false, ite_false, Bool.false_eq_true, decide_eq_true_eq, decide_not, Bool.not_eq_true', Bool.not_true, Bool.not_false, Bool.or_true, Bool.true_or, Bool.or_false, Bool.false_or, not_true_eq_false, not_false_eq_true, bne_iff_ne, ne_eq, reduceCtorEq, eq_self, decide_true, decide_false, dInt, dBl, Nat.reduceAdd, Nat.reduceSub, Nat.reduceLeDiff, Nat.zero_add, Int.reduceToNat, f_law_too_long, hl, q2, e2]
/-! the text of a row -/
theorem sp2 {i : Int} (h0 : 0 ≤ i) (h1 : i < 3) : slD (.str "  ") none (some i) = .ok (.str (tx (rep i.toNat)), false) := by
  have e : ("  " : Str) = tx (rep 2) := by decide +kernel
  have hc := cutS_take (rep 2) i.toNat
  rw [Int.toNat_of_nonneg h0] at hc
  rw [slS, e, hc, List.take_replicate, Nat.min_eq_left (by omega)]
theorem text_loop {m : Nat} (hm : 1 ≤ m) (seed : Int) (ps : List (List Nat)) (hp : ∀ p ∈ ps, PcOk p ∧ p.length ≤ 61) (hl : ps.length ≤ 100) : ∀ (l j : Nat) (A last : List Nat) (a4 a5 : Sl), j + l = ps.length → A.length ≤ 2 + 63 * j → ∃ (gs : List (Nat × List Nat)) (last' : List Nat) (a4' a5' : Sl), frS ⟨run I fs m, I⟩ (.one 4) (.cons (.set 5 false (.slc (.lit (.str "  ")) .no (.at (.call "_law_mix" (.cons (.bin .add (.var 1) (.var 4)) (.cons (.lit (.int 0)) (.cons (.lit (.int 3)) .nil))))))) (.cons (.ite (.and (.cmp .eq (.var 5) (.lit (.str ""))) (.v (.call "_law_parted" (.cons (.var 3) (.cons (.idx (.var 0) (.var 4)) .nil))))) (.cons (.set 5 false (.lit (.str " "))) .nil) .nil) (.cons (.set 2 false (.bin .add (.bin .add (.var 2) (.var 5)) (.idx (.var 0) (.var 4)))) (.cons (.set 3 false (.idx (.var 0) (.var 4))) .nil)))) ((List.range' j l).map fun k => D.int (k : Nat)) [.val (.lst (ps.map stD)), .val (.int seed), .val (.str (tx A)), .val (.str (tx last)), a4, a5] = .nx [.val (.lst (ps.map stD)), .val (.int seed), .val (.str (tx (A ++ flat gs))), .val (.str (tx last')), a4', a5'] ∧ gs.map (·.2) = ps.drop j ∧ chain last gs ∧ (A ++ flat gs).length ≤ 2 + 63 * ps.length
  | 0, j, A, last, a4, a5, h, hA => ⟨[], last, a4, a5, by rw [flat, List.append_nil]; exact fr_nil .., by rw [List.drop_eq_nil_of_le (by omega)]; rfl, trivial, by rw [flat, List.append_nil]; omega⟩
  | l + 1, j, A, last, a4, a5, h, hA => by
    have hj : j < ps.length := by omega
    have hpj := hp ps[j] (List.getElem_mem hj)
    have hix := ix_lst (xs := ps.map stD) (k := j) (by rw [List.length_map]; exact hj)
    rw [List.getElem_map] at hix
    obtain ⟨p, hpe⟩ : ∃ p, ps[j] = p := ⟨_, rfl⟩
    rw [hpe] at hpj hix
    have hix : ixD (.lst (ps.map stD)) (.int (j : Nat)) = .ok (.str (tx p), false) := hix
    obtain ⟨i, hi, i0, i1⟩ := mix_in (n := m) hm (seed + j) 0 3 (by decide) (by decide)
    rw [show ((0 : Nat) : Int) = 0 from rfl] at hi
    have hs2 := sp2 i0 i1
    have hpa := parted_ok (n := m) hm last p (pc_ne hpj.1)
    have ie := c_eqT (rep i.toNat) []
    rw [em_def] at ie
    have er : (rep i.toNat = []) = (i.toNat = 0) := by
      cases i.toNat with
      | zero => simp
      | succ n => exact propext ⟨fun h => (nomatch h), fun h => (nomatch h)⟩
    simp only [er] at ie
    obtain ⟨g, hg⟩ : ∃ g : Nat, (if i.toNat = 0 ∧ parted last p = true then 1 else i.toNat) = g := ⟨_, rfl⟩
    have g3 : g ≤ 2 := by rw [← hg]; split <;> omega
    have gc : parted last p = true → 1 ≤ g := fun z => by rw [← hg]; split; exact Nat.le_refl _; rename_i q; by_cases i00 : i.toNat = 0; exact absurd ⟨i00, z⟩ q; omega
    have ct1 := cat_tx (a := A) (b := rep g) (by rw [List.length_replicate]; omega)
    have ct2 := cat_tx (a := A ++ rep g) (b := p) (by rw [List.length_append, List.length_replicate]; have := hpj.2; omega)
    have step : evSs ⟨run I fs m, I⟩ (.cons (.set 5 false (.slc (.lit (.str "  ")) .no (.at (.call "_law_mix" (.cons (.bin .add (.var 1) (.var 4)) (.cons (.lit (.int 0)) (.cons (.lit (.int 3)) .nil))))))) (.cons (.ite (.and (.cmp .eq (.var 5) (.lit (.str ""))) (.v (.call "_law_parted" (.cons (.var 3) (.cons (.idx (.var 0) (.var 4)) .nil))))) (.cons (.set 5 false (.lit (.str " "))) .nil) .nil) (.cons (.set 2 false (.bin .add (.bin .add (.var 2) (.var 5)) (.idx (.var 0) (.var 4)))) (.cons (.set 3 false (.idx (.var 0) (.var 4))) .nil)))) [.val (.lst (ps.map stD)), .val (.int seed), .val (.str (tx A)), .val (.str (tx last)), .val (.int (j : Nat)), a5] = .nx [.val (.lst (ps.map stD)), .val (.int seed), .val (.str (tx (A ++ rep g ++ p))), .val (.str (tx p)), .val (.int (j : Nat)), .val (.str (tx (rep g)))] := by
      by_cases i00 : i.toNat = 0
      · have i01 := eq_true i00
        cases ep : parted last p with
        | true =>
          rw [if_pos ⟨i00, ep⟩] at hg
          subst hg
          rw [show (rep 1 : List Nat) = [32] from rfl, sp_def] at ct1
          rw [show (rep 1 : List Nat) = [32] from rfl] at ct2 ⊢
          rw [ep] at hpa
          rw [sp_def]
          simp only [ss_nil, ss_cons, s_setF, setF_ok, s_setT, setT_ok, s_unp, unp_two, unp_three, s_exp, expR_ok, expR_exc, s_app, appA_own, s_ext, extA_own, s_put, putA_str, putA_int, s_try1, tryO_nx, tryO_ret, s_tryK, tryKO_nx, tryKO_ret, s_pop2, pop2A_str, s_pop1, popN_none, popN_some, s_upd, updA_dct, s_ret, retR_ok, s_retv, rvR_own, s_retN, s_ite, iteR_ok, s_whl, whT_ok, s_fr, frR_ok, s_brk, s_pas, s_rai, s_frz, e_var, var_val, e_lit, e_bin, bin2_ok, e_neg, negR_int, e_not, notR_bl, e_and, andR_bl, e_or, orR_bl, e_cmp, cmp2_ok, e_chn, chnR_bl, e_tup, e_lst, tup0, tup1, tup2, tup3, tup4, lst0, lst1, lst2, lst3, lst4, lst5, e_idx, idx2_ok, e_slc, slc3_ok, e_call, calR_ok, e_bf, bfR_ok, e_isi, isiR_int, isiR_bl, isiR_str, isiR_tup, isiR_lst, isiR_non, e_lent, lentR_ok, lentOk_int, lentOk_dct, lentOk_bl, lentOk_str, lentOk_non, e_comp, compR_ok, lstT_ok, blR_bl, t_and', andB_ok, t_or', orB_ok, t_not', notB_ok, t_cmp', t_chn', t_lent', t_v', truR_ok, t_yes', es_nil, es_cons, consR_ok, p_no, p_at, inR_int, i_seq', itsR_lst, itsR_tup, itsR_kl, i_rng1', i_rng2', thaw_nil, thaw_cons, thaw1_at, thawA_own, thawA_val, thawA_no, wipe_nil, wipe_cons, e_dnew, e_dnewN, s_clr, clrA_own, e_get1, e_get2, get1R_str, get2R_str, get2R_int, e_join, joinR_lst, e_lok, lokR_dct, lokR_lst, i_enum', i_zip', i_items', i_rev', enumR_lst, enumR_kl, enumR_dct, zipR_lst, zipR_tup, itemsR_dct, revR_lst, itsR_dct, s_frzL, thawL_at, thawB_own, thawB_val, thawB_no, bf_listD, bf_lenD, bf_dict, bf_sum, bf_all, bf_any, c_isN, c_notN, c_isB, c_notB, c_eqB, c_neB, c_leS, c_ltS, c_gtS, c_geS, c_inDs, c_notInDs, b_add, b_sub, b_mul, b_fdiv, b_mod, b_pow, b_cat, b_catS, c_eqI, c_neI, c_eqS, c_neS, c_lt, c_le, c_gt, c_ge, bf_abs, bf_lenL, bf_lenK, bf_lenT, bf_lenS, bf_max, bf_min, bf_list, bf_listT, bf_tuple, bf_tupleT, bf_int, tr_bl, slK, slL, e_fmt, fmtR_str, e_fst, fstR_ok, e_tix, e_maxd, maxdR_ok, e_sset, i_rng3', e_isc, e_isx, e_cald, e_mk, mkR_ok, e_fld, fldR_ok, e_mth, mthR_ok, mthX_ok, seq_nx, seq_ret, seq_brk, seq_exc, seq_ite, wh_nx, wh_brk, wh_ret, wh_exc, wh_ite, fin_nx, fin_ret, fin_exc, fin_ite, List.getElem?_cons_succ, List.getElem?_cons_zero, List.set_cons_zero, List.set_cons_succ, List.map_cons, List.map_nil, List.cons_append, List.nil_append, List.replicate_succ, List.replicate_zero, List.length_cons, List.length_nil, if_true, ite_true, if_false, ite_false, Bool.false_eq_true, decide_eq_true_eq, decide_not, Bool.not_eq_true', Bool.not_true, Bool.not_false, Bool.or_true, Bool.true_or, Bool.or_false, Bool.false_or, not_true_eq_false, not_false_eq_true, bne_iff_ne, ne_eq, reduceCtorEq, eq_self, decide_true, decide_false, dInt, dBl, Nat.reduceAdd, Nat.reduceSub, Nat.reduceLeDiff, Nat.zero_add, Int.reduceToNat, hi, hs2, ie, i01, hix, hpa, ct1, ct2]
        | false =>
          rw [if_neg (fun z => by rw [ep] at z; cases z.2)] at hg
          subst hg
          rw [ep] at hpa
          simp only [ss_nil, ss_cons, s_setF, setF_ok, s_setT, setT_ok, s_unp, unp_two, unp_three, s_exp, expR_ok, expR_exc, s_app, appA_own, s_ext, extA_own, s_put, putA_str, putA_int, s_try1, tryO_nx, tryO_ret, s_tryK, tryKO_nx, tryKO_ret, s_pop2, pop2A_str, s_pop1, popN_none, popN_some, s_upd, updA_dct, s_ret, retR_ok, s_retv, rvR_own, s_retN, s_ite, iteR_ok, s_whl, whT_ok, s_fr, frR_ok, s_brk, s_pas, s_rai, s_frz, e_var, var_val, e_lit, e_bin, bin2_ok, e_neg, negR_int, e_not, notR_bl, e_and, andR_bl, e_or, orR_bl, e_cmp, cmp2_ok, e_chn, chnR_bl, e_tup, e_lst, tup0, tup1, tup2, tup3, tup4, lst0, lst1, lst2, lst3, lst4, lst5, e_idx, idx2_ok, e_slc, slc3_ok, e_call, calR_ok, e_bf, bfR_ok, e_isi, isiR_int, isiR_bl, isiR_str, isiR_tup, isiR_lst, isiR_non, e_lent, lentR_ok, lentOk_int, lentOk_dct, lentOk_bl, lentOk_str, lentOk_non, e_comp, compR_ok, lstT_ok, blR_bl, t_and', andB_ok, t_or', orB_ok, t_not', notB_ok, t_cmp', t_chn', t_lent', t_v', truR_ok, t_yes', es_nil, es_cons, consR_ok, p_no, p_at, inR_int, i_seq', itsR_lst, itsR_tup, itsR_kl, i_rng1', i_rng2', thaw_nil, thaw_cons, thaw1_at, thawA_own, thawA_val, thawA_no, wipe_nil, wipe_cons, e_dnew, e_dnewN, s_clr, clrA_own, e_get1, e_get2, get1R_str, get2R_str, get2R_int, e_join, joinR_lst, e_lok, lokR_dct, lokR_lst, i_enum', i_zip', i_items', i_rev', enumR_lst, enumR_kl, enumR_dct, zipR_lst, zipR_tup, itemsR_dct, revR_lst, itsR_dct, s_frzL, thawL_at, thawB_own, thawB_val, thawB_no, bf_listD, bf_lenD, bf_dict, bf_sum, bf_all, bf_any, c_isN, c_notN, c_isB, c_notB, c_eqB, c_neB, c_leS, c_ltS, c_gtS, c_geS, c_inDs, c_notInDs, b_add, b_sub, b_mul, b_fdiv, b_mod, b_pow, b_cat, b_catS, c_eqI, c_neI, c_eqS, c_neS, c_lt, c_le, c_gt, c_ge, bf_abs, bf_lenL, bf_lenK, bf_lenT, bf_lenS, bf_max, bf_min, bf_list, bf_listT, bf_tuple, bf_tupleT, bf_int, tr_bl, slK, slL, e_fmt, fmtR_str, e_fst, fstR_ok, e_tix, e_maxd, maxdR_ok, e_sset, i_rng3', e_isc, e_isx, e_cald, e_mk, mkR_ok, e_fld, fldR_ok, e_mth, mthR_ok, mthX_ok, seq_nx, seq_ret, seq_brk, seq_exc, seq_ite, wh_nx, wh_brk, wh_ret, wh_exc, wh_ite, fin_nx, fin_ret, fin_exc, fin_ite, List.getElem?_cons_succ, List.getElem?_cons_zero, List.set_cons_zero, List.set_cons_succ, List.map_cons, List.map_nil, List.cons_append, List.nil_append, List.replicate_succ, List.replicate_zero, List.length_cons, List.length_nil, if_true, ite_true, if_false, ite_false, Bool.false_eq_true, decide_eq_true_eq, decide_not, Bool.not_eq_true', Bool.not_true, Bool.not_false, Bool.or_true, Bool.true_or, Bool.or_false, Bool.false_or, not_true_eq_false, not_false_eq_true, bne_iff_ne, ne_eq, reduceCtorEq, eq_self, decide_true, decide_false, dInt, dBl, Nat.reduceAdd, Nat.reduceSub, Nat.reduceLeDiff, Nat.zero_add, Int.reduceToNat, hi, hs2, ie, i01, hix, hpa, ct1, ct2]
      · rw [if_neg (fun z => i00 z.1)] at hg
        subst hg
        have i01 := eq_false i00
        simp only [ss_nil, ss_cons, s_setF, setF_ok, s_setT, setT_ok, s_unp, unp_two, unp_three, s_exp, expR_ok, expR_exc, s_app, appA_own, s_ext, extA_own, s_put, putA_str, putA_int, s_try1, tryO_nx, tryO_ret, s_tryK, tryKO_nx, tryKO_ret, s_pop2, pop2A_str, s_pop1, popN_none, popN_some, s_upd, updA_dct, s_ret, retR_ok, s_retv, rvR_own, s_retN, s_ite, iteR_ok, s_whl, whT_ok, s_fr, frR_ok, s_brk, s_pas, s_rai, s_frz, e_var, var_val, e_lit, e_bin, bin2_ok, e_neg, negR_int, e_not, notR_bl, e_and, andR_bl, e_or, orR_bl, e_cmp, cmp2_ok, e_chn, chnR_bl, e_tup, e_lst, tup0, tup1, tup2, tup3, tup4, lst0, lst1, lst2, lst3, lst4, lst5, e_idx, idx2_ok, e_slc, slc3_ok, e_call, calR_ok, e_bf, bfR_ok, e_isi, isiR_int, isiR_bl, isiR_str, isiR_tup, isiR_lst, isiR_non, e_lent, lentR_ok, lentOk_int, lentOk_dct, lentOk_bl, lentOk_str, lentOk_non, e_comp, compR_ok, lstT_ok, blR_bl, t_and', andB_ok, t_or', orB_ok, t_not', notB_ok, t_cmp', t_chn', t_lent', t_v', truR_ok, t_yes', es_nil, es_cons, consR_ok, p_no, p_at, inR_int, i_seq', itsR_lst, itsR_tup, itsR_kl, i_rng1', i_rng2', thaw_nil, thaw_cons, thaw1_at, thawA_own, thawA_val, thawA_no, wipe_nil, wipe_cons, e_dnew, e_dnewN, s_clr, clrA_own, e_get1, e_get2, get1R_str, get2R_str, get2R_int, e_join, joinR_lst, e_lok, lokR_dct, lokR_lst, i_enum', i_zip', i_items', i_rev', enumR_lst, enumR_kl, enumR_dct, zipR_lst, zipR_tup, itemsR_dct, revR_lst, itsR_dct, s_frzL, thawL_at, thawB_own, thawB_val, thawB_no, bf_listD, bf_lenD, bf_dict, bf_sum, bf_all, bf_any, c_isN, c_notN, c_isB, c_notB, c_eqB, c_neB, c_leS, c_ltS, c_gtS, c_geS, c_inDs, c_notInDs, b_add, b_sub, b_mul, b_fdiv, b_mod, b_pow, b_cat, b_catS, c_eqI, c_neI, c_eqS, c_neS, c_lt, c_le, c_gt, c_ge, bf_abs, bf_lenL, bf_lenK, bf_lenT, bf_lenS, bf_max, bf_min, bf_list, bf_listT, bf_tuple, bf_tupleT, bf_int, tr_bl, slK, slL, e_fmt, fmtR_str, e_fst, fstR_ok, e_tix, e_maxd, maxdR_ok, e_sset, i_rng3', e_isc, e_isx, e_cald, e_mk, mkR_ok, e_fld, fldR_ok, e_mth, mthR_ok, mthX_ok, seq_nx, seq_ret, seq_brk, seq_exc, seq_ite, wh_nx, wh_brk, wh_ret, wh_exc, wh_ite, fin_nx, fin_ret, fin_exc, fin_ite, List.getElem?_cons_succ, List.getElem?_cons_zero, List.set_cons_zero, List.set_cons_succ, List.map_cons, List.map_nil, List.cons_append, List.nil_append, List.replicate_succ, List.replicate_zero, List.length_cons, List.length_nil, if_true, ite_true, if_false, ite_false, Bool.false_eq_true, decide_eq_true_eq, decide_not, Bool.not_eq_true', Bool.not_true, Bool.not_false, Bool.or_true, Bool.true_or, Bool.or_false, Bool.false_or, not_true_eq_false, not_false_eq_true, bne_iff_ne, ne_eq, reduceCtorEq, eq_self, decide_true, decide_false, dInt, dBl, Nat.reduceAdd, Nat.reduceSub, Nat.reduceLeDiff, Nat.zero_add, Int.reduceToNat, hi, hs2, ie, i01, hix, ct1, ct2]
    obtain ⟨gs, last', a4', a5', e1, e2, e3, e4⟩ := text_loop hm seed ps hp hl l (j + 1) (A ++ rep g ++ p) p (.val (.int (j : Nat))) (.val (.str (tx (rep g)))) (by omega) (by rw [List.length_append, List.length_append, List.length_replicate]; have := hpj.2; omega)
    have eA : A ++ rep g ++ p ++ flat gs = A ++ flat ((g, p) :: gs) := by rw [flat]; simp only [List.append_assoc]
    rw [eA] at e1 e4
    refine ⟨(g, p) :: gs, last', a4', a5', ?_, ?_, ⟨gc, e3⟩, e4⟩
    · rw [List.range'_succ, List.map_cons, fr_one]
      show Out.wh (evSs ⟨run I fs m, I⟩ _ [.val (.lst (ps.map stD)), .val (.int seed), .val (.str (tx A)), .val (.str (tx last)), .val (.int (j : Nat)), a5]) _ = _
      rw [step, wh_nx, e1]
    · rw [List.map_cons, e2, List.drop_eq_getElem_cons hj, hpe]
theorem text_of_ok {n : Nat} (hn : 2 ≤ n) (seed : Int) (ps : List (List Nat)) (hp : ∀ p ∈ ps, PcOk p ∧ p.length ≤ 61) (hl : ps.length ≤ 100) : ∃ (gs : List (Nat × List Nat)) (e : Nat), run I fs n "_law_text_of" [.lst (ps.map stD), .int seed] = .ok (.str (tx (flat gs ++ rep e)), false) ∧ gs.map (·.2) = ps ∧ chain [] gs ∧ (flat gs ++ rep e).length ≤ 10000 := by
  obtain ⟨m, rfl⟩ := dpos (n := n) (by omega)
  rw [e_law_text_of _ _ rfl]
  have n3 : ¬ (3 : Int) = 0 := by decide
  have d3 : DivOk seed 3 := div_ok (by decide) (by decide)
  have b1 := mod_bd (i := seed) (n := 3) (by decide)
  have b2 := mod_bd (i := seed.fdiv 3) (n := 3) (by decide)
  have s1 := sp2 b1.1 b1.2
  have s2 := sp2 b2.1 b2.2
  have hr := rng1_nat (n := ps.length) (p := false) (by omega)
  have hrr : rngD 0 ps.length = (List.range' 0 ps.length).map fun k => D.int (k : Nat) := by
    rw [rngD_map, List.map_map, List.range_eq_range']; rfl
  rw [hrr] at hr
  obtain ⟨gs, last', a4', a5', e1, e2, e3, e4⟩ := text_loop (m := m) (by omega) seed ps hp hl ps.length 0 (rep (seed.fmod 3).toNat) [] .no .no (by omega) (by rw [List.length_replicate]; omega)
  rw [em_def] at e1
  have ct := cat_tx (a := rep (seed.fmod 3).toNat ++ flat gs) (b := rep ((seed.fdiv 3).fmod 3).toNat) (by rw [List.length_replicate]; omega)
  have hrun : (evSs ⟨run I fs m, I⟩ f_law_text_of.body ([D.lst (ps.map stD), .int seed].map Sl.val ++ List.replicate (6 - [D.lst (ps.map stD), .int seed].length) .no)).fin = .ok (.str (tx (rep (seed.fmod 3).toNat ++ flat gs ++ rep ((seed.fdiv 3).fmod 3).toNat)), false) := by
    simp only [ss_nil, ss_cons, s_setF, setF_ok, s_setT, setT_ok, s_unp, unp_two, unp_three, s_exp, expR_ok, expR_exc, s_app, appA_own, s_ext, extA_own, s_put, putA_str, putA_int, s_try1, tryO_nx, tryO_ret, s_tryK, tryKO_nx, tryKO_ret, s_pop2, pop2A_str, s_pop1, popN_none, popN_some, s_upd, updA_dct, s_ret, retR_ok, s_retv, rvR_own, s_retN, s_ite, iteR_ok, s_whl, whT_ok, s_fr, frR_ok, s_brk, s_pas, s_rai, s_frz, e_var, var_val, e_lit, e_bin, bin2_ok, e_neg, negR_int, e_not, notR_bl, e_and, andR_bl, e_or, orR_bl, e_cmp, cmp2_ok, e_chn, chnR_bl, e_tup, e_lst, tup0, tup1, tup2, tup3, tup4, lst0, lst1, lst2, lst3, lst4, lst5, e_idx, idx2_ok, e_slc, slc3_ok, e_call, calR_ok, e_bf, bfR_ok, e_isi, isiR_int, isiR_bl, isiR_str, isiR_tup, isiR_lst, isiR_non, e_lent, lentR_ok, lentOk_int, lentOk_dct, lentOk_bl, lentOk_str, lentOk_non, e_comp, compR_ok, lstT_ok, blR_bl, t_and', andB_ok, t_or', orB_ok, t_not', notB_ok, t_cmp', t_chn', t_lent', t_v', truR_ok, t_yes', es_nil, es_cons, consR_ok, p_no, p_at, inR_int, i_seq', itsR_lst, itsR_tup, itsR_kl, i_rng1', i_rng2', thaw_nil, thaw_cons, thaw1_at, thawA_own, thawA_val, thawA_no, wipe_nil, wipe_cons, e_dnew, e_dnewN, s_clr, clrA_own, e_get1, e_get2, get1R_str, get2R_str, get2R_int, e_join, joinR_lst, e_lok, lokR_dct, lokR_lst, i_enum', i_zip', i_items', i_rev', enumR_lst, enumR_kl, enumR_dct, zipR_lst, zipR_tup, itemsR_dct, revR_lst, itsR_dct, s_frzL, thawL_at, thawB_own, thawB_val, thawB_no, bf_listD, bf_lenD, bf_dict, bf_sum, bf_all, bf_any, c_isN, c_notN, c_isB, c_notB, c_eqB, c_neB, c_leS, c_ltS, c_gtS, c_geS, c_inDs, c_notInDs, b_add, b_sub, b_mul, b_fdiv, b_mod, b_pow, b_cat, b_catS, c_eqI, c_neI, c_eqS, c_neS, c_lt, c_le, c_gt, c_ge, bf_abs, bf_lenL, bf_lenK, bf_lenT, bf_lenS, bf_max, bf_min, bf_list, bf_listT, bf_tuple, bf_tupleT, bf_int, tr_bl, slK, slL, e_fmt, fmtR_str, e_fst, fstR_ok, e_tix, e_maxd, maxdR_ok, e_sset, i_rng3', e_isc, e_isx, e_cald, e_mk, mkR_ok, e_fld, fldR_ok, e_mth, mthR_ok, mthX_ok, seq_nx, seq_ret, seq_brk, seq_exc, seq_ite, wh_nx, wh_brk, wh_ret, wh_exc, wh_ite, fin_nx, fin_ret, fin_exc, fin_ite, List.getElem?_cons_succ, List.getElem?_cons_zero, List.set_cons_zero, List.set_cons_succ, List.map_cons, List.map_nil, List.cons_append, List.nil_append, List.replicate_succ, List.replicate_zero, List.length_cons, List.length_nil, if_true, ite_true, if_false, ite_false, Bool.false_eq_true, decide_eq_true_eq, decide_not, Bool.not_eq_true', Bool.not_true, Bool.not_false, Bool.or_true, Bool.true_or, Bool.or_false, Bool.false_or, not_true_eq_false, not_false_eq_true, bne_iff_ne, ne_eq, reduceCtorEq, eq_self, decide_true, decide_false, dInt, dBl, Nat.reduceAdd, Nat.reduceSub, Nat.reduceLeDiff, Nat.zero_add, Int.reduceToNat, f_law_text_of, n3, s1, hr, List.length_map, e1, d3, s2, ct]
  rw [hrun]
  rw [List.drop_zero] at e2
  cases gs with
  | nil =>
    refine ⟨[], (seed.fmod 3).toNat + ((seed.fdiv 3).fmod 3).toNat, ?_, e2, trivial, ?_⟩
    · rw [flat, List.append_nil, List.nil_append, List.replicate_append_replicate]
    · rw [flat, List.nil_append, List.length_replicate]; omega
  | cons q gs =>
    refine ⟨((seed.fmod 3).toNat + q.1, q.2) :: gs, ((seed.fdiv 3).fmod 3).toNat, ?_, e2, ⟨fun z => by have := e3.1 z; show 1 ≤ _ + q.1; omega, e3.2⟩, ?_⟩
    · have ee : rep (seed.fmod 3).toNat ++ flat (q :: gs) = flat (((seed.fmod 3).toNat + q.1, q.2) :: gs) := by rw [flat, flat, ← List.append_assoc, List.replicate_append_replicate]
      rw [ee]
    · have ee : rep (seed.fmod 3).toNat ++ flat (q :: gs) = flat (((seed.fmod 3).toNat + q.1, q.2) :: gs) := by rw [flat, flat, ← List.append_assoc, List.replicate_append_replicate]
      rw [← ee, List.length_append, List.length_replicate]; omega
/-! rows -/
theorem join_txm : ∀ l : List Nat, Str.join "" (l.map fun c => tx [c]) = tx l
  | [] => rfl
  | [c] => rfl
  | c :: d :: l => by
    have ih := join_txm (d :: l)
    show (tx [c] ++ ("" : Str)) ++ Str.join "" ((d :: l).map fun c => tx [c]) = _
    rw [ih, show ("" : Str) = tx [] from rfl, tx_app, tx_app]; rfl
theorem joinS_txm {l : List Nat} (h : l.length ≤ 100000) : joinS "" (l.map fun c => D.str (tx [c])) = .ok (.str (tx l), false) := by
  have e0 : Txt.join "" (l.map fun c => tx [c]) = tx l := by rw [TL.join_eq]; exact join_txm l
  have e1 : (l.map fun c => D.str (tx [c])) = (l.map fun c => tx [c]).map D.str := by rw [List.map_map]; rfl
  rw [e1, ← e0]
  refine join_ok ?_ (by rw [e0, tx_len]; exact Nat.le_trans h (by decide))
  have : ((l.map fun c => tx [c]).map (·.length)).sum = l.length := by
    rw [List.map_map]
    clear h e0 e1
    induction l with
    | nil => rfl
    | cons c l ih => rw [List.map_cons, List.sum_cons, ih, List.length_cons]; show 1 + _ = _; omega
  rw [this, List.length_map, show ("" : Str).length = 0 from rfl]
  show l.length + l.length * 0 ≤ 16777216
  omega
def Low (p : List Nat) : Prop := ∀ c ∈ p, c < 128
theorem let_low : (∀ c ∈ LET, c < 128) ∧ (∀ c ∈ FIG, c < 128) ∧ (∀ c ∈ SIG, c < 128) ∧ (∀ c ∈ AL ++ AL2, c < 128) := by decide +kernel
theorem good_low {p : List Nat} (h : Good p) : Low p := by
  obtain ⟨l1, l2, l3, _⟩ := let_low
  rcases h with ⟨h, _⟩ | h | ⟨c, hc, rfl⟩ | rfl | rfl
  · intro c hc
    rcases List.mem_append.mp (isW_all h c hc) with z | z
    · exact l1 c z
    · exact l2 c z
  · intro c hc; exact l2 c (h.2 c hc)
  · intro d hd
    rw [List.mem_singleton.mp hd]; exact l3 c hc
  · intro c hc
    simp only [List.mem_cons, List.not_mem_nil, or_false] at hc
    omega
  · intro c hc
    simp only [List.mem_cons, List.not_mem_nil, or_false] at hc
    omega
theorem cmpOk_tx {p : List Nat} (h : Low p) : cmpOk 63 (.str (tx p)) = true := by
  show Array.all (tx p).cps (fun c => decide (c < 0x110000)) = true
  rw [Array.all_eq_true']
  intro c hc
  have := h c (by simpa [tx] using hc)
  simp only [decide_eq_true_eq]
  omega
theorem eqDs_st : ∀ ps : List (List Nat), eqDs (ps.map stD) (ps.map stD) = true
  | [] => rfl
  | p :: ps => by
    rw [List.map_cons, eqDs, eqDs_st ps, Bool.and_true]
    show (tx p == tx p) = true
    exact beq_self_eq_true _
theorem cmpOks_st : ∀ ps : List (List Nat), (∀ p ∈ ps, Low p) → cmpOks 63 (ps.map stD) = true
  | [], _ => rfl
  | p :: ps, h => by
    rw [List.map_cons, cmpOks, cmpOks_st ps fun q hq => h q (List.mem_cons_of_mem _ hq), Bool.and_true]
    exact cmpOk_tx (h p List.mem_cons_self)
theorem eq_st {ps : List (List Nat)} (h : ∀ p ∈ ps, Low p) : cmpD .eq (.lst (ps.map stD)) (.lst (ps.map stD)) = .ok (.bl true, false) ∧ cmpD .ne (.lst (ps.map stD)) (.lst (ps.map stD)) = .ok (.bl false, false) := by
  have a : eqOk (.lst (ps.map stD)) (.lst (ps.map stD)) = true := by
    unfold eqOk
    have : cmpOk 64 (.lst (ps.map stD)) = true := cmpOks_st ps h
    rw [this, Bool.and_self, Bool.or_true]
  have b : eqD (.lst (ps.map stD)) (.lst (ps.map stD)) = true := eqDs_st ps
  constructor
  · show (if eqDct (.lst (ps.map stD)) (.lst (ps.map stD)) = true then dBl true else if eqOk _ _ = true then dBl (eqD _ _) else Rz.bad) = _
    rw [a, b, if_neg (show ¬ eqDct (.lst (ps.map stD)) (.lst (ps.map stD)) = true from Bool.false_ne_true)]; rfl
  · show (if eqDct (.lst (ps.map stD)) (.lst (ps.map stD)) = true then dBl false else if eqOk _ _ = true then dBl (!eqD _ _) else Rz.bad) = _
    rw [a, b, if_neg (show ¬ eqDct (.lst (ps.map stD)) (.lst (ps.map stD)) = true from Bool.false_ne_true)]; rfl
theorem sts_ex {Q : List Nat → Prop} : ∀ ys : List D, (∀ y ∈ ys, ∃ p, y = stD p ∧ Q p) → ∃ ps : List (List Nat), ys = ps.map stD ∧ ∀ p ∈ ps, Q p
  | [], _ => ⟨[], rfl, fun _ z => by cases z⟩
  | y :: ys, h => by
    obtain ⟨r, rfl, hr⟩ := h y List.mem_cons_self
    obtain ⟨rs, rfl, hrs⟩ := sts_ex ys fun y hy => h y (List.mem_cons_of_mem _ hy)
    exact ⟨r :: rs, rfl, fun z hz => by
      rcases List.mem_cons.mp hz with e | hz
      · rw [e]; exact hr
      · exact hrs z hz⟩
/-- the row: good, or with one alien -/
def RowOk (second : Int) (ps : List (List Nat)) : Prop := (¬ second.fmod 3 = 1 ∧ ∀ p ∈ ps, Good p) ∨ (second.fmod 3 = 1 ∧ ∃ p1 a p2, ps = p1 ++ a :: p2 ∧ (∀ p ∈ p1, Good p) ∧ isA a ∧ ∀ p ∈ p2, Good p)
theorem par_good : Good [40] := .inr (.inr (.inl ⟨40, by decide +kernel, rfl⟩))
theorem row_by_ok {n : Nat} (hn : 2 ≤ n) (cells : List Int) (hc : cells.length ≤ 50) (first second : Int) : ∃ ps, run I fs n "_law_row_by" [.lst (cells.map .int), .int first, .int second] = .ok (.lst (ps.map stD), false) ∧ RowOk second ps ∧ (∀ p ∈ ps, PcOk p ∧ p.length ≤ 61) ∧ ps.length ≤ 100 := by
  obtain ⟨m, rfl⟩ := dpos (n := n) (by omega)
  rw [e_law_row_by _ _ rfl]
  have n4 : ¬ (4 : Int) = 0 := by decide
  have n5 : ¬ (5 : Int) = 0 := by decide
  have n3 : ¬ (3 : Int) = 0 := by decide
  have d4 : DivOk first 4 := div_ok (by decide) (by decide)
  have d3 : DivOk second 3 := div_ok (by decide) (by decide)
  have d101 : DivOk second 101 := div_ok (by decide) (by decide)
  obtain ⟨ys, c1, c2, c3⟩ := comp_ex (C := ⟨run I fs m, I⟩) (tg := .one 5) (e := .call "_law_piece_by" (.cons (.var 5) .nil)) (ρ := [.val (.lst (cells.map .int)), .val (.int first), .val (.int second), .no, .no, .no, .no]) (P := fun y => ∃ p, y = stD p ∧ (Good p ∧ p.length ≤ 61)) (cells.map D.int) fun d hd => by
    obtain ⟨i, _, rfl⟩ := List.mem_map.mp hd
    obtain ⟨p, h1, h2, h3⟩ := piece_by_ok (n := m) (by omega) i
    refine ⟨_, stD p, false, rfl, ?_, p, rfl, h2, h3⟩
    simp only [ss_nil, ss_cons, s_setF, setF_ok, s_setT, setT_ok, s_unp, unp_two, unp_three, s_exp, expR_ok, expR_exc, s_app, appA_own, s_ext, extA_own, s_put, putA_str, putA_int, s_try1, tryO_nx, tryO_ret, s_tryK, tryKO_nx, tryKO_ret, s_pop2, pop2A_str, s_pop1, popN_none, popN_some, s_upd, updA_dct, s_ret, retR_ok, s_retv, rvR_own, s_retN, s_ite, iteR_ok, s_whl, whT_ok, s_fr, frR_ok, s_brk, s_pas, s_rai, s_frz, e_var, var_val, e_lit, e_bin, bin2_ok, e_neg, negR_int, e_not, notR_bl, e_and, andR_bl, e_or, orR_bl, e_cmp, cmp2_ok, e_chn, chnR_bl, e_tup, e_lst, tup0, tup1, tup2, tup3, tup4, lst0, lst1, lst2, lst3, lst4, lst5, e_idx, idx2_ok, e_slc, slc3_ok, e_call, calR_ok, e_bf, bfR_ok, e_isi, isiR_int, isiR_bl, isiR_str, isiR_tup, isiR_lst, isiR_non, e_lent, lentR_ok, lentOk_int, lentOk_dct, lentOk_bl, lentOk_str, lentOk_non, e_comp, compR_ok, lstT_ok, blR_bl, t_and', andB_ok, t_or', orB_ok, t_not', notB_ok, t_cmp', t_chn', t_lent', t_v', truR_ok, t_yes', es_nil, es_cons, consR_ok, p_no, p_at, inR_int, i_seq', itsR_lst, itsR_tup, itsR_kl, i_rng1', i_rng2', thaw_nil, thaw_cons, thaw1_at, thawA_own, thawA_val, thawA_no, wipe_nil, wipe_cons, e_dnew, e_dnewN, s_clr, clrA_own, e_get1, e_get2, get1R_str, get2R_str, get2R_int, e_join, joinR_lst, e_lok, lokR_dct, lokR_lst, i_enum', i_zip', i_items', i_rev', enumR_lst, enumR_kl, enumR_dct, zipR_lst, zipR_tup, itemsR_dct, revR_lst, itsR_dct, s_frzL, thawL_at, thawB_own, thawB_val, thawB_no, bf_listD, bf_lenD, bf_dict, bf_sum, bf_all, bf_any, c_isN, c_notN, c_isB, c_notB, c_eqB, c_neB, c_leS, c_ltS, c_gtS, c_geS, c_inDs, c_notInDs, b_add, b_sub, b_mul, b_fdiv, b_mod, b_pow, b_cat, b_catS, c_eqI, c_neI, c_eqS, c_neS, c_lt, c_le, c_gt, c_ge, bf_abs, bf_lenL, bf_lenK, bf_lenT, bf_lenS, bf_max, bf_min, bf_list, bf_listT, bf_tuple, bf_tupleT, bf_int, tr_bl, slK, slL, e_fmt, fmtR_str, e_fst, fstR_ok, e_tix, e_maxd, maxdR_ok, e_sset, i_rng3', e_isc, e_isx, e_cald, e_mk, mkR_ok, e_fld, fldR_ok, e_mth, mthR_ok, mthX_ok, seq_nx, seq_ret, seq_brk, seq_exc, seq_ite, wh_nx, wh_brk, wh_ret, wh_exc, wh_ite, fin_nx, fin_ret, fin_exc, fin_ite, List.getElem?_cons_succ, List.getElem?_cons_zero, List.set_cons_zero, List.set_cons_succ, List.map_cons, List.map_nil, List.cons_append, List.nil_append, List.replicate_succ, List.replicate_zero, List.length_cons, List.length_nil, if_true, ite_true, if_false, ite_false, Bool.false_eq_true, decide_eq_true_eq, decide_not, Bool.not_eq_true', Bool.not_true, Bool.not_false, Bool.or_true, Bool.true_or, Bool.or_false, Bool.false_or, not_true_eq_false, not_false_eq_true, bne_iff_ne, ne_eq, reduceCtorEq, eq_self, decide_true, decide_false, dInt, dBl, Nat.reduceAdd, Nat.reduceSub, Nat.reduceLeDiff, Nat.zero_add, Int.reduceToNat, h1]
    rfl
  obtain ⟨qs, rfl, hq⟩ := sts_ex ys c3
  rw [List.length_map, List.length_map] at c2
  -- the head
  obtain ⟨rs, hrs, hrl, hrow⟩ : ∃ rs : List (List Nat), (∀ p ∈ rs, Good p ∧ p.length ≤ 61) ∧ rs.length ≤ 80 ∧ evSs ⟨run I fs m, I⟩ f_law_row_by.body [.val (.lst (cells.map .int)), .val (.int first), .val (.int second), .no, .no, .no, .no] = evSs ⟨run I fs m, I⟩ (.cons (.ite (.cmp .eq (.bin .mod (.var 2) (.lit (.int 3))) (.lit (.int 1))) (.cons (.set 4 false (.bin .mod (.bin .fdiv (.var 2) (.lit (.int 3))) (.bin .add (.bf .len (.cons (.var 3) .nil)) (.lit (.int 1))))) (.cons (.set 3 false (.bin .add (.bin .add (.slc (.var 3) .no (.at (.var 4))) (.lst (.cons (.call "_law_alien" (.cons (.bin .fdiv (.var 2) (.lit (.int 101))) .nil)) .nil))) (.slc (.var 3) (.at (.var 4)) .no))) .nil)) .nil) (.cons (.ret (.var 3)) .nil)) [.val (.lst (cells.map .int)), .val (.int first), .val (.int second), .val (.lst (rs.map stD)), .no, .no, .no] := by
    by_cases h1 : first.fmod 4 = 1
    · have b5 := mod_bd (i := first.fdiv 4) (n := 5) (by decide)
      have hg := rng1_int (i := 14 + (first.fdiv 4).fmod 5) (p := false) (by omega) (by omega)
      obtain ⟨zs, z1, z2, z3⟩ := comp_ex (C := ⟨run I fs m, I⟩) (tg := .one 6) (e := .lit (.str "(")) (ρ := [.val (.lst (cells.map .int)), .val (.int first), .val (.int second), .val (.lst (qs.map stD)), .no, .no, .no]) (P := fun y => ∃ p, y = stD p ∧ p = [40]) (rngD 0 (14 + (first.fdiv 4).fmod 5).toNat) fun d hd => by
        refine ⟨_, stD [40], false, rfl, ?_, [40], rfl, rfl⟩
        show _ = Rz.ok (D.str (tx [40]), false)
        rw [← op_def]; rfl
      obtain ⟨os, rfl, ho⟩ := sts_ex zs z3
      rw [List.length_map, rngD, List.length_map, List.length_range] at z2
      have hl : (os.map stD).length + (qs.map stD).length ≤ 16777216 := by rw [List.length_map, List.length_map]; omega
      refine ⟨os ++ qs, ?_, by rw [List.length_append]; omega, ?_⟩
      · intro p hp
        rcases List.mem_append.mp hp with z | z
        · rw [ho p z]; exact ⟨par_good, by decide⟩
        · exact hq p z
      · have h1 := eq_true h1
        rw [List.map_append]
        simp only [ss_nil, ss_cons, s_setF, setF_ok, s_setT, setT_ok, s_unp, unp_two, unp_three, s_exp, expR_ok, expR_exc, s_app, appA_own, s_ext, extA_own, s_put, putA_str, putA_int, s_try1, tryO_nx, tryO_ret, s_tryK, tryKO_nx, tryKO_ret, s_pop2, pop2A_str, s_pop1, popN_none, popN_some, s_upd, updA_dct, s_ret, retR_ok, s_retv, rvR_own, s_retN, s_ite, iteR_ok, s_whl, whT_ok, s_fr, frR_ok, s_brk, s_pas, s_rai, s_frz, e_var, var_val, e_lit, e_bin, bin2_ok, e_neg, negR_int, e_not, notR_bl, e_and, andR_bl, e_or, orR_bl, e_cmp, cmp2_ok, e_chn, chnR_bl, e_tup, e_lst, tup0, tup1, tup2, tup3, tup4, lst0, lst1, lst2, lst3, lst4, lst5, e_idx, idx2_ok, e_slc, slc3_ok, e_call, calR_ok, e_bf, bfR_ok, e_isi, isiR_int, isiR_bl, isiR_str, isiR_tup, isiR_lst, isiR_non, e_lent, lentR_ok, lentOk_int, lentOk_dct, lentOk_bl, lentOk_str, lentOk_non, e_comp, compR_ok, lstT_ok, blR_bl, t_and', andB_ok, t_or', orB_ok, t_not', notB_ok, t_cmp', t_chn', t_lent', t_v', truR_ok, t_yes', es_nil, es_cons, consR_ok, p_no, p_at, inR_int, i_seq', itsR_lst, itsR_tup, itsR_kl, i_rng1', i_rng2', thaw_nil, thaw_cons, thaw1_at, thawA_own, thawA_val, thawA_no, wipe_nil, wipe_cons, e_dnew, e_dnewN, s_clr, clrA_own, e_get1, e_get2, get1R_str, get2R_str, get2R_int, e_join, joinR_lst, e_lok, lokR_dct, lokR_lst, i_enum', i_zip', i_items', i_rev', enumR_lst, enumR_kl, enumR_dct, zipR_lst, zipR_tup, itemsR_dct, revR_lst, itsR_dct, s_frzL, thawL_at, thawB_own, thawB_val, thawB_no, bf_listD, bf_lenD, bf_dict, bf_sum, bf_all, bf_any, c_isN, c_notN, c_isB, c_notB, c_eqB, c_neB, c_leS, c_ltS, c_gtS, c_geS, c_inDs, c_notInDs, b_add, b_sub, b_mul, b_fdiv, b_mod, b_pow, b_cat, b_catS, c_eqI, c_neI, c_eqS, c_neS, c_lt, c_le, c_gt, c_ge, bf_abs, bf_lenL, bf_lenK, bf_lenT, bf_lenS, bf_max, bf_min, bf_list, bf_listT, bf_tuple, bf_tupleT, bf_int, tr_bl, slK, slL, e_fmt, fmtR_str, e_fst, fstR_ok, e_tix, e_maxd, maxdR_ok, e_sset, i_rng3', e_isc, e_isx, e_cald, e_mk, mkR_ok, e_fld, fldR_ok, e_mth, mthR_ok, mthX_ok, seq_nx, seq_ret, seq_brk, seq_exc, seq_ite, wh_nx, wh_brk, wh_ret, wh_exc, wh_ite, fin_nx, fin_ret, fin_exc, fin_ite, List.getElem?_cons_succ, List.getElem?_cons_zero, List.set_cons_zero, List.set_cons_succ, List.map_cons, List.map_nil, List.cons_append, List.nil_append, List.replicate_succ, List.replicate_zero, List.length_cons, List.length_nil, if_true, ite_true, if_false, ite_false, Bool.false_eq_true, decide_eq_true_eq, decide_not, Bool.not_eq_true', Bool.not_true, Bool.not_false, Bool.or_true, Bool.true_or, Bool.or_false, Bool.false_or, not_true_eq_false, not_false_eq_true, bne_iff_ne, ne_eq, reduceCtorEq, eq_self, decide_true, decide_false, dInt, dBl, Nat.reduceAdd, Nat.reduceSub, Nat.reduceLeDiff, Nat.zero_add, Int.reduceToNat, f_law_row_by, c1, n4, h1, d4, n5, hg, z1, b_cat, LIMv, hl]
    · refine ⟨qs, hq, by omega, ?_⟩
      have h1 := eq_false h1
      simp only [ss_nil, ss_cons, s_setF, setF_ok, s_setT, setT_ok, s_unp, unp_two, unp_three, s_exp, expR_ok, expR_exc, s_app, appA_own, s_ext, extA_own, s_put, putA_str, putA_int, s_try1, tryO_nx, tryO_ret, s_tryK, tryKO_nx, tryKO_ret, s_pop2, pop2A_str, s_pop1, popN_none, popN_some, s_upd, updA_dct, s_ret, retR_ok, s_retv, rvR_own, s_retN, s_ite, iteR_ok, s_whl, whT_ok, s_fr, frR_ok, s_brk, s_pas, s_rai, s_frz, e_var, var_val, e_lit, e_bin, bin2_ok, e_neg, negR_int, e_not, notR_bl, e_and, andR_bl, e_or, orR_bl, e_cmp, cmp2_ok, e_chn, chnR_bl, e_tup, e_lst, tup0, tup1, tup2, tup3, tup4, lst0, lst1, lst2, lst3, lst4, lst5, e_idx, idx2_ok, e_slc, slc3_ok, e_call, calR_ok, e_bf, bfR_ok, e_isi, isiR_int, isiR_bl, isiR_str, isiR_tup, isiR_lst, isiR_non, e_lent, lentR_ok, lentOk_int, lentOk_dct, lentOk_bl, lentOk_str, lentOk_non, e_comp, compR_ok, lstT_ok, blR_bl, t_and', andB_ok, t_or', orB_ok, t_not', notB_ok, t_cmp', t_chn', t_lent', t_v', truR_ok, t_yes', es_nil, es_cons, consR_ok, p_no, p_at, inR_int, i_seq', itsR_lst, itsR_tup, itsR_kl, i_rng1', i_rng2', thaw_nil, thaw_cons, thaw1_at, thawA_own, thawA_val, thawA_no, wipe_nil, wipe_cons, e_dnew, e_dnewN, s_clr, clrA_own, e_get1, e_get2, get1R_str, get2R_str, get2R_int, e_join, joinR_lst, e_lok, lokR_dct, lokR_lst, i_enum', i_zip', i_items', i_rev', enumR_lst, enumR_kl, enumR_dct, zipR_lst, zipR_tup, itemsR_dct, revR_lst, itsR_dct, s_frzL, thawL_at, thawB_own, thawB_val, thawB_no, bf_listD, bf_lenD, bf_dict, bf_sum, bf_all, bf_any, c_isN, c_notN, c_isB, c_notB, c_eqB, c_neB, c_leS, c_ltS, c_gtS, c_geS, c_inDs, c_notInDs, b_add, b_sub, b_mul, b_fdiv, b_mod, b_pow, b_cat, b_catS, c_eqI, c_neI, c_eqS, c_neS, c_lt, c_le, c_gt, c_ge, bf_abs, bf_lenL, bf_lenK, bf_lenT, bf_lenS, bf_max, bf_min, bf_list, bf_listT, bf_tuple, bf_tupleT, bf_int, tr_bl, slK, slL, e_fmt, fmtR_str, e_fst, fstR_ok, e_tix, e_maxd, maxdR_ok, e_sset, i_rng3', e_isc, e_isx, e_cald, e_mk, mkR_ok, e_fld, fldR_ok, e_mth, mthR_ok, mthX_ok, seq_nx, seq_ret, seq_brk, seq_exc, seq_ite, wh_nx, wh_brk, wh_ret, wh_exc, wh_ite, fin_nx, fin_ret, fin_exc, fin_ite, List.getElem?_cons_succ, List.getElem?_cons_zero, List.set_cons_zero, List.set_cons_succ, List.map_cons, List.map_nil, List.cons_append, List.nil_append, List.replicate_succ, List.replicate_zero, List.length_cons, List.length_nil, if_true, ite_true, if_false, ite_false, Bool.false_eq_true, decide_eq_true_eq, decide_not, Bool.not_eq_true', Bool.not_true, Bool.not_false, Bool.or_true, Bool.true_or, Bool.or_false, Bool.false_or, not_true_eq_false, not_false_eq_true, bne_iff_ne, ne_eq, reduceCtorEq, eq_self, decide_true, decide_false, dInt, dBl, Nat.reduceAdd, Nat.reduceSub, Nat.reduceLeDiff, Nat.zero_add, Int.reduceToNat, f_law_row_by, c1, n4, h1]
  have hrow : evSs ⟨run I fs m, I⟩ f_law_row_by.body ([D.lst (cells.map .int), .int first, .int second].map Sl.val ++ List.replicate (7 - [D.lst (cells.map .int), .int first, .int second].length) .no) = _ := hrow
  rw [hrow]
  by_cases h3 : second.fmod 3 = 1
  · obtain ⟨a, ha1, ha2⟩ := alien_ok (n := m) (by omega) (second.fdiv 101)
    have hn0 : ¬ ((rs.length : Nat) : Int) + 1 = 0 := by omega
    have bm := mod_bd (i := second.fdiv 3) (n := (rs.length : Nat) + 1) (by omega)
    obtain ⟨k, hk, hkl⟩ : ∃ k : Nat, (second.fdiv 3).fmod ((rs.length : Nat) + 1) = (k : Int) ∧ k ≤ rs.length := ⟨_, (Int.toNat_of_nonneg bm.1).symm, by omega⟩
    have s1 := cut_to (rs.map stD) k
    have s2 := cut_from (rs.map stD) k
    rw [← List.map_take] at s1
    rw [← List.map_drop] at s2
    have l1 : (rs.take k).length ≤ 16777215 := by rw [List.length_take]; omega
    have l2 : ((rs.take k).map stD ++ [D.str (tx a)]).length + (rs.drop k).length ≤ 16777216 := by
      rw [List.length_append, List.length_map, List.length_take, List.length_drop]; show _ + 1 + _ ≤ _; omega
    refine ⟨rs.take k ++ a :: rs.drop k, ?_, .inr ⟨h3, _, a, _, rfl, fun p hp => (hrs p (List.mem_of_mem_take hp)).1, ha2, fun p hp => (hrs p (List.mem_of_mem_drop hp)).1⟩, ?_, ?_⟩
    · have h3 := eq_true h3
      rw [List.map_append, List.map_cons]
      show (evSs _ _ _).fin = .ok (.lst (_ ++ D.str (tx a) :: _), false)
      rw [List.append_cons]
      simp only [ss_nil, ss_cons, s_setF, setF_ok, s_setT, setT_ok, s_unp, unp_two, unp_three, s_exp, expR_ok, expR_exc, s_app, appA_own, s_ext, extA_own, s_put, putA_str, putA_int, s_try1, tryO_nx, tryO_ret, s_tryK, tryKO_nx, tryKO_ret, s_pop2, pop2A_str, s_pop1, popN_none, popN_some, s_upd, updA_dct, s_ret, retR_ok, s_retv, rvR_own, s_retN, s_ite, iteR_ok, s_whl, whT_ok, s_fr, frR_ok, s_brk, s_pas, s_rai, s_frz, e_var, var_val, e_lit, e_bin, bin2_ok, e_neg, negR_int, e_not, notR_bl, e_and, andR_bl, e_or, orR_bl, e_cmp, cmp2_ok, e_chn, chnR_bl, e_tup, e_lst, tup0, tup1, tup2, tup3, tup4, lst0, lst1, lst2, lst3, lst4, lst5, e_idx, idx2_ok, e_slc, slc3_ok, e_call, calR_ok, e_bf, bfR_ok, e_isi, isiR_int, isiR_bl, isiR_str, isiR_tup, isiR_lst, isiR_non, e_lent, lentR_ok, lentOk_int, lentOk_dct, lentOk_bl, lentOk_str, lentOk_non, e_comp, compR_ok, lstT_ok, blR_bl, t_and', andB_ok, t_or', orB_ok, t_not', notB_ok, t_cmp', t_chn', t_lent', t_v', truR_ok, t_yes', es_nil, es_cons, consR_ok, p_no, p_at, inR_int, i_seq', itsR_lst, itsR_tup, itsR_kl, i_rng1', i_rng2', thaw_nil, thaw_cons, thaw1_at, thawA_own, thawA_val, thawA_no, wipe_nil, wipe_cons, e_dnew, e_dnewN, s_clr, clrA_own, e_get1, e_get2, get1R_str, get2R_str, get2R_int, e_join, joinR_lst, e_lok, lokR_dct, lokR_lst, i_enum', i_zip', i_items', i_rev', enumR_lst, enumR_kl, enumR_dct, zipR_lst, zipR_tup, itemsR_dct, revR_lst, itsR_dct, s_frzL, thawL_at, thawB_own, thawB_val, thawB_no, bf_listD, bf_lenD, bf_dict, bf_sum, bf_all, bf_any, c_isN, c_notN, c_isB, c_notB, c_eqB, c_neB, c_leS, c_ltS, c_gtS, c_geS, c_inDs, c_notInDs, b_add, b_sub, b_mul, b_fdiv, b_mod, b_pow, b_cat, b_catS, c_eqI, c_neI, c_eqS, c_neS, c_lt, c_le, c_gt, c_ge, bf_abs, bf_lenL, bf_lenK, bf_lenT, bf_lenS, bf_max, bf_min, bf_list, bf_listT, bf_tuple, bf_tupleT, bf_int, tr_bl, slK, slL, e_fmt, fmtR_str, e_fst, fstR_ok, e_tix, e_maxd, maxdR_ok, e_sset, i_rng3', e_isc, e_isx, e_cald, e_mk, mkR_ok, e_fld, fldR_ok, e_mth, mthR_ok, mthX_ok, seq_nx, seq_ret, seq_brk, seq_exc, seq_ite, wh_nx, wh_brk, wh_ret, wh_exc, wh_ite, fin_nx, fin_ret, fin_exc, fin_ite, List.getElem?_cons_succ, List.getElem?_cons_zero, List.set_cons_zero, List.set_cons_succ, List.map_cons, List.map_nil, List.cons_append, List.nil_append, List.replicate_succ, List.replicate_zero, List.length_cons, List.length_nil, if_true, ite_true, if_false, ite_false, Bool.false_eq_true, decide_eq_true_eq, decide_not, Bool.not_eq_true', Bool.not_true, Bool.not_false, Bool.or_true, Bool.true_or, Bool.or_false, Bool.false_or, not_true_eq_false, not_false_eq_true, bne_iff_ne, ne_eq, reduceCtorEq, eq_self, decide_true, decide_false, dInt, dBl, Nat.reduceAdd, Nat.reduceSub, Nat.reduceLeDiff, Nat.zero_add, Int.reduceToNat, n3, h3, d3, List.length_map, hn0, hk, slL, s1, ha1, d101, b_cat, LIMv, l1, l2, s2]
    · intro p hp
      rcases List.mem_append.mp hp with z | z
      · exact ⟨.inl (hrs p (List.mem_of_mem_take z)).1, (hrs p (List.mem_of_mem_take z)).2⟩
      · rcases List.mem_cons.mp z with z | z
        · rw [z]
          obtain ⟨c, rfl, _⟩ := id ha2
          exact ⟨.inr ha2, by show 1 ≤ 61; decide⟩
        · exact ⟨.inl (hrs p (List.mem_of_mem_drop z)).1, (hrs p (List.mem_of_mem_drop z)).2⟩
    · rw [List.length_append, List.length_cons, List.length_take, List.length_drop]; omega
  · refine ⟨rs, ?_, .inl ⟨h3, fun p hp => (hrs p hp).1⟩, fun p hp => ⟨.inl (hrs p hp).1, (hrs p hp).2⟩, by omega⟩
    have h3 := eq_false h3
    simp only [ss_nil, ss_cons, s_setF, setF_ok, s_setT, setT_ok, s_unp, unp_two, unp_three, s_exp, expR_ok, expR_exc, s_app, appA_own, s_ext, extA_own, s_put, putA_str, putA_int, s_try1, tryO_nx, tryO_ret, s_tryK, tryKO_nx, tryKO_ret, s_pop2, pop2A_str, s_pop1, popN_none, popN_some, s_upd, updA_dct, s_ret, retR_ok, s_retv, rvR_own, s_retN, s_ite, iteR_ok, s_whl, whT_ok, s_fr, frR_ok, s_brk, s_pas, s_rai, s_frz, e_var, var_val, e_lit, e_bin, bin2_ok, e_neg, negR_int, e_not, notR_bl, e_and, andR_bl, e_or, orR_bl, e_cmp, cmp2_ok, e_chn, chnR_bl, e_tup, e_lst, tup0, tup1, tup2, tup3, tup4, lst0, lst1, lst2, lst3, lst4, lst5, e_idx, idx2_ok, e_slc, slc3_ok, e_call, calR_ok, e_bf, bfR_ok, e_isi, isiR_int, isiR_bl, isiR_str, isiR_tup, isiR_lst, isiR_non, e_lent, lentR_ok, lentOk_int, lentOk_dct, lentOk_bl, lentOk_str, lentOk_non, e_comp, compR_ok, lstT_ok, blR_bl, t_and', andB_ok, t_or', orB_ok, t_not', notB_ok, t_cmp', t_chn', t_lent', t_v', truR_ok, t_yes', es_nil, es_cons, consR_ok, p_no, p_at, inR_int, i_seq', itsR_lst, itsR_tup, itsR_kl, i_rng1', i_rng2', thaw_nil, thaw_cons, thaw1_at, thawA_own, thawA_val, thawA_no, wipe_nil, wipe_cons, e_dnew, e_dnewN, s_clr, clrA_own, e_get1, e_get2, get1R_str, get2R_str, get2R_int, e_join, joinR_lst, e_lok, lokR_dct, lokR_lst, i_enum', i_zip', i_items', i_rev', enumR_lst, enumR_kl, enumR_dct, zipR_lst, zipR_tup, itemsR_dct, revR_lst, itsR_dct, s_frzL, thawL_at, thawB_own, thawB_val, thawB_no, bf_listD, bf_lenD, bf_dict, bf_sum, bf_all, bf_any, c_isN, c_notN, c_isB, c_notB, c_eqB, c_neB, c_leS, c_ltS, c_gtS, c_geS, c_inDs, c_notInDs, b_add, b_sub, b_mul, b_fdiv, b_mod, b_pow, b_cat, b_catS, c_eqI, c_neI, c_eqS, c_neS, c_lt, c_le, c_gt, c_ge, bf_abs, bf_lenL, bf_lenK, bf_lenT, bf_lenS, bf_max, bf_min, bf_list, bf_listT, bf_tuple, bf_tupleT, bf_int, tr_bl, slK, slL, e_fmt, fmtR_str, e_fst, fstR_ok, e_tix, e_maxd, maxdR_ok, e_sset, i_rng3', e_isc, e_isx, e_cald, e_mk, mkR_ok, e_fld, fldR_ok, e_mth, mthR_ok, mthX_ok, seq_nx, seq_ret, seq_brk, seq_exc, seq_ite, wh_nx, wh_brk, wh_ret, wh_exc, wh_ite, fin_nx, fin_ret, fin_exc, fin_ite, List.getElem?_cons_succ, List.getElem?_cons_zero, List.set_cons_zero, List.set_cons_succ, List.map_cons, List.map_nil, List.cons_append, List.nil_append, List.replicate_succ, List.replicate_zero, List.length_cons, List.length_nil, if_true, ite_true, if_false, ite_false, Bool.false_eq_true, decide_eq_true_eq, decide_not, Bool.not_eq_true', Bool.not_true, Bool.not_false, Bool.or_true, Bool.true_or, Bool.or_false, Bool.false_or, not_true_eq_false, not_false_eq_true, bne_iff_ne, ne_eq, reduceCtorEq, eq_self, decide_true, decide_false, dInt, dBl, Nat.reduceAdd, Nat.reduceSub, Nat.reduceLeDiff, Nat.zero_add, Int.reduceToNat, n3, h3]
/-! the way of a text -/
theorem way_long {n : Nat} (hn : 4 ≤ n) {l : List Nat} (h : 2000 < l.length ∨ meas l 0 0 = none) : run I fs n "_law_way" [.str (tx l)] = .ok (.str "long", false) := by
  obtain ⟨m, rfl⟩ := dpos (n := n) (by omega)
  rw [e_law_way _ _ rfl]
  have hp := pieces_long (n := m) (by omega) h
  have q : I.exm.lookup (("TooLong" : Str), ("SumError" : Str)) = some true := by decide +kernel
  have i1 : I.ixm.lookup (("TooLong" : Str), ("TooLong" : Str)) = some true := by decide +kernel
  have i2 : I.ixm.lookup (("TooLong" : Str), ("NoText" : Str)) = some false := by decide +kernel
  have t1 := fun ρ => tryKO_exc (C := ⟨run I fs m, I⟩) (ρ := ρ) (i := 2) (j := 1) q
  have x1 := fun p => isxR_exc (C := ⟨run I fs m, I⟩) (p := p) i1
  have x2 := fun p => isxR_exc (C := ⟨run I fs m, I⟩) (p := p) i2
  have bI : bfD .int [.bl false] = .ok (.int 0, false) := rfl
  have hx : ixD (.lst [.str "long", .str "both"]) (.int 0) = .ok (.str "long", false) := rfl
  simp only [ss_nil, ss_cons, s_setF, setF_ok, s_setT, setT_ok, s_unp, unp_two, unp_three, s_exp, expR_ok, expR_exc, s_app, appA_own, s_ext, extA_own, s_put, putA_str, putA_int, s_try1, tryO_nx, tryO_ret, s_tryK, tryKO_nx, tryKO_ret, s_pop2, pop2A_str, s_pop1, popN_none, popN_some, s_upd, updA_dct, s_ret, retR_ok, s_retv, rvR_own, s_retN, s_ite, iteR_ok, s_whl, whT_ok, s_fr, frR_ok, s_brk, s_pas, s_rai, s_frz, e_var, var_val, e_lit, e_bin, bin2_ok, e_neg, negR_int, e_not, notR_bl, e_and, andR_bl, e_or, orR_bl, e_cmp, cmp2_ok, e_chn, chnR_bl, e_tup, e_lst, tup0, tup1, tup2, tup3, tup4, lst0, lst1, lst2, lst3, lst4, lst5, e_idx, idx2_ok, e_slc, slc3_ok, e_call, calR_ok, e_bf, bfR_ok, e_isi, isiR_int, isiR_bl, isiR_str, isiR_tup, isiR_lst, isiR_non, e_lent, lentR_ok, lentOk_int, lentOk_dct, lentOk_bl, lentOk_str, lentOk_non, e_comp, compR_ok, lstT_ok, blR_bl, t_and', andB_ok, t_or', orB_ok, t_not', notB_ok, t_cmp', t_chn', t_lent', t_v', truR_ok, t_yes', es_nil, es_cons, consR_ok, p_no, p_at, inR_int, i_seq', itsR_lst, itsR_tup, itsR_kl, i_rng1', i_rng2', thaw_nil, thaw_cons, thaw1_at, thawA_own, thawA_val, thawA_no, wipe_nil, wipe_cons, e_dnew, e_dnewN, s_clr, clrA_own, e_get1, e_get2, get1R_str, get2R_str, get2R_int, e_join, joinR_lst, e_lok, lokR_dct, lokR_lst, i_enum', i_zip', i_items', i_rev', enumR_lst, enumR_kl, enumR_dct, zipR_lst, zipR_tup, itemsR_dct, revR_lst, itsR_dct, s_frzL, thawL_at, thawB_own, thawB_val, thawB_no, bf_listD, bf_lenD, bf_dict, bf_sum, bf_all, bf_any, c_isN, c_notN, c_isB, c_notB, c_eqB, c_neB, c_leS, c_ltS, c_gtS, c_geS, c_inDs, c_notInDs, b_add, b_sub, b_mul, b_fdiv, b_mod, b_pow, b_cat, b_catS, c_eqI, c_neI, c_eqS, c_neS, c_lt, c_le, c_gt, c_ge, bf_abs, bf_lenL, bf_lenK, bf_lenT, bf_lenS, bf_max, bf_min, bf_list, bf_listT, bf_tuple, bf_tupleT, bf_int, tr_bl, slK, slL, e_fmt, fmtR_str, e_fst, fstR_ok, e_tix, e_maxd, maxdR_ok, e_sset, i_rng3', e_isc, e_isx, e_cald, e_mk, mkR_ok, e_fld, fldR_ok, e_mth, mthR_ok, mthX_ok, seq_nx, seq_ret, seq_brk, seq_exc, seq_ite, wh_nx, wh_brk, wh_ret, wh_exc, wh_ite, fin_nx, fin_ret, fin_exc, fin_ite, List.getElem?_cons_succ, List.getElem?_cons_zero, List.set_cons_zero, List.set_cons_succ, List.map_cons, List.map_nil, List.cons_append, List.nil_append, List.replicate_succ, List.replicate_zero, List.length_cons, List.length_nil, if_true, ite_true, if_false, ite_false, Bool.false_eq_true, decide_eq_true_eq, decide_not, Bool.not_eq_true', Bool.not_true, Bool.not_false, Bool.or_true, Bool.true_or, Bool.or_false, Bool.false_or, not_true_eq_false, not_false_eq_true, bne_iff_ne, ne_eq, reduceCtorEq, eq_self, decide_true, decide_false, dInt, dBl, Nat.reduceAdd, Nat.reduceSub, Nat.reduceLeDiff, Nat.zero_add, Int.reduceToNat, f_law_way, hp, t1, x1, x2, bI, hx]
theorem way_text {n : Nat} (hn : 4 ≤ n) {l : List Nat} (h1 : l.length ≤ 2000) (h2 : meas l 0 0 ≠ none) (h3 : toks l.length l = none) : run I fs n "_law_way" [.str (tx l)] = .ok (.str "text", false) := by
  obtain ⟨m, rfl⟩ := dpos (n := n) (by omega)
  rw [e_law_way _ _ rfl]
  have hp := pieces_ok (n := m) (by omega) h1 h2
  rw [h3] at hp
  dsimp only at hp
  have q : I.exm.lookup (("NoText" : Str), ("SumError" : Str)) = some true := by decide +kernel
  have i1 : I.ixm.lookup (("NoText" : Str), ("TooLong" : Str)) = some false := by decide +kernel
  have i2 : I.ixm.lookup (("NoText" : Str), ("NoText" : Str)) = some true := by decide +kernel
  have t1 := fun ρ => tryKO_exc (C := ⟨run I fs m, I⟩) (ρ := ρ) (i := 2) (j := 1) q
  have x1 := fun p => isxR_exc (C := ⟨run I fs m, I⟩) (p := p) i1
  have x2 := fun p => isxR_exc (C := ⟨run I fs m, I⟩) (p := p) i2
  have bI : bfD .int [.bl true] = .ok (.int 1, false) := rfl
  have hx : ixD (.lst [.str "other", .str "text"]) (.int 1) = .ok (.str "text", false) := rfl
  simp only [ss_nil, ss_cons, s_setF, setF_ok, s_setT, setT_ok, s_unp, unp_two, unp_three, s_exp, expR_ok, expR_exc, s_app, appA_own, s_ext, extA_own, s_put, putA_str, putA_int, s_try1, tryO_nx, tryO_ret, s_tryK, tryKO_nx, tryKO_ret, s_pop2, pop2A_str, s_pop1, popN_none, popN_some, s_upd, updA_dct, s_ret, retR_ok, s_retv, rvR_own, s_retN, s_ite, iteR_ok, s_whl, whT_ok, s_fr, frR_ok, s_brk, s_pas, s_rai, s_frz, e_var, var_val, e_lit, e_bin, bin2_ok, e_neg, negR_int, e_not, notR_bl, e_and, andR_bl, e_or, orR_bl, e_cmp, cmp2_ok, e_chn, chnR_bl, e_tup, e_lst, tup0, tup1, tup2, tup3, tup4, lst0, lst1, lst2, lst3, lst4, lst5, e_idx, idx2_ok, e_slc, slc3_ok, e_call, calR_ok, e_bf, bfR_ok, e_isi, isiR_int, isiR_bl, isiR_str, isiR_tup, isiR_lst, isiR_non, e_lent, lentR_ok, lentOk_int, lentOk_dct, lentOk_bl, lentOk_str, lentOk_non, e_comp, compR_ok, lstT_ok, blR_bl, t_and', andB_ok, t_or', orB_ok, t_not', notB_ok, t_cmp', t_chn', t_lent', t_v', truR_ok, t_yes', es_nil, es_cons, consR_ok, p_no, p_at, inR_int, i_seq', itsR_lst, itsR_tup, itsR_kl, i_rng1', i_rng2', thaw_nil, thaw_cons, thaw1_at, thawA_own, thawA_val, thawA_no, wipe_nil, wipe_cons, e_dnew, e_dnewN, s_clr, clrA_own, e_get1, e_get2, get1R_str, get2R_str, get2R_int, e_join, joinR_lst, e_lok, lokR_dct, lokR_lst, i_enum', i_zip', i_items', i_rev', enumR_lst, enumR_kl, enumR_dct, zipR_lst, zipR_tup, itemsR_dct, revR_lst, itsR_dct, s_frzL, thawL_at, thawB_own, thawB_val, thawB_no, bf_listD, bf_lenD, bf_dict, bf_sum, bf_all, bf_any, c_isN, c_notN, c_isB, c_notB, c_eqB, c_neB, c_leS, c_ltS, c_gtS, c_geS, c_inDs, c_notInDs, b_add, b_sub, b_mul, b_fdiv, b_mod, b_pow, b_cat, b_catS, c_eqI, c_neI, c_eqS, c_neS, c_lt, c_le, c_gt, c_ge, bf_abs, bf_lenL, bf_lenK, bf_lenT, bf_lenS, bf_max, bf_min, bf_list, bf_listT, bf_tuple, bf_tupleT, bf_int, tr_bl, slK, slL, e_fmt, fmtR_str, e_fst, fstR_ok, e_tix, e_maxd, maxdR_ok, e_sset, i_rng3', e_isc, e_isx, e_cald, e_mk, mkR_ok, e_fld, fldR_ok, e_mth, mthR_ok, mthX_ok, seq_nx, seq_ret, seq_brk, seq_exc, seq_ite, wh_nx, wh_brk, wh_ret, wh_exc, wh_ite, fin_nx, fin_ret, fin_exc, fin_ite, List.getElem?_cons_succ, List.getElem?_cons_zero, List.set_cons_zero, List.set_cons_succ, List.map_cons, List.map_nil, List.cons_append, List.nil_append, List.replicate_succ, List.replicate_zero, List.length_cons, List.length_nil, if_true, ite_true, if_false, ite_false, Bool.false_eq_true, decide_eq_true_eq, decide_not, Bool.not_eq_true', Bool.not_true, Bool.not_false, Bool.or_true, Bool.true_or, Bool.or_false, Bool.false_or, not_true_eq_false, not_false_eq_true, bne_iff_ne, ne_eq, reduceCtorEq, eq_self, decide_true, decide_false, dInt, dBl, Nat.reduceAdd, Nat.reduceSub, Nat.reduceLeDiff, Nat.zero_add, Int.reduceToNat, f_law_way, hp, t1, x1, x2, bI, hx]
/-! the law -/
theorem law_ok (ns : List Int) : ∃ b, run I fs 12 "law" [.kl (ns.map .int)] = .ok (.bl true, b) := by
  rw [e_law 11 _ rfl]
  have k0 : run I fs 11 "_law_cell_at" [.kl (ns.map D.int), .int 0] = dInt (ns.getD 0 0) := cell_at_ok (n := 11) (by decide) ns 0
  have k1 : run I fs 11 "_law_cell_at" [.kl (ns.map D.int), .int 1] = dInt (ns.getD 1 0) := cell_at_ok (n := 11) (by decide) ns 1
  have k2 : run I fs 11 "_law_cell_at" [.kl (ns.map D.int), .int 2] = dInt (ns.getD 2 0) := cell_at_ok (n := 11) (by decide) ns 2
  obtain ⟨first, hf⟩ : ∃ i, ns.getD 0 0 = i := ⟨_, rfl⟩
  obtain ⟨second, hs⟩ : ∃ i, ns.getD 1 0 = i := ⟨_, rfl⟩
  obtain ⟨seed, hsd⟩ : ∃ i, ns.getD 2 0 = i := ⟨_, rfl⟩
  rw [hf] at k0
  rw [hs] at k1
  rw [hsd] at k2
  have hsl : cutD (ns.map D.int) (some 3) (some 53) = ((ns.drop 3).take 50).map D.int := by
    have := cut_nat (ns.map D.int) 3 53
    rw [List.map_take, List.map_drop]
    exact this
  obtain ⟨ps, r1, r2, r3, r4⟩ := row_by_ok (n := 11) (by decide) ((ns.drop 3).take 50) (by rw [List.length_take]; omega) first second
  obtain ⟨gs, e0, t1, t2, t3, t4⟩ := text_of_ok (n := 11) (by decide) seed ps r3 r4
  have d4 : DivOk first 4 := div_ok (by decide) (by decide)
  have n8 : ¬ (8 : Int) = 0 := by decide
  have n4 : ¬ (4 : Int) = 0 := by decide
  have n3 : ¬ (3 : Int) = 0 := by decide
  -- the text
  obtain ⟨e, s6, hpad⟩ : ∃ (e : Nat) (s6 : Sl), evSs ⟨run I fs 11, I⟩ f_law.body [.val (.kl (ns.map .int)), .no, .no, .no, .no, .no, .no, .no] = evSs ⟨run I fs 11, I⟩ (.cons (.ite (.v (.call "_law_too_long" (.cons (.var 4) (.cons (.var 3) .nil)))) (.cons (.ret (.cmp .eq (.call "_law_way" (.cons (.var 4) .nil)) (.lit (.str "long")))) .nil) .nil) (.cons (.ite (.cmp .eq (.bin .mod (.var 2) (.lit (.int 3))) (.lit (.int 1))) (.cons (.ret (.cmp .eq (.call "_law_way" (.cons (.var 4) .nil)) (.lit (.str "text")))) .nil) .nil) (.cons (.set 5 true (.call "pieces" (.cons (.var 4) .nil))) (.cons (.ite (.lent [5] (.or (.not (.v (.isi (.var 5) .list))) (.or (.not (.v (.bf .all (.cons (.comp (.one 7) (.seq (.var 5)) .yes (.isi (.var 7) .str) [("_law_piece", 7)]) .nil)))) (.cmp .ne (.var 5) (.var 3))))) (.cons (.ret (.lit (.bl false))) .nil) .nil) (.cons (.clr 5) (.cons (.ret (.cmp .eq (.call "pieces" (.cons (.var 4) .nil)) (.var 3))) .nil)))))) [.val (.kl (ns.map .int)), .val (.int first), .val (.int second), .val (.lst (ps.map stD)), .val (.str (tx (flat gs ++ rep e))), .no, s6, .no] := by
    by_cases h2 : (first.fdiv 4).fmod 8 = 2
    · have b4 := mod_bd (i := second) (n := 4) (by decide)
      have hl := len_tx (flat gs ++ rep e0)
      obtain ⟨w, hw⟩ : ∃ w : Int, 1999 + second.fmod 4 - ((flat gs ++ rep e0).length : Nat) = w := ⟨_, rfl⟩
      have hg := rng1_int (i := w) (p := false) (by omega) (by omega)
      have hcm := comp_map (C := ⟨run I fs 11, I⟩) (tg := .one 6) (e := .lit (.str " ")) (g := fun _ => D.str (tx [32])) (ρ := [.val (.kl (ns.map .int)), .val (.int first), .val (.int second), .val (.lst (ps.map stD)), .val (.str (tx (flat gs ++ rep e0))), .no, .no, .no]) (rngD 0 w.toNat) fun d hd => by
        refine ⟨_, false, rfl, ?_⟩
        rw [sp_def]; rfl
      have hrm : (rngD 0 w.toNat).map (fun _ => D.str (tx [32])) = (rep w.toNat).map fun c => D.str (tx [c]) := by
        rw [List.map_replicate, rngD, List.map_map]
        show (List.range w.toNat).map (fun _ => D.str (tx [32])) = _
        rw [List.map_const', List.length_range]
      rw [hrm] at hcm
      have hj := joinS_txm (l := rep w.toNat) (by rw [List.length_replicate]; omega)
      have ct := cat_tx (a := flat gs ++ rep e0) (b := rep w.toNat) (by rw [List.length_replicate]; omega)
      rw [List.append_assoc, List.replicate_append_replicate] at ct
      refine ⟨e0 + w.toNat, .no, ?_⟩
      have h2 := eq_true h2
      simp only [ss_nil, ss_cons, s_setF, setF_ok, s_setT, setT_ok, s_unp, unp_two, unp_three, s_exp, expR_ok, expR_exc, s_app, appA_own, s_ext, extA_own, s_put, putA_str, putA_int, s_try1, tryO_nx, tryO_ret, s_tryK, tryKO_nx, tryKO_ret, s_pop2, pop2A_str, s_pop1, popN_none, popN_some, s_upd, updA_dct, s_ret, retR_ok, s_retv, rvR_own, s_retN, s_ite, iteR_ok, s_whl, whT_ok, s_fr, frR_ok, s_brk, s_pas, s_rai, s_frz, e_var, var_val, e_lit, e_bin, bin2_ok, e_neg, negR_int, e_not, notR_bl, e_and, andR_bl, e_or, orR_bl, e_cmp, cmp2_ok, e_chn, chnR_bl, e_tup, e_lst, tup0, tup1, tup2, tup3, tup4, lst0, lst1, lst2, lst3, lst4, lst5, e_idx, idx2_ok, e_slc, slc3_ok, e_call, calR_ok, e_bf, bfR_ok, e_isi, isiR_int, isiR_bl, isiR_str, isiR_tup, isiR_lst, isiR_non, e_lent, lentR_ok, lentOk_int, lentOk_dct, lentOk_bl, lentOk_str, lentOk_non, e_comp, compR_ok, lstT_ok, blR_bl, t_and', andB_ok, t_or', orB_ok, t_not', notB_ok, t_cmp', t_chn', t_lent', t_v', truR_ok, t_yes', es_nil, es_cons, consR_ok, p_no, p_at, inR_int, i_seq', itsR_lst, itsR_tup, itsR_kl, i_rng1', i_rng2', thaw_nil, thaw_cons, thaw1_at, thawA_own, thawA_val, thawA_no, wipe_nil, wipe_cons, e_dnew, e_dnewN, s_clr, clrA_own, e_get1, e_get2, get1R_str, get2R_str, get2R_int, e_join, joinR_lst, e_lok, lokR_dct, lokR_lst, i_enum', i_zip', i_items', i_rev', enumR_lst, enumR_kl, enumR_dct, zipR_lst, zipR_tup, itemsR_dct, revR_lst, itsR_dct, s_frzL, thawL_at, thawB_own, thawB_val, thawB_no, bf_listD, bf_lenD, bf_dict, bf_sum, bf_all, bf_any, c_isN, c_notN, c_isB, c_notB, c_eqB, c_neB, c_leS, c_ltS, c_gtS, c_geS, c_inDs, c_notInDs, b_add, b_sub, b_mul, b_fdiv, b_mod, b_pow, b_cat, b_catS, c_eqI, c_neI, c_eqS, c_neS, c_lt, c_le, c_gt, c_ge, bf_abs, bf_lenL, bf_lenK, bf_lenT, bf_lenS, bf_max, bf_min, bf_list, bf_listT, bf_tuple, bf_tupleT, bf_int, tr_bl, slK, slL, e_fmt, fmtR_str, e_fst, fstR_ok, e_tix, e_maxd, maxdR_ok, e_sset, i_rng3', e_isc, e_isx, e_cald, e_mk, mkR_ok, e_fld, fldR_ok, e_mth, mthR_ok, mthX_ok, seq_nx, seq_ret, seq_brk, seq_exc, seq_ite, wh_nx, wh_brk, wh_ret, wh_exc, wh_ite, fin_nx, fin_ret, fin_exc, fin_ite, List.getElem?_cons_succ, List.getElem?_cons_zero, List.set_cons_zero, List.set_cons_succ, List.map_cons, List.map_nil, List.cons_append, List.nil_append, List.replicate_succ, List.replicate_zero, List.length_cons, List.length_nil, if_true, ite_true, if_false, ite_false, Bool.false_eq_true, decide_eq_true_eq, decide_not, Bool.not_eq_true', Bool.not_true, Bool.not_false, Bool.or_true, Bool.true_or, Bool.or_false, Bool.false_or, not_true_eq_false, not_false_eq_true, bne_iff_ne, ne_eq, reduceCtorEq, eq_self, decide_true, decide_false, dInt, dBl, Nat.reduceAdd, Nat.reduceSub, Nat.reduceLeDiff, Nat.zero_add, Int.reduceToNat, f_law, k0, k1, k2, slK, hsl, r1, t1, d4, n8, h2, n4, hl, hw, hg, hcm, hj, ct]
    · refine ⟨e0, .no, ?_⟩
      have h2 := eq_false h2
      simp only [ss_nil, ss_cons, s_setF, setF_ok, s_setT, setT_ok, s_unp, unp_two, unp_three, s_exp, expR_ok, expR_exc, s_app, appA_own, s_ext, extA_own, s_put, putA_str, putA_int, s_try1, tryO_nx, tryO_ret, s_tryK, tryKO_nx, tryKO_ret, s_pop2, pop2A_str, s_pop1, popN_none, popN_some, s_upd, updA_dct, s_ret, retR_ok, s_retv, rvR_own, s_retN, s_ite, iteR_ok, s_whl, whT_ok, s_fr, frR_ok, s_brk, s_pas, s_rai, s_frz, e_var, var_val, e_lit, e_bin, bin2_ok, e_neg, negR_int, e_not, notR_bl, e_and, andR_bl, e_or, orR_bl, e_cmp, cmp2_ok, e_chn, chnR_bl, e_tup, e_lst, tup0, tup1, tup2, tup3, tup4, lst0, lst1, lst2, lst3, lst4, lst5, e_idx, idx2_ok, e_slc, slc3_ok, e_call, calR_ok, e_bf, bfR_ok, e_isi, isiR_int, isiR_bl, isiR_str, isiR_tup, isiR_lst, isiR_non, e_lent, lentR_ok, lentOk_int, lentOk_dct, lentOk_bl, lentOk_str, lentOk_non, e_comp, compR_ok, lstT_ok, blR_bl, t_and', andB_ok, t_or', orB_ok, t_not', notB_ok, t_cmp', t_chn', t_lent', t_v', truR_ok, t_yes', es_nil, es_cons, consR_ok, p_no, p_at, inR_int, i_seq', itsR_lst, itsR_tup, itsR_kl, i_rng1', i_rng2', thaw_nil, thaw_cons, thaw1_at, thawA_own, thawA_val, thawA_no, wipe_nil, wipe_cons, e_dnew, e_dnewN, s_clr, clrA_own, e_get1, e_get2, get1R_str, get2R_str, get2R_int, e_join, joinR_lst, e_lok, lokR_dct, lokR_lst, i_enum', i_zip', i_items', i_rev', enumR_lst, enumR_kl, enumR_dct, zipR_lst, zipR_tup, itemsR_dct, revR_lst, itsR_dct, s_frzL, thawL_at, thawB_own, thawB_val, thawB_no, bf_listD, bf_lenD, bf_dict, bf_sum, bf_all, bf_any, c_isN, c_notN, c_isB, c_notB, c_eqB, c_neB, c_leS, c_ltS, c_gtS, c_geS, c_inDs, c_notInDs, b_add, b_sub, b_mul, b_fdiv, b_mod, b_pow, b_cat, b_catS, c_eqI, c_neI, c_eqS, c_neS, c_lt, c_le, c_gt, c_ge, bf_abs, bf_lenL, bf_lenK, bf_lenT, bf_lenS, bf_max, bf_min, bf_list, bf_listT, bf_tuple, bf_tupleT, bf_int, tr_bl, slK, slL, e_fmt, fmtR_str, e_fst, fstR_ok, e_tix, e_maxd, maxdR_ok, e_sset, i_rng3', e_isc, e_isx, e_cald, e_mk, mkR_ok, e_fld, fldR_ok, e_mth, mthR_ok, mthX_ok, seq_nx, seq_ret, seq_brk, seq_exc, seq_ite, wh_nx, wh_brk, wh_ret, wh_exc, wh_ite, fin_nx, fin_ret, fin_exc, fin_ite, List.getElem?_cons_succ, List.getElem?_cons_zero, List.set_cons_zero, List.set_cons_succ, List.map_cons, List.map_nil, List.cons_append, List.nil_append, List.replicate_succ, List.replicate_zero, List.length_cons, List.length_nil, if_true, ite_true, if_false, ite_false, Bool.false_eq_true, decide_eq_true_eq, decide_not, Bool.not_eq_true', Bool.not_true, Bool.not_false, Bool.or_true, Bool.true_or, Bool.or_false, Bool.false_or, not_true_eq_false, not_false_eq_true, bne_iff_ne, ne_eq, reduceCtorEq, eq_self, decide_true, decide_false, dInt, dBl, Nat.reduceAdd, Nat.reduceSub, Nat.reduceLeDiff, Nat.zero_add, Int.reduceToNat, f_law, k0, k1, k2, slK, hsl, r1, t1, d4, n8, h2]
  have hpad : evSs ⟨run I fs 11, I⟩ f_law.body ([D.kl (ns.map .int)].map Sl.val ++ List.replicate (8 - [D.kl (ns.map .int)].length) .no) = _ := hpad
  rw [hpad]
  have hgo : ∀ q ∈ gs, PcOk q.2 := fun q hq => (r3 q.2 (by rw [← t2]; exact List.mem_map_of_mem hq)).1
  have hm := meas_lay gs [] 0 0 e hgo t3 (by decide) (Int.le_refl _) (by decide) (.inr rfl)
  rw [t2] at hm
  have htl := too_long_ok (n := 11) (by decide) (flat gs ++ rep e) ps
  obtain ⟨l, hl⟩ : ∃ l, flat gs ++ rep e = l := ⟨_, rfl⟩
  rw [hl] at hm htl
  rw [hl]
  cases hlong : (decide (2000 < l.length) || tlong ps 0) with
  | true =>
    rw [hlong] at htl
    have hw := way_long (n := 11) (by decide) (l := l) (by
      rcases Bool.or_eq_true_iff.mp hlong with z | z
      · exact .inl (of_decide_eq_true z)
      · exact .inr (hm.mpr z))
    refine ⟨false, ?_⟩
    simp only [ss_nil, ss_cons, s_setF, setF_ok, s_setT, setT_ok, s_unp, unp_two, unp_three, s_exp, expR_ok, expR_exc, s_app, appA_own, s_ext, extA_own, s_put, putA_str, putA_int, s_try1, tryO_nx, tryO_ret, s_tryK, tryKO_nx, tryKO_ret, s_pop2, pop2A_str, s_pop1, popN_none, popN_some, s_upd, updA_dct, s_ret, retR_ok, s_retv, rvR_own, s_retN, s_ite, iteR_ok, s_whl, whT_ok, s_fr, frR_ok, s_brk, s_pas, s_rai, s_frz, e_var, var_val, e_lit, e_bin, bin2_ok, e_neg, negR_int, e_not, notR_bl, e_and, andR_bl, e_or, orR_bl, e_cmp, cmp2_ok, e_chn, chnR_bl, e_tup, e_lst, tup0, tup1, tup2, tup3, tup4, lst0, lst1, lst2, lst3, lst4, lst5, e_idx, idx2_ok, e_slc, slc3_ok, e_call, calR_ok, e_bf, bfR_ok, e_isi, isiR_int, isiR_bl, isiR_str, isiR_tup, isiR_lst, isiR_non, e_lent, lentR_ok, lentOk_int, lentOk_dct, lentOk_bl, lentOk_str, lentOk_non, e_comp, compR_ok, lstT_ok, blR_bl, t_and', andB_ok, t_or', orB_ok, t_not', notB_ok, t_cmp', t_chn', t_lent', t_v', truR_ok, t_yes', es_nil, es_cons, consR_ok, p_no, p_at, inR_int, i_seq', itsR_lst, itsR_tup, itsR_kl, i_rng1', i_rng2', thaw_nil, thaw_cons, thaw1_at, thawA_own, thawA_val, thawA_no, wipe_nil, wipe_cons, e_dnew, e_dnewN, s_clr, clrA_own, e_get1, e_get2, get1R_str, get2R_str, get2R_int, e_join, joinR_lst, e_lok, lokR_dct, lokR_lst, i_enum', i_zip', i_items', i_rev', enumR_lst, enumR_kl, enumR_dct, zipR_lst, zipR_tup, itemsR_dct, revR_lst, itsR_dct, s_frzL, thawL_at, thawB_own, thawB_val, thawB_no, bf_listD, bf_lenD, bf_dict, bf_sum, bf_all, bf_any, c_isN, c_notN, c_isB, c_notB, c_eqB, c_neB, c_leS, c_ltS, c_gtS, c_geS, c_inDs, c_notInDs, b_add, b_sub, b_mul, b_fdiv, b_mod, b_pow, b_cat, b_catS, c_eqI, c_neI, c_eqS, c_neS, c_lt, c_le, c_gt, c_ge, bf_abs, bf_lenL, bf_lenK, bf_lenT, bf_lenS, bf_max, bf_min, bf_list, bf_listT, bf_tuple, bf_tupleT, bf_int, tr_bl, slK, slL, e_fmt, fmtR_str, e_fst, fstR_ok, e_tix, e_maxd, maxdR_ok, e_sset, i_rng3', e_isc, e_isx, e_cald, e_mk, mkR_ok, e_fld, fldR_ok, e_mth, mthR_ok, mthX_ok, seq_nx, seq_ret, seq_brk, seq_exc, seq_ite, wh_nx, wh_brk, wh_ret, wh_exc, wh_ite, fin_nx, fin_ret, fin_exc, fin_ite, List.getElem?_cons_succ, List.getElem?_cons_zero, List.set_cons_zero, List.set_cons_succ, List.map_cons, List.map_nil, List.cons_append, List.nil_append, List.replicate_succ, List.replicate_zero, List.length_cons, List.length_nil, if_true, ite_true, if_false, ite_false, Bool.false_eq_true, decide_eq_true_eq, decide_not, Bool.not_eq_true', Bool.not_true, Bool.not_false, Bool.or_true, Bool.true_or, Bool.or_false, Bool.false_or, not_true_eq_false, not_false_eq_true, bne_iff_ne, ne_eq, reduceCtorEq, eq_self, decide_true, decide_false, dInt, dBl, Nat.reduceAdd, Nat.reduceSub, Nat.reduceLeDiff, Nat.zero_add, Int.reduceToNat, htl, hw, beq_self_eq_true]
  | false =>
    rw [hlong] at htl
    obtain ⟨h1, h2⟩ := Bool.or_eq_false_iff.mp hlong
    have h1 := of_decide_eq_false h1
    have hmn : meas l 0 0 ≠ none := fun z => by rw [hm.mp z] at h2; cases h2
    rcases r2 with ⟨h3, hg⟩ | ⟨h3, p1, a, p2, rfl, hg1, ha, hg2⟩
    · have hgg : ∀ q ∈ gs, Good q.2 := fun q hq => hg q.2 (by rw [← t2]; exact List.mem_map_of_mem hq)
      have htk := toks_lay gs [] e (flat gs ++ rep e).length hgg t3 (Nat.le_refl _)
      rw [hl, t2] at htk
      have hpc := pieces_ok (n := 11) (by decide) (l := l) (by omega) hmn
      rw [htk] at hpc
      dsimp only at hpc
      obtain ⟨eq1, eq2⟩ := eq_st (ps := ps) fun p hp => good_low (hg p hp)
      have hcm := comp_mapL (C := ⟨run I fs 11, I⟩) (tg := .one 7) (e := .isi (.var 7) .str) (f := stD) (g := fun _ => D.bl true) (ρ := [.val (.kl (ns.map .int)), .val (.int first), .val (.int second), .val (.lst (ps.map stD)), .val (.str (tx l)), .val (.lst (ps.map stD)), s6, .no]) ps fun p hp => ⟨_, false, rfl, rfl⟩
      have hall : bfD .all [.lst (ps.map fun _ => D.bl true)] = .ok (.bl true, false) := by
        have := bf_all (bs := ps.map fun _ => true)
        rw [List.map_map] at this
        have e : (ps.map fun _ => true).all id = true := by rw [List.all_map]; exact List.all_eq_true.mpr fun _ _ => rfl
        rw [e] at this
        exact this
      have h3 := eq_false h3
      refine ⟨false, ?_⟩
      simp only [ss_nil, ss_cons, s_setF, setF_ok, s_setT, setT_ok, s_unp, unp_two, unp_three, s_exp, expR_ok, expR_exc, s_app, appA_own, s_ext, extA_own, s_put, putA_str, putA_int, s_try1, tryO_nx, tryO_ret, s_tryK, tryKO_nx, tryKO_ret, s_pop2, pop2A_str, s_pop1, popN_none, popN_some, s_upd, updA_dct, s_ret, retR_ok, s_retv, rvR_own, s_retN, s_ite, iteR_ok, s_whl, whT_ok, s_fr, frR_ok, s_brk, s_pas, s_rai, s_frz, e_var, var_val, e_lit, e_bin, bin2_ok, e_neg, negR_int, e_not, notR_bl, e_and, andR_bl, e_or, orR_bl, e_cmp, cmp2_ok, e_chn, chnR_bl, e_tup, e_lst, tup0, tup1, tup2, tup3, tup4, lst0, lst1, lst2, lst3, lst4, lst5, e_idx, idx2_ok, e_slc, slc3_ok, e_call, calR_ok, e_bf, bfR_ok, e_isi, isiR_int, isiR_bl, isiR_str, isiR_tup, isiR_lst, isiR_non, e_lent, lentR_ok, lentOk_int, lentOk_dct, lentOk_bl, lentOk_str, lentOk_non, e_comp, compR_ok, lstT_ok, blR_bl, t_and', andB_ok, t_or', orB_ok, t_not', notB_ok, t_cmp', t_chn', t_lent', t_v', truR_ok, t_yes', es_nil, es_cons, consR_ok, p_no, p_at, inR_int, i_seq', itsR_lst, itsR_tup, itsR_kl, i_rng1', i_rng2', thaw_nil, thaw_cons, thaw1_at, thawA_own, thawA_val, thawA_no, wipe_nil, wipe_cons, e_dnew, e_dnewN, s_clr, clrA_own, e_get1, e_get2, get1R_str, get2R_str, get2R_int, e_join, joinR_lst, e_lok, lokR_dct, lokR_lst, i_enum', i_zip', i_items', i_rev', enumR_lst, enumR_kl, enumR_dct, zipR_lst, zipR_tup, itemsR_dct, revR_lst, itsR_dct, s_frzL, thawL_at, thawB_own, thawB_val, thawB_no, bf_listD, bf_lenD, bf_dict, bf_sum, bf_all, bf_any, c_isN, c_notN, c_isB, c_notB, c_eqB, c_neB, c_leS, c_ltS, c_gtS, c_geS, c_inDs, c_notInDs, b_add, b_sub, b_mul, b_fdiv, b_mod, b_pow, b_cat, b_catS, c_eqI, c_neI, c_eqS, c_neS, c_lt, c_le, c_gt, c_ge, bf_abs, bf_lenL, bf_lenK, bf_lenT, bf_lenS, bf_max, bf_min, bf_list, bf_listT, bf_tuple, bf_tupleT, bf_int, tr_bl, slK, slL, e_fmt, fmtR_str, e_fst, fstR_ok, e_tix, e_maxd, maxdR_ok, e_sset, i_rng3', e_isc, e_isx, e_cald, e_mk, mkR_ok, e_fld, fldR_ok, e_mth, mthR_ok, mthX_ok, seq_nx, seq_ret, seq_brk, seq_exc, seq_ite, wh_nx, wh_brk, wh_ret, wh_exc, wh_ite, fin_nx, fin_ret, fin_exc, fin_ite, List.getElem?_cons_succ, List.getElem?_cons_zero, List.set_cons_zero, List.set_cons_succ, List.map_cons, List.map_nil, List.cons_append, List.nil_append, List.replicate_succ, List.replicate_zero, List.length_cons, List.length_nil, if_true, ite_true, if_false, ite_false, Bool.false_eq_true, decide_eq_true_eq, decide_not, Bool.not_eq_true', Bool.not_true, Bool.not_false, Bool.or_true, Bool.true_or, Bool.or_false, Bool.false_or, not_true_eq_false, not_false_eq_true, bne_iff_ne, ne_eq, reduceCtorEq, eq_self, decide_true, decide_false, dInt, dBl, Nat.reduceAdd, Nat.reduceSub, Nat.reduceLeDiff, Nat.zero_add, Int.reduceToNat, htl, n3, h3, hpc, hcm, hall, eq1, eq2]
    · obtain ⟨g1, g2', hge, q1, q2⟩ := List.map_eq_append_iff.mp t2
      obtain ⟨⟨g, a'⟩, g2, rfl, qa, q3⟩ := List.map_eq_cons_iff.mp q2
      subst hge
      have qa : a' = a := qa
      subst qa
      have htk := toks_alien g1 [] g a' g2 e (flat (g1 ++ (g, a') :: g2) ++ rep e).length (fun q hq => hg1 q.2 (by rw [← q1]; exact List.mem_map_of_mem hq)) ha (fun q hq => .inl (hg2 q.2 (by rw [← q3]; exact List.mem_map_of_mem hq))) t3 (Nat.le_refl _)
      rw [hl] at htk
      have hw := way_text (n := 11) (by decide) (l := l) (by omega) hmn htk
      have h3 := eq_true h3
      refine ⟨false, ?_⟩
      simp only [ss_nil, ss_cons, s_setF, setF_ok, s_setT, setT_ok, s_unp, unp_two, unp_three, s_exp, expR_ok, expR_exc, s_app, appA_own, s_ext, extA_own, s_put, putA_str, putA_int, s_try1, tryO_nx, tryO_ret, s_tryK, tryKO_nx, tryKO_ret, s_pop2, pop2A_str, s_pop1, popN_none, popN_some, s_upd, updA_dct, s_ret, retR_ok, s_retv, rvR_own, s_retN, s_ite, iteR_ok, s_whl, whT_ok, s_fr, frR_ok, s_brk, s_pas, s_rai, s_frz, e_var, var_val, e_lit, e_bin, bin2_ok, e_neg, negR_int, e_not, notR_bl, e_and, andR_bl, e_or, orR_bl, e_cmp, cmp2_ok, e_chn, chnR_bl, e_tup, e_lst, tup0, tup1, tup2, tup3, tup4, lst0, lst1, lst2, lst3, lst4, lst5, e_idx, idx2_ok, e_slc, slc3_ok, e_call, calR_ok, e_bf, bfR_ok, e_isi, isiR_int, isiR_bl, isiR_str, isiR_tup, isiR_lst, isiR_non, e_lent, lentR_ok, lentOk_int, lentOk_dct, lentOk_bl, lentOk_str, lentOk_non, e_comp, compR_ok, lstT_ok, blR_bl, t_and', andB_ok, t_or', orB_ok, t_not', notB_ok, t_cmp', t_chn', t_lent', t_v', truR_ok, t_yes', es_nil, es_cons, consR_ok, p_no, p_at, inR_int, i_seq', itsR_lst, itsR_tup, itsR_kl, i_rng1', i_rng2', thaw_nil, thaw_cons, thaw1_at, thawA_own, thawA_val, thawA_no, wipe_nil, wipe_cons, e_dnew, e_dnewN, s_clr, clrA_own, e_get1, e_get2, get1R_str, get2R_str, get2R_int, e_join, joinR_lst, e_lok, lokR_dct, lokR_lst, i_enum', i_zip', i_items', i_rev', enumR_lst, enumR_kl, enumR_dct, zipR_lst, zipR_tup, itemsR_dct, revR_lst, itsR_dct, s_frzL, thawL_at, thawB_own, thawB_val, thawB_no, bf_listD, bf_lenD, bf_dict, bf_sum, bf_all, bf_any, c_isN, c_notN, c_isB, c_notB, c_eqB, c_neB, c_leS, c_ltS, c_gtS, c_geS, c_inDs, c_notInDs, b_add, b_sub, b_mul, b_fdiv, b_mod, b_pow, b_cat, b_catS, c_eqI, c_neI, c_eqS, c_neS, c_lt, c_le, c_gt, c_ge, bf_abs, bf_lenL, bf_lenK, bf_lenT, bf_lenS, bf_max, bf_min, bf_list, bf_listT, bf_tuple, bf_tupleT, bf_int, tr_bl, slK, slL, e_fmt, fmtR_str, e_fst, fstR_ok, e_tix, e_maxd, maxdR_ok, e_sset, i_rng3', e_isc, e_isx, e_cald, e_mk, mkR_ok, e_fld, fldR_ok, e_mth, mthR_ok, mthX_ok, seq_nx, seq_ret, seq_brk, seq_exc, seq_ite, wh_nx, wh_brk, wh_ret, wh_exc, wh_ite, fin_nx, fin_ret, fin_exc, fin_ite, List.getElem?_cons_succ, List.getElem?_cons_zero, List.set_cons_zero, List.set_cons_succ, List.map_cons, List.map_nil, List.cons_append, List.nil_append, List.replicate_succ, List.replicate_zero, List.length_cons, List.length_nil, if_true, ite_true, if_false, ite_false, Bool.false_eq_true, decide_eq_true_eq, decide_not, Bool.not_eq_true', Bool.not_true, Bool.not_false, Bool.or_true, Bool.true_or, Bool.or_false, Bool.false_or, not_true_eq_false, not_false_eq_true, bne_iff_ne, ne_eq, reduceCtorEq, eq_self, decide_true, decide_false, dInt, dBl, Nat.reduceAdd, Nat.reduceSub, Nat.reduceLeDiff, Nat.zero_add, Int.reduceToNat, htl, n3, h3, hw, beq_self_eq_true]
end K09

namespace K09
open PySem PySem.Spec DL
def top (i : Nat) : Stmt := if i < 1000 then PySem.Challenge.pw_sumlaw_k09_pieces.main.body.getD i (.Pass ⟨0, 0, 0, 0⟩) else (DL.clsBody (PySem.Challenge.pw_sumlaw_k09_pieces.main.body.getD (i / 1000 - 1) (.Pass ⟨0, 0, 0, 0⟩))).getD (i % 1000) (.Pass ⟨0, 0, 0, 0⟩)
section
variable {P : Program} {w : World} {K : PySem.W.Frag} {mg : Str → Option Value}
theorem mod_ok (h0 : FnTop I P w K mg "measure_text" (top 10) ["text"]) (h1 : FnTop I P w K mg "run_from" (top 11) ["text", "at", "signs"]) (h2 : FnTop I P w K mg "piece_from" (top 12) ["text", "at"]) (h3 : FnTop I P w K mg "pieces" (top 13) ["text"]) (h4 : FnTop I P w K mg "_law_cell_at" (top 15) ["_law_script", "_law_k"]) (h5 : FnTop I P w K mg "_law_mix" (top 16) ["_law_cell", "_law_k", "_law_many"]) (h6 : FnTop I P w K mg "_law_parted" (top 17) ["_law_last", "_law_piece"]) (h7 : FnTop I P w K mg "_law_text_of" (top 18) ["_law_row", "_law_seed"]) (h8 : FnTop I P w K mg "_law_piece_by" (top 19) ["_law_cell"]) (h9 : FnTop I P w K mg "_law_alien" (top 20) ["_law_cell"]) (h10 : FnTop I P w K mg "_law_too_long" (top 21) ["_law_text", "_law_row"]) (h11 : FnTop I P w K mg "_law_row_by" (top 22) ["_law_cells", "_law_first", "_law_second"]) (h12 : FnTop I P w K mg "_law_way" (top 23) ["_law_text"]) (h13 : FnTop I P w K mg "law" (top 24) ["_law_script"]) (g0 : ∃ u v, mg "DEEP" = some u ∧ L2.RelV v u ∧ ∀ O H, Rep ⟨K, mg, w⟩ O H (.int 16) v) (g1 : ∃ u v, mg "FIGURES" = some u ∧ L2.RelV v u ∧ ∀ O H, Rep ⟨K, mg, w⟩ O H (.str "0123456789") v) (g2 : ∃ u v, mg "LETTERS" = some u ∧ L2.RelV v u ∧ ∀ O H, Rep ⟨K, mg, w⟩ O H (.str "abcdefghijklmnopqrstuvwxyz") v) (g3 : ∃ u v, mg "ROW" = some u ∧ L2.RelV v u ∧ ∀ O H, Rep ⟨K, mg, w⟩ O H (.int 60) v) (g4 : ∃ u v, mg "SIGNS" = some u ∧ L2.RelV v u ∧ ∀ O H, Rep ⟨K, mg, w⟩ O H (.int 2000) v) (x0 : ExcTop K mg "NoText") (x1 : ExcTop K mg "TooLong") (y0 : ExmTop K mg "NoText" "SumError" true) (y1 : ExmTop K mg "TooLong" "SumError" true) (u0 : IxmTop K mg "NoText" "NoText" true) (u1 : IxmTop K mg "NoText" "TooLong" false) (u2 : IxmTop K mg "TooLong" "NoText" false) (u3 : IxmTop K mg "TooLong" "TooLong" true) (z : ∀ x ∈ I.bns, mg x = none) : ModOk I fs P w K mg top where
  fns := (List.forall_mem_cons.mpr ⟨h0, (List.forall_mem_cons.mpr ⟨h1, (List.forall_mem_cons.mpr ⟨h2, (List.forall_mem_cons.mpr ⟨h3, (List.forall_mem_cons.mpr ⟨h4, (List.forall_mem_cons.mpr ⟨h5, (List.forall_mem_cons.mpr ⟨h6, (List.forall_mem_cons.mpr ⟨h7, (List.forall_mem_cons.mpr ⟨h8, (List.forall_mem_cons.mpr ⟨h9, (List.forall_mem_cons.mpr ⟨h10, (List.forall_mem_cons.mpr ⟨h11, (List.forall_mem_cons.mpr ⟨h12, (List.forall_mem_cons.mpr ⟨h13, (fun _ h => by cases h)⟩)⟩)⟩)⟩)⟩)⟩)⟩)⟩)⟩)⟩)⟩)⟩)⟩)⟩)
  fnd := fun f h => by
    have h := List.contains_iff_mem.mp h
    have key : ∀ f ∈ I.has, ∃ fi ∈ fs, fi.nm = f := fun f hf => by
      have : f ∈ fs.map (·.nm) := (show ∀ f ∈ I.has, f ∈ fs.map (·.nm) by decide +kernel) f hf
      obtain ⟨fi, a, b⟩ := List.mem_map.mp this
      exact ⟨fi, a, b⟩
    exact key f h
  nds := nd
  scs := by
    have key : fs.all (fun fi => scC fi.N fi.ps (L2.defScope (top fi.pl)) && ckSs fi.N I (L2.defScope (top fi.pl)) fi.body (L2.defBody (top fi.pl))) = true := by decide +kernel
    exact fun fi h => List.all_eq_true.mp key fi h
  mts := by
    have key : I.cls.all (fun r => r.2.2.all fun q => (fs.map (·.nm)).contains q.2) = true := by decide +kernel
    intro r hr q hq
    have := List.contains_iff_mem.mp (List.all_eq_true.mp (List.all_eq_true.mp key r hr) q hq)
    obtain ⟨fi, a, b⟩ := List.mem_map.mp this
    exact ⟨fi, a, b⟩
  dfs := by
    have key : I.df.all (fun r => (fs.map (·.nm)).contains r.1) = true := by decide +kernel
    intro f dv h
    have := List.contains_iff_mem.mp (List.all_eq_true.mp key (f, dv) (DL.look_mem h))
    obtain ⟨fi, a, b⟩ := List.mem_map.mp this
    exact ⟨fi, a, b⟩
  cls := (fun _ h => by cases h)
  nem := by
    have key : fs.all (fun fi => !decide (fi.nm = Str.empty)) = true := by decide +kernel
    intro fi h
    have := List.all_eq_true.mp key fi h
    simpa using this
  glb := fun x d h => by
    have key : ∀ p ∈ I.gt, ∃ u v, mg p.1 = some u ∧ L2.RelV v u ∧ ∀ O H, Rep ⟨K, mg, w⟩ O H p.2 v := (List.forall_mem_cons.mpr ⟨g0, (List.forall_mem_cons.mpr ⟨g1, (List.forall_mem_cons.mpr ⟨g2, (List.forall_mem_cons.mpr ⟨g3, (List.forall_mem_cons.mpr ⟨g4, (fun _ h => by cases h)⟩)⟩)⟩)⟩)⟩) 
    exact key (x, d) (DL.look_mem h)
  dtb := fun x tb h => by
    have key : ∀ p ∈ I.dt, ∃ a, mg p.1 = some (.ref a) ∧ ∀ z d, p.2.lookup z = some d → ∃ v, L2.KDct K w a z v ∧ ∀ O H, Rep ⟨K, mg, w⟩ O H d v := (fun _ h => by cases h)
    exact key (x, tb) (DL.look_mem h)
  bn := z
  exs := fun c h => by
    have h := List.contains_iff_mem.mp h
    have key : ∀ c ∈ I.exs, ExcTop K mg c := (List.forall_mem_cons.mpr ⟨x0, (List.forall_mem_cons.mpr ⟨x1, (fun _ h => by cases h)⟩)⟩)
    exact key c h
  exm := (List.forall_mem_cons.mpr ⟨y0, (List.forall_mem_cons.mpr ⟨y1, (fun _ h => by cases h)⟩)⟩)
  ism := (fun _ h => by cases h)
  ixm := (List.forall_mem_cons.mpr ⟨u0, (List.forall_mem_cons.mpr ⟨u1, (List.forall_mem_cons.mpr ⟨u2, (List.forall_mem_cons.mpr ⟨u3, (fun _ h => by cases h)⟩)⟩)⟩)⟩)
end
end K09
open PySem PySem.W PyProof.Rows
set_option maxRecDepth 100000 in
set_option maxHeartbeats 0 in
theorem PySem.Challenge.cw_sumlaw_k09_pieces_holds : PySem.Challenge.rw_sumlaw_k09_pieces.Holds := by
  w_on; o_law; k_head; (case hw => w_witness2)
  k_fill
  refine DL.law_walk (l := PySem.Challenge.rw_sumlaw_k09_pieces) (k := 12) (x := "_law_script") ⟨rfl, by decide, by decide⟩ rfl rfl (fun w h Y => PySem.W.kIn_of Y) ?F
  case F =>
    intro w mg fa h KX G hmg
    have z : ∀ x ∈ K09.I.bns, mg x = none := by
      refine List.forall_mem_cons.mpr ⟨PySem.W.mg_none_of KX G (by k_is), ?_⟩
      refine List.forall_mem_cons.mpr ⟨PySem.W.mg_none_of KX G (by k_is), ?_⟩
      refine List.forall_mem_cons.mpr ⟨PySem.W.mg_none_of KX G (by k_is), ?_⟩
      refine List.forall_mem_cons.mpr ⟨PySem.W.mg_none_of KX G (by k_is), ?_⟩
      refine List.forall_mem_cons.mpr ⟨PySem.W.mg_none_of KX G (by k_is), ?_⟩
      refine List.forall_mem_cons.mpr ⟨PySem.W.mg_none_of KX G (by k_is), ?_⟩
      refine List.forall_mem_cons.mpr ⟨PySem.W.mg_none_of KX G (by k_is), ?_⟩
      refine List.forall_mem_cons.mpr ⟨PySem.W.mg_none_of KX G (by k_is), ?_⟩
      exact fun _ h => by cases h
    have h0 : DL.FnTop K09.I (PySem.Challenge.rw_sumlaw_k09_pieces).prog w _ mg "measure_text" (K09.top 10) ["text"] := DL.top_fn (DL.fn_top KX G (fun _ _ _ _ _ _ us hl => match us, hl with | [_], _ => rfl) (by k_is) (by k_is) (by k_is) (by k_is)) (by decide +kernel) (by decide +kernel)
    have h1 : DL.FnTop K09.I (PySem.Challenge.rw_sumlaw_k09_pieces).prog w _ mg "run_from" (K09.top 11) ["text", "at", "signs"] := DL.top_fn (DL.fn_top KX G (fun _ _ _ _ _ _ us hl => match us, hl with | [_, _, _], _ => rfl) (by k_is) (by k_is) (by k_is) (by k_is)) (by decide +kernel) (by decide +kernel)
    have h2 : DL.FnTop K09.I (PySem.Challenge.rw_sumlaw_k09_pieces).prog w _ mg "piece_from" (K09.top 12) ["text", "at"] := DL.top_fn (DL.fn_top KX G (fun _ _ _ _ _ _ us hl => match us, hl with | [_, _], _ => rfl) (by k_is) (by k_is) (by k_is) (by k_is)) (by decide +kernel) (by decide +kernel)
    have h3 : DL.FnTop K09.I (PySem.Challenge.rw_sumlaw_k09_pieces).prog w _ mg "pieces" (K09.top 13) ["text"] := DL.top_fn (DL.fn_top KX G (fun _ _ _ _ _ _ us hl => match us, hl with | [_], _ => rfl) (by k_is) (by k_is) (by k_is) (by k_is)) (by decide +kernel) (by decide +kernel)
    have h4 : DL.FnTop K09.I (PySem.Challenge.rw_sumlaw_k09_pieces).prog w _ mg "_law_cell_at" (K09.top 15) ["_law_script", "_law_k"] := DL.top_fn (DL.fn_top KX G (fun _ _ _ _ _ _ us hl => match us, hl with | [_, _], _ => rfl) (by k_is) (by k_is) (by k_is) (by k_is)) (by decide +kernel) (by decide +kernel)
    have h5 : DL.FnTop K09.I (PySem.Challenge.rw_sumlaw_k09_pieces).prog w _ mg "_law_mix" (K09.top 16) ["_law_cell", "_law_k", "_law_many"] := DL.top_fn (DL.fn_top KX G (fun _ _ _ _ _ _ us hl => match us, hl with | [_, _, _], _ => rfl) (by k_is) (by k_is) (by k_is) (by k_is)) (by decide +kernel) (by decide +kernel)
    have h6 : DL.FnTop K09.I (PySem.Challenge.rw_sumlaw_k09_pieces).prog w _ mg "_law_parted" (K09.top 17) ["_law_last", "_law_piece"] := DL.top_fn (DL.fn_top KX G (fun _ _ _ _ _ _ us hl => match us, hl with | [_, _], _ => rfl) (by k_is) (by k_is) (by k_is) (by k_is)) (by decide +kernel) (by decide +kernel)
    have h7 : DL.FnTop K09.I (PySem.Challenge.rw_sumlaw_k09_pieces).prog w _ mg "_law_text_of" (K09.top 18) ["_law_row", "_law_seed"] := DL.top_fn (DL.fn_top KX G (fun _ _ _ _ _ _ us hl => match us, hl with | [_, _], _ => rfl) (by k_is) (by k_is) (by k_is) (by k_is)) (by decide +kernel) (by decide +kernel)
    have h8 : DL.FnTop K09.I (PySem.Challenge.rw_sumlaw_k09_pieces).prog w _ mg "_law_piece_by" (K09.top 19) ["_law_cell"] := DL.top_fn (DL.fn_top KX G (fun _ _ _ _ _ _ us hl => match us, hl with | [_], _ => rfl) (by k_is) (by k_is) (by k_is) (by k_is)) (by decide +kernel) (by decide +kernel)
    have h9 : DL.FnTop K09.I (PySem.Challenge.rw_sumlaw_k09_pieces).prog w _ mg "_law_alien" (K09.top 20) ["_law_cell"] := DL.top_fn (DL.fn_top KX G (fun _ _ _ _ _ _ us hl => match us, hl with | [_], _ => rfl) (by k_is) (by k_is) (by k_is) (by k_is)) (by decide +kernel) (by decide +kernel)
    have h10 : DL.FnTop K09.I (PySem.Challenge.rw_sumlaw_k09_pieces).prog w _ mg "_law_too_long" (K09.top 21) ["_law_text", "_law_row"] := DL.top_fn (DL.fn_top KX G (fun _ _ _ _ _ _ us hl => match us, hl with | [_, _], _ => rfl) (by k_is) (by k_is) (by k_is) (by k_is)) (by decide +kernel) (by decide +kernel)
    have h11 : DL.FnTop K09.I (PySem.Challenge.rw_sumlaw_k09_pieces).prog w _ mg "_law_row_by" (K09.top 22) ["_law_cells", "_law_first", "_law_second"] := DL.top_fn (DL.fn_top KX G (fun _ _ _ _ _ _ us hl => match us, hl with | [_, _, _], _ => rfl) (by k_is) (by k_is) (by k_is) (by k_is)) (by decide +kernel) (by decide +kernel)
    have h12 : DL.FnTop K09.I (PySem.Challenge.rw_sumlaw_k09_pieces).prog w _ mg "_law_way" (K09.top 23) ["_law_text"] := DL.top_fn (DL.fn_top KX G (fun _ _ _ _ _ _ us hl => match us, hl with | [_], _ => rfl) (by k_is) (by k_is) (by k_is) (by k_is)) (by decide +kernel) (by decide +kernel)
    have hl0 := DL.fn_top (x := "law") (st := K09.top 24) (ps := ["_law_script"]) KX G (fun _ _ _ _ _ _ us hl => match us, hl with | [_], _ => rfl) (by k_is) (by k_is) (by k_is) (by k_is)
    have h13 : DL.FnTop K09.I (PySem.Challenge.rw_sumlaw_k09_pieces).prog w _ mg "law" (K09.top 24) ["_law_script"] := DL.top_fn hl0 (by decide +kernel) (by decide +kernel)
    have g0 := DL.glb_top (w := w) (x := "DEEP") (d := (.int 16)) KX G (by k_is) DL.krep_int
    have g1 := DL.glb_top (w := w) (x := "FIGURES") (d := (.str "0123456789")) KX G (by k_is) (DL.krep_str (by decide +kernel))
    have g2 := DL.glb_top (w := w) (x := "LETTERS") (d := (.str "abcdefghijklmnopqrstuvwxyz")) KX G (by k_is) (DL.krep_str (by decide +kernel))
    have g3 := DL.glb_top (w := w) (x := "ROW") (d := (.int 60)) KX G (by k_is) DL.krep_int
    have g4 := DL.glb_top (w := w) (x := "SIGNS") (d := (.int 2000)) KX G (by k_is) DL.krep_int
    have x0 := DL.exc_top (c := "NoText") KX G (by k_is) (by k_exc) (by k_is) (by k_is) (by k_is)
    have x1 := DL.exc_top (c := "TooLong") KX G (by k_is) (by k_exc) (by k_is) (by k_is) (by k_is)
    have y0 := DL.exm_top (r := "NoText") (c := "SumError") (b := true) KX G (by k_is) (by k_is) (by kts_exm)
    have y1 := DL.exm_top (r := "TooLong") (c := "SumError") (b := true) KX G (by k_is) (by k_is) (by kts_exm)
    have u0 := DL.ixm_top (r := "NoText") (c := "NoText") (b := true) KX G (by k_is) (by k_is) ⟨by k_is, by k_is, by k_is, by k_is, by k_is, by k_is, by k_is, by k_is⟩ (by kit_is)
    have u1 := DL.ixm_top (r := "NoText") (c := "TooLong") (b := false) KX G (by k_is) (by k_is) ⟨by k_is, by k_is, by k_is, by k_is, by k_is, by k_is, by k_is, by k_is⟩ (by kit_is)
    have u2 := DL.ixm_top (r := "TooLong") (c := "NoText") (b := false) KX G (by k_is) (by k_is) ⟨by k_is, by k_is, by k_is, by k_is, by k_is, by k_is, by k_is, by k_is⟩ (by kit_is)
    have u3 := DL.ixm_top (r := "TooLong") (c := "TooLong") (b := true) KX G (by k_is) (by k_is) ⟨by k_is, by k_is, by k_is, by k_is, by k_is, by k_is, by k_is, by k_is⟩ (by kit_is)
    obtain ⟨lfa, lfd, FL, eL, _⟩ := hl0
    cases hmg.symm.trans eL
    exact DL.law_top (K09.mod_ok h0 h1 h2 h3 h4 h5 h6 h7 h8 h9 h10 h11 h12 h13 g0 g1 g2 g3 g4 x0 x1 y0 y1 u0 u1 u2 u3 z) (List.mem_of_getElem? (i := 13) rfl) rfl FL (fun _ _ _ _ _ _ _ _ => .of_eq rfl) fun ns hl => K09.law_ok ns
